import PyProof.Rows.All
import Wide.All
import OpenK.AllK
import Wide.FinOn
import PyProof.Rows.StrIntSpec
import PyProof.FString3
import KE.GoesEnumKw
import HandS.ForMost
import HandS.Codes
import HandS.FStr
import KE.KSuper
import KE.KExcSuper
import HandS.ForExc
import HandS.ExcInit
import HandS.IsInst
import HandS.StrMore
import HandS.Flow
import HandS.Property
import HandS.Defaults
import HandS.Wide
import PySem.Challenge.RW_livingroll_k35_whole_mended_twice_as_onc
import HandS.Evl
set_option Elab.async false
set_option linter.all false
set_option maxRecDepth 100000
set_option maxHeartbeats 4000000

/-! The mathematics of mending, in plain Lean over lists of code points. -/
namespace K35

/-! ### cutting at a sign -/
def sp (s : Nat) : List Nat → List Nat → List (List Nat)
  | acc, [] => [acc]
  | acc, c :: r => if c = s then acc :: sp s [] r else sp s (acc ++ [c]) r
theorem sp_nil (s : Nat) (acc : List Nat) : sp s acc [] = [acc] := rfl
theorem sp_cons (s : Nat) (acc : List Nat) (c : Nat) (r : List Nat) : sp s acc (c :: r) = if c = s then acc :: sp s [] r else sp s (acc ++ [c]) r := rfl
theorem sp_part {s : Nat} : ∀ (p acc rest : List Nat), s ∉ p → sp s acc (p ++ s :: rest) = (acc ++ p) :: sp s [] rest
  | [], acc, rest, _ => by
    rw [List.nil_append, sp_cons, if_pos rfl, List.append_nil]
  | c :: p, acc, rest, h => by
    have hc : c ≠ s := fun e => h (by rw [e]; exact List.mem_cons_self ..)
    rw [List.cons_append, sp_cons, if_neg hc, sp_part p (acc ++ [c]) rest (fun z => h (List.mem_cons_of_mem _ z)), List.append_assoc]
    rfl
theorem sp_last {s : Nat} : ∀ (p acc : List Nat), s ∉ p → sp s acc p = [acc ++ p]
  | [], acc, _ => by rw [sp_nil, List.append_nil]
  | c :: p, acc, h => by
    have hc : c ≠ s := fun e => h (by rw [e]; exact List.mem_cons_self ..)
    rw [sp_cons, if_neg hc, sp_last p (acc ++ [c]) (fun z => h (List.mem_cons_of_mem _ z)), List.append_assoc]
    rfl
theorem sp_len {s : Nat} : ∀ (l acc : List Nat), (sp s acc l).length = l.count s + 1
  | [], acc => rfl
  | c :: r, acc => by
    rw [sp_cons]
    by_cases h : c = s
    · rw [if_pos h, List.length_cons, sp_len r [], h, List.count_cons_self]
    · rw [if_neg h, sp_len r _, List.count_cons_of_ne h]
theorem sp_ne {s : Nat} (l acc : List Nat) : sp s acc l ≠ [] := fun e => by
  have := sp_len (s := s) l acc
  rw [e] at this
  simp at this
theorem sp_head {s : Nat} : ∀ (l acc : List Nat) (w : List Nat) (r : List (List Nat)), sp s acc l = w :: r → ∃ t, acc ++ l = w ++ t
  | [], acc, w, r, h => by
    rw [sp_nil] at h
    injection h with h1 h2
    exact ⟨[], by rw [h1]⟩
  | c :: l, acc, w, r, h => by
    rw [sp_cons] at h
    by_cases hc : c = s
    · rw [if_pos hc] at h
      injection h with h1 h2
      exact ⟨c :: l, by rw [h1]⟩
    · rw [if_neg hc] at h
      obtain ⟨t, e⟩ := sp_head l (acc ++ [c]) w r h
      exact ⟨t, by rw [← e, List.append_assoc]; rfl⟩
/-- every piece is free of the sign -/
theorem sp_free {s : Nat} : ∀ (l acc : List Nat), s ∉ acc → ∀ p ∈ sp s acc l, s ∉ p
  | [], acc, ha, p, hp => by
    rw [sp_nil] at hp
    rw [List.mem_singleton.mp hp]
    exact ha
  | c :: l, acc, ha, p, hp => by
    rw [sp_cons] at hp
    by_cases hc : c = s
    · rw [if_pos hc] at hp
      rcases List.mem_cons.mp hp with e | hp
      · rw [e]; exact ha
      · exact sp_free l [] (by simp) p hp
    · rw [if_neg hc] at hp
      refine sp_free l (acc ++ [c]) ?_ p hp
      intro z
      rcases List.mem_append.mp z with z | z
      · exact ha z
      · exact hc (List.mem_singleton.mp z).symm

/-! ### checks and lines -/
def wsum : Nat → List Nat → Nat
  | _, [] => 0
  | k, c :: r => (k + 1) * c + wsum (k + 1) r
theorem wsum_app : ∀ (a b : List Nat) (k : Nat), wsum k (a ++ b) = wsum k a + wsum (k + a.length) b
  | [], b, k => by simp [wsum]
  | c :: a, b, k => by
    rw [List.cons_append, wsum, wsum, wsum_app a b (k + 1), List.length_cons]
    have : k + 1 + a.length = k + (a.length + 1) := by omega
    rw [this]
    omega
def pad4 (n : Nat) : List Nat := [48 + n / 1000, 48 + n / 100 % 10, 48 + n / 10 % 10, 48 + n % 10]
theorem pad4_len (n : Nat) : (pad4 n).length = 4 := rfl
theorem pad4_inj {m n : Nat} (h : pad4 m = pad4 n) : m = n := by
  unfold pad4 at h
  injection h with h1 h
  injection h with h2 h
  injection h with h3 h
  injection h with h4 h
  omega
def chk (b : List Nat) : Nat := wsum 0 b % 9973
theorem chk_lt (b : List Nat) : chk b < 9973 := Nat.mod_lt _ (by decide)
/-- the line of a body without, with its newline -/
def gline (b : List Nat) : List Nat := b ++ 32 :: pad4 (chk b)
def dline (b : List Nat) : List Nat := gline b ++ [10]
theorem gline_len (b : List Nat) : (gline b).length = b.length + 5 := by simp [gline, pad4_len]
theorem dline_len (b : List Nat) : (dline b).length = b.length + 6 := by simp [dline, gline_len]
theorem gline_take (b : List Nat) : (gline b).take b.length = b := by simp [gline]
theorem gline_drop (b : List Nat) : (gline b).drop b.length = 32 :: pad4 (chk b) := by simp [gline]
theorem pad4_no {n : Nat} (h : n < 9973) {c : Nat} (hc : c ∈ pad4 n) : 48 ≤ c ∧ c ≤ 57 := by
  unfold pad4 at hc
  simp only [List.mem_cons, List.not_mem_nil, or_false] at hc
  omega
theorem gline_no10 {b : List Nat} (h : 10 ∉ b) : 10 ∉ gline b := by
  intro z
  unfold gline at z
  rcases List.mem_append.mp z with z | z
  · exact h z
  · rcases List.mem_cons.mp z with z | z
    · cases z
    · have := pad4_no (chk_lt b) z
      omega
theorem pad4_count {n : Nat} (h : n < 9973) : (pad4 n).count 32 = 0 := by
  refine List.count_eq_zero.mpr fun z => ?_
  have := pad4_no h z
  omega
theorem gline_count (b : List Nat) : (gline b).count 32 = b.count 32 + 1 := by
  unfold gline
  rw [List.count_append, List.count_cons_self, pad4_count (chk_lt b)]

/-- the bodies of the right lines ahead of the first wrong one -/
def good : List (List Nat) → List (List Nat)
  | [] => []
  | l :: r => if dline (l.take (l.length - 5)) = l ++ [10] then l.take (l.length - 5) :: good r else []
theorem good_cons (l : List Nat) (r : List (List Nat)) : good (l :: r) = if dline (l.take (l.length - 5)) = l ++ [10] then l.take (l.length - 5) :: good r else [] := rfl
theorem good_gline (b : List Nat) (r : List (List Nat)) : good (gline b :: r) = b :: good r := by
  rw [good_cons]
  have e : (gline b).take ((gline b).length - 5) = b := by
    rw [gline_len, Nat.add_sub_cancel, gline_take]
  rw [e, if_pos (show dline b = gline b ++ [10] from rfl)]
theorem good_app : ∀ (bs : List (List Nat)) (r : List (List Nat)), good (bs.map gline ++ r) = bs ++ good r
  | [], r => rfl
  | b :: bs, r => by
    rw [List.map_cons, List.cons_append, good_gline, good_app bs r]
    rfl
theorem good_head {l : List Nat} {r rest : List (List Nat)} {b : List Nat} (h : good (l :: r) = b :: rest) : l = gline b := by
  rw [good_cons] at h
  by_cases hc : dline (l.take (l.length - 5)) = l ++ [10]
  · rw [if_pos hc] at h
    injection h with h1 h2
    unfold dline at hc
    rw [h1] at hc
    exact (List.append_cancel_right hc).symm
  · rw [if_neg hc] at h
    cases h

/-! ### numbers -/
def dval (l : List Nat) : Nat := l.foldl (fun a c => a * 10 + (c - 48)) 0
def Digs (l : List Nat) : Prop := ∀ c ∈ l, 48 ≤ c ∧ c ≤ 57
instance (l : List Nat) : Decidable (Digs l) := by unfold Digs; infer_instance
def pnum (l : List Nat) (k : Nat) : Option Nat := if (l ≠ [] ∧ Digs l) ∧ l.length ≤ k ∧ ¬ (l.head? = some 48 ∧ 1 < l.length) then some (dval l) else none
theorem pnum_some {l : List Nat} {k n : Nat} (h : pnum l k = some n) : l ≠ [] ∧ Digs l ∧ l.length ≤ k ∧ ¬ (l.head? = some 48 ∧ 1 < l.length) ∧ n = dval l := by
  unfold pnum at h
  split at h
  · rename_i hh
    injection h with h
    exact ⟨hh.1.1, hh.1.2, hh.2.1, hh.2.2, h.symm⟩
  · cases h
def dg (n : Nat) : List Nat := if n < 10 then [48 + n] else dg (n / 10) ++ [48 + n % 10]
termination_by n
decreasing_by omega
theorem dg_lt {n : Nat} (h : n < 10) : dg n = [48 + n] := by rw [dg, if_pos h]
theorem dg_step {n : Nat} (h : 10 ≤ n) : dg n = dg (n / 10) ++ [48 + n % 10] := by rw [dg, if_neg (by omega)]
theorem dg_digs (n : Nat) : Digs (dg n) := by
  induction n using Nat.strongRecOn with
  | _ n ih =>
    by_cases h : n < 10
    · rw [dg_lt h]
      intro c hc
      rw [List.mem_singleton.mp hc]
      omega
    · rw [dg_step (by omega)]
      intro c hc
      rcases List.mem_append.mp hc with hc | hc
      · exact ih (n / 10) (by omega) c hc
      · rw [List.mem_singleton.mp hc]
        omega
theorem dg_ne (n : Nat) : dg n ≠ [] := by
  by_cases h : n < 10
  · rw [dg_lt h]; simp
  · rw [dg_step (by omega)]; simp
theorem dg_val (n : Nat) : dval (dg n) = n := by
  induction n using Nat.strongRecOn with
  | _ n ih =>
    by_cases h : n < 10
    · rw [dg_lt h]
      simp [dval]
    · rw [dg_step (by omega)]
      unfold dval
      rw [List.foldl_append]
      have := ih (n / 10) (by omega)
      unfold dval at this
      rw [this]
      simp
      omega
theorem dg_len {n k : Nat} (hk : 0 < k) (h : n < 10 ^ k) : (dg n).length ≤ k := by
  induction k generalizing n with
  | zero => omega
  | succ k ih =>
    by_cases hn : n < 10
    · rw [dg_lt hn]
      simp
    · rw [dg_step (by omega), List.length_append]
      have hk0 : 0 < k := by
        rcases Nat.eq_zero_or_pos k with e | e
        · subst e
          simp at h
          omega
        · exact e
      have hp : 10 ^ (k + 1) = 10 ^ k * 10 := Nat.pow_succ ..
      have := ih (n := n / 10) hk0 (by omega)
      simp
      omega
theorem dg_head {n : Nat} (h : 0 < n) : (dg n).head? ≠ some 48 := by
  induction n using Nat.strongRecOn with
  | _ n ih =>
    by_cases hn : n < 10
    · rw [dg_lt hn]
      simp
      omega
    · rw [dg_step (by omega)]
      have := ih (n / 10) (by omega) (by omega)
      cases hd : dg (n / 10) with
      | nil => exact absurd hd (dg_ne _)
      | cons c r =>
        rw [hd] at this
        simpa using this
theorem dg_pnum {n k : Nat} (hk : 0 < k) (h : n < 10 ^ k) : pnum (dg n) k = some n := by
  unfold pnum
  rw [if_pos, dg_val]
  refine ⟨⟨dg_ne n, dg_digs n⟩, dg_len hk h, ?_⟩
  rintro ⟨h1, h2⟩
  rcases Nat.eq_zero_or_pos n with e | e
  · subst e
    rw [dg_lt (by decide)] at h2
    simp at h2
  · exact dg_head e h1
theorem dval_lt_aux : ∀ (l : List Nat) (a : Nat), Digs l → l.foldl (fun a c => a * 10 + (c - 48)) a < (a + 1) * 10 ^ l.length
  | [], a, _ => by simp
  | c :: r, a, h => by
    have hc := h c (List.mem_cons_self ..)
    have ih := dval_lt_aux r (a * 10 + (c - 48)) (fun d hd => h d (List.mem_cons_of_mem _ hd))
    rw [List.foldl_cons, List.length_cons, Nat.pow_succ]
    refine Nat.lt_of_lt_of_le ih ?_
    have : a * 10 + (c - 48) + 1 ≤ (a + 1) * 10 := by omega
    calc (a * 10 + (c - 48) + 1) * 10 ^ r.length ≤ ((a + 1) * 10) * 10 ^ r.length := Nat.mul_le_mul_right _ this
      _ = (a + 1) * (10 ^ r.length * 10) := by rw [Nat.mul_assoc, Nat.mul_comm 10]
theorem dval_lt {l : List Nat} (h : Digs l) : dval l < 10 ^ l.length := by
  have := dval_lt_aux l 0 h
  simpa [dval] using this

/-! ### the readings of a body -/
def areaW : List Nat := [97, 114, 101, 97]
def endW : List Nat := [101, 110, 100]
def isSp (c : Nat) : Bool := c == 32
def first (b : List Nat) : List Nat := b.takeWhile (fun c => c != 32)
def behind (b : List Nat) : List Nat := (b.dropWhile (fun c => c != 32)).drop 1
def numBehind (w b : List Nat) : Option Nat := if first b = w then pnum (behind b) 9 else none
def marks : List (List Nat) := [[97, 108, 105, 118, 101], [115, 117, 115, 112, 101, 99, 116], [100, 101, 97, 100], [108, 101, 102, 116]]
def wsigns : List Nat := [97, 98, 99, 100, 101, 102, 103, 104, 105, 106, 107, 108, 109, 110, 111, 112, 113, 114, 115, 116, 117, 118, 119, 120, 121, 122, 48, 49, 50, 51, 52, 53, 54, 55, 56, 57]
def worthOk (w : List Nat) : Bool := decide (w.length ≤ 12) && w.all (fun c => decide (c ∈ wsigns))
def wOf (w : List Nat) : List Nat := if w = [45] then [] else w
def sayOk (seats : Nat) : List (List Nat) → Bool
  | [w0, w1, w2, w3] => decide (w3 ≠ []) && (match pnum w0 3 with | some s => decide (s < seats) | none => false) && (match pnum w1 60 with | some v => decide (v < 10 ^ 60) | none => false) && decide (w2 ∈ marks) && worthOk (wOf w3)
  | _ => false
def isSay (seats : Nat) (b : List Nat) : Bool := sayOk seats (sp 32 [] b)
def run (seats : Nat) : List (List Nat) → Nat
  | [] => 0
  | b :: r => if isSay seats b = true then run seats r + 1 else 0
def parts (seats : Nat) : List (List Nat) → Option (Nat × Nat)
  | [] => none
  | b :: r => if numBehind areaW b = none then none else
    match r.drop (run seats r) with
    | [] => none
    | e :: lg => if numBehind endW e = some (run seats r) then some (run seats r, run seats lg) else none
theorem parts_cons (seats : Nat) (b : List Nat) (r : List (List Nat)) : parts seats (b :: r) = if numBehind areaW b = none then none else
    match r.drop (run seats r) with
    | [] => none
    | e :: lg => if numBehind endW e = some (run seats r) then some (run seats r, run seats lg) else none := rfl
def jn (s : Nat) : List (List Nat) → List Nat
  | [] => []
  | [p] => p
  | p :: q :: r => p ++ s :: jn s (q :: r)
def bodiesOf (t : List Nat) : List (List Nat) := good (sp 10 [] t).dropLast
def mend (seats : Nat) (t : List Nat) : List Nat :=
  match parts seats (bodiesOf t) with
  | none => []
  | some (m, k) => jn 10 ((sp 10 [] t).take (2 + m + k)) ++ [10]

theorem numBehind_some {w b : List Nat} {n : Nat} (hw : 32 ∉ w) (h : numBehind w b = some n) : ∃ r, b = w ++ 32 :: r ∧ Digs r := by
  unfold numBehind at h
  split at h
  · rename_i hf
    obtain ⟨hne, hd, _⟩ := pnum_some h
    refine ⟨behind b, ?_, hd⟩
    have e := List.takeWhile_append_dropWhile (p := fun c => c != 32) (l := b)
    have hf' : b.takeWhile (fun c => c != 32) = w := hf
    rw [hf'] at e
    cases hdw : b.dropWhile (fun c => c != 32) with
    | nil =>
      unfold behind at hne
      rw [hdw] at hne
      exact absurd rfl hne
    | cons c r =>
      have hc : c = 32 := by
        have := List.head?_dropWhile_not (p := fun c => c != 32) b
        rw [hdw] at this
        simpa using this
      have e2 : behind b = r := by
        unfold behind
        rw [hdw]
        rfl
      rw [e2, ← e, hdw, hc]
  · cases h
theorem first_app {w r : List Nat} (hw : 32 ∉ w) : first (w ++ 32 :: r) = w := by
  unfold first
  rw [List.takeWhile_append_of_pos]
  · simp
  · intro c hc
    simp
    intro e
    exact hw (e ▸ hc)
theorem behind_app {w r : List Nat} (hw : 32 ∉ w) : behind (w ++ 32 :: r) = r := by
  unfold behind
  rw [List.dropWhile_append_of_pos]
  · simp
  · intro c hc
    simp
    intro e
    exact hw (e ▸ hc)
theorem digs_no32 {l : List Nat} (h : Digs l) : 32 ∉ l := fun z => by
  have := h 32 z
  omega
theorem numBehind_mk {w : List Nat} {n : Nat} (hw : 32 ∉ w) (hn : n < 10 ^ 9) : numBehind w (w ++ 32 :: dg n) = some n := by
  unfold numBehind
  rw [first_app hw, behind_app hw, if_pos rfl, dg_pnum (by decide) hn]

/-- the first sign -/
theorem numBehind_head {w b : List Nat} {n c : Nat} {w' : List Nat} (hw : 32 ∉ w) (ew : w = c :: w') (h : numBehind w b = some n) : b.head? = some c ∧ b.count 32 = 1 := by
  obtain ⟨r, e, hd⟩ := numBehind_some hw h
  subst e
  subst ew
  refine ⟨rfl, ?_⟩
  rw [List.count_append, List.count_eq_zero.mpr hw, List.count_cons_self, List.count_eq_zero.mpr (digs_no32 hd)]
theorem isSay_head {seats : Nat} {b : List Nat} (h : isSay seats b = true) : (∃ c, b.head? = some c ∧ 48 ≤ c ∧ c ≤ 57) ∧ b.count 32 = 3 := by
  unfold isSay at h
  cases hs : sp 32 [] b with
  | nil => exact absurd hs (sp_ne _ _)
  | cons w0 r0 =>
    have hl := sp_len (s := 32) b []
    rw [hs] at h hl
    match r0, h, hl with
    | [w1, w2, w3], h, hl =>
      simp at hl
      refine ⟨?_, by omega⟩
      simp only [sayOk, Bool.and_eq_true] at h
      obtain ⟨⟨⟨⟨h3, h0⟩, _⟩, _⟩, _⟩ := h
      cases hp : pnum w0 3 with
      | none => rw [hp] at h0; cases h0
      | some v =>
        obtain ⟨hne, hd, _⟩ := pnum_some hp
        obtain ⟨t, e⟩ := sp_head b [] w0 _ hs
        cases w0 with
        | nil => exact absurd rfl hne
        | cons c w =>
          refine ⟨c, ?_, hd c (List.mem_cons_self ..)⟩
          rw [List.nil_append] at e
          rw [e]
          rfl
    | [], h, _ => cases h
    | [_], h, _ => cases h
    | [_, _], h, _ => cases h
    | _ :: _ :: _ :: _ :: _, h, _ => cases h
/-- what is neither saying nor header nor end -/
structure Junk (b : List Nat) : Prop where
  say : ∀ seats, isSay seats b = false
  area : numBehind areaW b = none
  «end» : numBehind endW b = none
/-- the right bodies, by their head and blanks -/
structure RB (b : List Nat) : Prop where
  no10 : 10 ∉ b
  len : b.length ≤ 120
  cod : ∀ c ∈ b, c < 128
  kind : ((∃ c, b.head? = some c ∧ 48 ≤ c ∧ c ≤ 57) ∧ b.count 32 = 3) ∨ ((∃ c, b.head? = some c ∧ 57 < c) ∧ b.count 32 = 1)
theorem junk_of {b : List Nat} (hs : ¬ ((∃ c, b.head? = some c ∧ 48 ≤ c ∧ c ≤ 57) ∧ b.count 32 = 3)) (hn : ¬ ((∃ c, b.head? = some c ∧ 57 < c) ∧ b.count 32 = 1)) : Junk b where
  say := fun seats => by
    cases h : isSay seats b with
    | false => rfl
    | true => exact absurd (isSay_head h) hs
  area := by
    cases h : numBehind areaW b with
    | none => rfl
    | some n =>
      obtain ⟨h1, h2⟩ := numBehind_head (by decide) rfl h
      exact absurd ⟨⟨_, h1, by decide⟩, h2⟩ hn
  «end» := by
    cases h : numBehind endW b with
    | none => rfl
    | some n =>
      obtain ⟨h1, h2⟩ := numBehind_head (by decide) rfl h
      exact absurd ⟨⟨_, h1, by decide⟩, h2⟩ hn
/-- a body cut at one of its blanks -/
theorem junk_cut {body b x : List Nat} (R : RB body) (e : body = b ++ 32 :: x) : Junk b := by
  have hc : body.count 32 = b.count 32 + 1 + x.count 32 := by
    rw [e, List.count_append, List.count_cons_self]
    omega
  have hh : ∀ c, b.head? = some c → body.head? = some c := fun c h => by
    rw [e, List.head?_append, h]
    rfl
  refine junk_of ?_ ?_
  · rintro ⟨⟨c, h1, h2, h3⟩, h4⟩
    rcases R.kind with ⟨_, k⟩ | ⟨⟨d, k1, k2⟩, k⟩
    · omega
    · omega
  · rintro ⟨⟨c, h1, h2⟩, h4⟩
    rcases R.kind with ⟨⟨d, k1, k2, k3⟩, k⟩ | ⟨_, k⟩
    · have := (hh c h1).symm.trans k1
      injection this with this
      omega
    · omega
/-- two lines become one -/
theorem junk_merged {body b2 : List Nat} {c : Nat} (R : RB body) (R2 : RB b2) : Junk (gline body ++ c :: b2) := by
  have hc : body.count 32 + 1 + b2.count 32 ≤ (gline body ++ c :: b2).count 32 := by
    rw [List.count_append, gline_count]
    have : b2.count 32 ≤ (c :: b2).count 32 := List.count_le_count_cons
    omega
  have hne : body ≠ [] := fun e => by
    rcases R.kind with ⟨⟨d, k1, _⟩, _⟩ | ⟨⟨d, k1, _⟩, _⟩ <;> (rw [e] at k1; cases k1)
  have hh : (gline body ++ c :: b2).head? = body.head? := by
    unfold gline
    cases body with
    | nil => exact absurd rfl hne
    | cons d r => rfl
  have h2 : 1 ≤ b2.count 32 := by
    rcases R2.kind with ⟨_, k⟩ | ⟨_, k⟩ <;> omega
  refine junk_of ?_ ?_
  · rintro ⟨⟨c', h1, h2', h3⟩, h4⟩
    rw [hh] at h1
    rcases R.kind with ⟨_, k⟩ | ⟨⟨d, k1, k2⟩, k⟩
    · omega
    · have := h1.symm.trans k1
      injection this with this
      omega
  · rintro ⟨⟨c', h1, h2'⟩, h4⟩
    rw [hh] at h1
    rcases R.kind with ⟨⟨d, k1, k2, k3⟩, k⟩ | ⟨_, k⟩
    · have := h1.symm.trans k1
      injection this with this
      omega
    · omega

/-! ### one sign exchanged within a line: the check tells it -/
theorem cop : ∀ a, a < 200 → 0 < a → Nat.Coprime a 9973 := by decide +kernel
theorem prod_mod {a c d : Nat} (ha : 0 < a) (ha2 : a < 200) (hc : c < 128) (hd : d < 128) {x : Nat} (h : (x + a * c) % 9973 = (x + a * d) % 9973) : c = d := by
  have key : ∀ c d : Nat, c < 128 → d < 128 → c ≤ d → (x + a * c) % 9973 = (x + a * d) % 9973 → c = d := by
    intro c d hc hd hle h
    have e : x + a * d = (x + a * c) + a * (d - c) := by
      have : a * d = a * c + a * (d - c) := by rw [← Nat.mul_add]; congr 1; omega
      omega
    rw [e] at h
    have hdiv : 9973 ∣ a * (d - c) := by
      refine Nat.dvd_of_mod_eq_zero ?_
      omega
    have h2 : 9973 ∣ d - c := (Nat.Coprime.dvd_of_dvd_mul_left (cop a ha2 ha).symm hdiv)
    rcases Nat.eq_zero_or_pos (d - c) with z | z
    · omega
    · have := Nat.le_of_dvd z h2
      omega
  rcases Nat.le_total c d with z | z
  · exact key c d hc hd z h
  · exact (key d c hd hc z h.symm).symm
theorem chk_swap {u v : List Nat} {c d : Nat} (hu : u.length < 199) (hc : c < 128) (hd : d < 128) (h : chk (u ++ c :: v) = chk (u ++ d :: v)) : c = d := by
  unfold chk at h
  rw [wsum_app, wsum_app, wsum, wsum] at h
  have e1 : ∀ z : Nat, wsum 0 u + ((0 + u.length + 1) * z + wsum (0 + u.length + 1) v) = (wsum 0 u + wsum (0 + u.length + 1) v) + (u.length + 1) * z := by
    intro z
    rw [Nat.zero_add]
    omega
  rw [e1, e1] at h
  exact prod_mod (by omega) (by omega) hc hd h
theorem inline_bad {body u v : List Nat} {c d : Nat} (R : RB body) (e : gline body = u ++ c :: v) (hne : c ≠ d) (hd : d < 128) (r : List (List Nat)) : good ((u ++ d :: v) :: r) = [] := by
  cases hg : good ((u ++ d :: v) :: r) with
  | nil => rfl
  | cons b rest =>
    exfalso
    have hb := good_head hg
    have hl : b.length = body.length := by
      have h1 := congrArg List.length e
      have h2 := congrArg List.length hb
      rw [gline_len] at h1 h2
      simp at h1 h2
      omega
    have t1 := congrArg (List.take body.length) e
    have t2 := congrArg (List.take body.length) hb
    have d1 := congrArg (List.drop body.length) e
    have d2 := congrArg (List.drop body.length) hb
    rw [gline_take] at t1
    rw [← hl, gline_take, hl] at t2
    rw [gline_drop] at d1
    rw [← hl, gline_drop, hl] at d2
    by_cases hu : u.length < body.length
    · obtain ⟨k, hk⟩ : ∃ k, body.length - u.length = k + 1 := ⟨body.length - u.length - 1, by omega⟩
      rw [List.take_append, List.take_of_length_le (Nat.le_of_lt hu), hk, List.take_succ_cons] at t1 t2
      rw [List.drop_append, List.drop_of_length_le (Nat.le_of_lt hu), hk, List.nil_append, List.drop_succ_cons] at d1 d2
      have dd : (32 :: pad4 (chk b)) = 32 :: pad4 (chk body) := by rw [d1, ← d2]
      injection dd with _ dd
      have hchk := pad4_inj dd
      rw [t1, ← t2] at hchk
      have hcc : c < 128 := R.cod c (by rw [t1]; simp)
      have hlen := R.len
      exact hne (chk_swap (u := u) (v := v.take k) (by omega) hcc hd hchk.symm)
    · have hu' : body.length ≤ u.length := by omega
      have hz : body.length - u.length = 0 := by omega
      rw [List.take_append, hz] at t1 t2
      simp only [List.take_zero, List.append_nil] at t1 t2
      have hbb : b = body := by rw [t1, ← t2]
      rw [hbb, e] at hb
      have := List.append_cancel_left hb
      injection this with this
      exact hne this.symm
/-- behind the right lines stands nothing that could be read -/
def BadRest (R : List Nat) : Prop := ∀ b r, good (sp 10 [] R).dropLast = b :: r → Junk b
theorem bad_free {R : List Nat} (h : 10 ∉ R) : BadRest R := fun b r e => by
  rw [sp_last R [] h] at e
  cases e
theorem bad_nil : BadRest [] := bad_free (by simp)
theorem dropLast_cons {x : List Nat} {l : List (List Nat)} (h : l ≠ []) : (x :: l).dropLast = x :: l.dropLast := List.dropLast_cons_of_ne_nil h
theorem line_first {p rest : List Nat} (h : 10 ∉ p) : (sp 10 [] (p ++ 10 :: rest)).dropLast = p :: (sp 10 [] rest).dropLast := by
  rw [sp_part p [] rest h, List.nil_append, dropLast_cons (sp_ne _ _)]
/-- a sign becomes a newline -/
theorem bad_split {body u v more : List Nat} {c : Nat} (R : RB body) (e : gline body = u ++ c :: v) : BadRest (u ++ 10 :: more) := fun b r hg => by
  have hu : 10 ∉ u := fun z => gline_no10 R.no10 (by rw [e]; exact List.mem_append_left _ z)
  rw [line_first hu] at hg
  have hb := good_head hg
  subst hb
  have e' := e
  unfold gline at e'
  rw [List.append_assoc] at e'
  have hl : b.length < body.length := by
    have := congrArg List.length e
    rw [gline_len] at this
    simp [gline_len] at this
    omega
  have t1 := congrArg (List.take (b.length + 1)) e'
  have h1 : (b ++ (32 :: pad4 (chk b) ++ c :: v)).take (b.length + 1) = b ++ [32] := by
    rw [List.take_append, List.take_of_length_le (by omega)]
    simp
  rw [h1, List.take_append_of_le_length (by omega)] at t1
  refine junk_cut (x := body.drop (b.length + 1)) R ?_
  have := List.take_append_drop (b.length + 1) body
  rw [t1] at this
  rw [← this]
  simp
/-- a newline becomes another sign -/
theorem bad_merged {body : List Nat} {c : Nat} {bs : List (List Nat)} {part : List Nat} (R : RB body) (hbs : ∀ b ∈ bs, RB b) (hp : 10 ∉ part) (hc : c ≠ 10) :
    BadRest (gline body ++ c :: ((bs.map dline).flatten ++ part)) := by
  have h0 := gline_no10 R.no10
  cases bs with
  | nil =>
    refine bad_free fun z => ?_
    rcases List.mem_append.mp z with z | z
    · exact h0 z
    · rcases List.mem_cons.mp z with z | z
      · exact hc z.symm
      · simp at z
        exact hp z
  | cons b2 bs =>
    intro b r hg
    have R2 := hbs b2 (List.mem_cons_self ..)
    have e : gline body ++ c :: (((b2 :: bs).map dline).flatten ++ part) = (gline body ++ c :: gline b2) ++ 10 :: ((bs.map dline).flatten ++ part) := by
      simp [dline]
    have hf : 10 ∉ gline body ++ c :: gline b2 := fun z => by
      rcases List.mem_append.mp z with z | z
      · exact h0 z
      · rcases List.mem_cons.mp z with z | z
        · exact hc z.symm
        · exact gline_no10 R2.no10 z
    rw [e, line_first hf] at hg
    have hb := good_head hg
    have hlen : b.length = (gline body ++ c :: b2).length := by
      have := congrArg List.length hb
      simp [gline_len] at this
      simp [gline_len]
      omega
    have ht := congrArg (List.take b.length) hb
    rw [gline_take, hlen] at ht
    have h2 : (gline body ++ c :: gline b2).take (gline body ++ c :: b2).length = gline body ++ c :: b2 := by
      have : gline body ++ c :: gline b2 = (gline body ++ c :: b2) ++ 32 :: pad4 (chk b2) := by simp [gline]
      rw [this, List.take_left]
    rw [h2] at ht
    rw [← ht]
    exact junk_merged R R2

/-! ### mending right lines and a bad rest -/
theorem run_app {seats : Nat} : ∀ (a b : List (List Nat)), (∀ x ∈ a, isSay seats x = true) → run seats (a ++ b) = a.length + run seats b
  | [], b, _ => by simp
  | x :: a, b, h => by
    rw [List.cons_append, run, if_pos (h x (List.mem_cons_self ..)), run_app a b fun y hy => h y (List.mem_cons_of_mem _ hy), List.length_cons]
    omega
theorem run_bad {seats : Nat} {l : List (List Nat)} (h : ∀ b r, l = b :: r → Junk b) : run seats l = 0 := by
  cases l with
  | nil => rfl
  | cons b r => rw [run, if_neg (by rw [(h b r rfl).say seats]; decide)]
theorem sp_lines : ∀ (bs : List (List Nat)) (R : List Nat), (∀ b ∈ bs, RB b) → sp 10 [] ((bs.map dline).flatten ++ R) = bs.map gline ++ sp 10 [] R
  | [], R, _ => rfl
  | b :: bs, R, h => by
    have e : ((b :: bs).map dline).flatten ++ R = gline b ++ 10 :: ((bs.map dline).flatten ++ R) := by simp [dline]
    rw [e, sp_part _ _ _ (gline_no10 (h b (List.mem_cons_self ..)).no10), List.nil_append, sp_lines bs R fun x hx => h x (List.mem_cons_of_mem _ hx)]
    rfl
theorem bodies_lines {bs : List (List Nat)} {R : List Nat} (h : ∀ b ∈ bs, RB b) : bodiesOf ((bs.map dline).flatten ++ R) = bs ++ bodiesOf R := by
  unfold bodiesOf
  rw [sp_lines bs R h]
  have : (bs.map gline ++ sp 10 [] R).dropLast = bs.map gline ++ (sp 10 [] R).dropLast := List.dropLast_append_of_ne_nil (sp_ne _ _)
  rw [this, good_app]
theorem jn_lines : ∀ (bs : List (List Nat)), bs ≠ [] → jn 10 (bs.map gline) ++ [10] = (bs.map dline).flatten
  | [], h => absurd rfl h
  | [b], _ => by simp [jn, dline]
  | b :: c :: bs, _ => by
    have ih := jn_lines (c :: bs) (by simp)
    have : jn 10 ((b :: c :: bs).map gline) = gline b ++ 10 :: jn 10 ((c :: bs).map gline) := rfl
    rw [this, List.append_assoc, List.cons_append, ih]
    simp [dline]
/-- an area's bodies -/
structure Ar (seats : Nat) (a e : List Nat) (sn lg : List (List Nat)) : Prop where
  ha : numBehind areaW a ≠ none
  he : numBehind endW e = some sn.length
  es : isSay seats e = false
  hs : ∀ b ∈ sn, isSay seats b = true
  hl : ∀ b ∈ lg, isSay seats b = true
  rb : ∀ b ∈ a :: (sn ++ e :: lg), RB b
theorem mend_none {seats : Nat} {t : List Nat} (h : ∀ b r, bodiesOf t = b :: r → numBehind areaW b = none) : mend seats t = [] := by
  unfold mend
  cases hb : bodiesOf t with
  | nil => rfl
  | cons b r =>
    have : parts seats (b :: r) = none := by
      rw [parts_cons, if_pos (h b r hb)]
    rw [this]
theorem mend_short {seats : Nat} {a e : List Nat} {sn lg : List (List Nat)} {R : List Nat} (A : Ar seats a e sn lg) (B : BadRest R) {j : Nat} (hj : j ≤ sn.length) :
    mend seats (((a :: sn.take j).map dline).flatten ++ R) = [] := by
  have rb : ∀ b ∈ a :: sn.take j, RB b := fun b hb => A.rb b (by
    rcases List.mem_cons.mp hb with hb | hb
    · rw [hb]; exact List.mem_cons_self ..
    · exact List.mem_cons_of_mem _ (List.mem_append_left _ (List.mem_of_mem_take hb)))
  unfold mend
  rw [bodies_lines rb]
  have hp : parts seats (a :: sn.take j ++ bodiesOf R) = none := by
    rw [List.cons_append]
    rw [parts_cons, if_neg A.ha]
    have hr : run seats (sn.take j ++ bodiesOf R) = j := by
      rw [run_app _ _ (fun x hx => A.hs x (List.mem_of_mem_take hx)), run_bad (l := bodiesOf R) (fun b r e => B b r e), List.length_take]
      omega
    have hd : (sn.take j ++ bodiesOf R).drop j = bodiesOf R := List.drop_left' (by rw [List.length_take]; omega)
    rw [hr, hd]
    cases hb : bodiesOf R with
    | nil => rfl
    | cons b r =>
      have := (B b r hb).end
      simp only [this]
      rw [if_neg (by simp)]
  rw [hp]
theorem mend_long {seats : Nat} {a e : List Nat} {sn lg : List (List Nat)} {R : List Nat} (A : Ar seats a e sn lg) (B : BadRest R) :
    mend seats (((a :: (sn ++ e :: lg)).map dline).flatten ++ R) = ((a :: (sn ++ e :: lg)).map dline).flatten := by
  unfold mend
  rw [bodies_lines A.rb]
  have hp : parts seats (a :: (sn ++ e :: lg) ++ bodiesOf R) = some (sn.length, lg.length) := by
    rw [List.cons_append]
    rw [parts_cons, if_neg A.ha]
    have hr : run seats (sn ++ e :: lg ++ bodiesOf R) = sn.length := by
      rw [List.append_assoc, run_app _ _ A.hs, List.cons_append, run, if_neg (by rw [A.es]; decide)]
      rfl
    have hd : (sn ++ e :: lg ++ bodiesOf R).drop sn.length = e :: (lg ++ bodiesOf R) := by
      rw [List.append_assoc, List.drop_left]
      rfl
    rw [hr, hd]
    have hr2 : run seats (lg ++ bodiesOf R) = lg.length := by
      rw [run_app _ _ A.hl, run_bad (l := bodiesOf R) (fun b r e => B b r e)]
      rfl
    simp only [A.he, hr2, if_pos]
  rw [hp]
  simp only
  rw [sp_lines _ _ A.rb]
  have hlen : 2 + sn.length + lg.length = ((a :: (sn ++ e :: lg)).map gline).length := by
    simp
    omega
  rw [hlen, List.take_left, jn_lines _ (by simp)]
theorem Ar.shorter {seats : Nat} {a e : List Nat} {sn lg lg' : List (List Nat)} (A : Ar seats a e sn lg) (h : ∀ b ∈ lg', isSay seats b = true ∧ RB b) : Ar seats a e sn lg' where
  ha := A.ha
  he := A.he
  es := A.es
  hs := A.hs
  hl := fun b hb => (h b hb).1
  rb := fun b hb => by
    rcases List.mem_cons.mp hb with hb | hb
    · rw [hb]; exact A.rb a (List.mem_cons_self ..)
    · rcases List.mem_append.mp hb with hb | hb
      · exact A.rb b (List.mem_cons_of_mem _ (List.mem_append_left _ hb))
      · rcases List.mem_cons.mp hb with hb | hb
        · rw [hb]; exact A.rb e (by simp)
        · exact (h b hb).2
/-- the first w lines stand, behind them a bad rest -/
theorem mend_take {seats : Nat} {a e : List Nat} {sn lg : List (List Nat)} {R : List Nat} (A : Ar seats a e sn lg) (B : BadRest R) (w : Nat) :
    mend seats ((((a :: (sn ++ e :: lg)).map dline).take w).flatten ++ R) = if w < sn.length + 2 then [] else (((a :: (sn ++ e :: lg)).map dline).take w).flatten := by
  rw [← List.map_take]
  cases w with
  | zero =>
    rw [if_pos (by omega)]
    refine mend_none fun b r hb => ?_
    rw [List.take_zero] at hb
    exact (B b r hb).area
  | succ j =>
    rw [List.take_succ_cons]
    by_cases hj : j ≤ sn.length
    · rw [if_pos (by omega), List.take_append_of_le_length hj]
      exact mend_short A B hj
    · obtain ⟨k, hk⟩ : ∃ k, j = sn.length + (k + 1) := ⟨j - sn.length - 1, by omega⟩
      have ht : (sn ++ e :: lg).take j = sn ++ e :: lg.take k := by
        rw [List.take_append, List.take_of_length_le (by omega), show j - sn.length = k + 1 by omega, List.take_succ_cons]
      rw [if_neg (by omega), ht]
      exact mend_long (A.shorter fun b hb => ⟨A.hl b (List.mem_of_mem_take hb), A.rb b (by
        have := List.mem_of_mem_take hb
        simp [this])⟩) B

/-! ### the law's own data -/
theorem marks_no (m : List Nat) (h : m ∈ marks) : m ≠ [] ∧ m.length ≤ 7 ∧ ∀ c ∈ m, 97 ≤ c ∧ c ≤ 122 := by
  have : ∀ m ∈ marks, m ≠ [] ∧ m.length ≤ 7 ∧ ∀ c ∈ m, 97 ≤ c ∧ c ≤ 122 := by decide
  exact this m h
theorem wsigns_no (c : Nat) (h : c ∈ wsigns) : (48 ≤ c ∧ c ≤ 57) ∨ (97 ≤ c ∧ c ≤ 122) := by
  have : ∀ c ∈ wsigns, (48 ≤ c ∧ c ≤ 57) ∨ (97 ≤ c ∧ c ≤ 122) := by decide
  exact this c h
def shown (w : List Nat) : List Nat := if w = [] then [45] else w
/-- the written form of a saying -/
def sayB (s v : Nat) (m w : List Nat) : List Nat := dg s ++ 32 :: (dg v ++ 32 :: (m ++ 32 :: shown w))
structure SayB (seats : Nat) (b : List Nat) : Prop where
  ex : ∃ s v m w, b = sayB s v m w ∧ s < seats ∧ v < 10 ^ 60 ∧ m ∈ marks ∧ w.length ≤ 12 ∧ ∀ c ∈ w, c ∈ wsigns
theorem shown_ne (w : List Nat) : shown w ≠ [] := by
  unfold shown
  split
  · simp
  · assumption
theorem shown_no {w : List Nat} (h : ∀ c ∈ w, c ∈ wsigns) {c : Nat} (hc : c ∈ shown w) : 45 ≤ c ∧ c ≤ 122 := by
  unfold shown at hc
  split at hc
  · rw [List.mem_singleton.mp hc]
    omega
  · have := wsigns_no c (h c hc)
    omega
theorem wOf_shown {w : List Nat} (h : ∀ c ∈ w, c ∈ wsigns) : wOf (shown w) = w := by
  unfold shown wOf
  by_cases e : w = []
  · rw [if_pos e, if_pos rfl, e]
  · rw [if_neg e]
    by_cases e2 : w = [45]
    · have := h 45 (by rw [e2]; simp)
      exact absurd this (by decide)
    · rw [if_neg e2]
theorem dg_no (n : Nat) {c : Nat} (h : c ∈ dg n) : 48 ≤ c ∧ c ≤ 57 := dg_digs n c h
theorem dg_no32 (n : Nat) : 32 ∉ dg n := digs_no32 (dg_digs n)
theorem dg_count (n : Nat) : (dg n).count 32 = 0 := List.count_eq_zero.mpr (dg_no32 n)
theorem say_sp {s v : Nat} {m w : List Nat} (hm : m ∈ marks) (hw : ∀ c ∈ w, c ∈ wsigns) : sp 32 [] (sayB s v m w) = [dg s, dg v, m, shown w] := by
  have h3 : 32 ∉ m := fun z => by
    have := (marks_no m hm).2.2 32 z
    omega
  have h4 : 32 ∉ shown w := fun z => by
    have := shown_no hw z
    omega
  unfold sayB
  rw [sp_part _ _ _ (dg_no32 s), sp_part _ _ _ (dg_no32 v), sp_part _ _ _ h3, sp_last _ _ h4]
  rfl
theorem say_is {seats : Nat} {b : List Nat} (hs : seats ≤ 1000) (h : SayB seats b) : isSay seats b = true := by
  obtain ⟨s, v, m, w, rfl, h1, h2, hm, hl, hw⟩ := h.ex
  unfold isSay
  rw [say_sp hm hw]
  simp only [sayOk, wOf_shown hw, dg_pnum (n := s) (k := 3) (by decide) (by omega), dg_pnum (n := v) (k := 60) (by decide) h2, Bool.and_eq_true, decide_eq_true_eq, worthOk, List.all_eq_true]
  exact ⟨⟨⟨⟨shown_ne w, h1⟩, h2⟩, hm⟩, hl, fun c hc => hw c hc⟩
theorem say_rb {seats : Nat} {b : List Nat} (hs : seats ≤ 1000) (h : SayB seats b) : RB b := by
  have hi := isSay_head (say_is hs h)
  obtain ⟨s, v, m, w, rfl, h1, h2, hm, hl, hw⟩ := h.ex
  have key : ∀ c ∈ sayB s v m w, 32 ≤ c ∧ c ≤ 122 := by
    intro c hc
    unfold sayB at hc
    simp only [List.mem_append, List.mem_cons] at hc
    rcases hc with hc | hc | hc | hc | hc | hc | hc
    · have := dg_no s hc; omega
    · omega
    · have := dg_no v hc; omega
    · omega
    · have := (marks_no m hm).2.2 c hc; omega
    · omega
    · have := shown_no hw hc; omega
  refine ⟨fun z => ?_, ?_, fun c hc => ?_, .inl hi⟩
  · have := key 10 z
    omega
  · have l1 : (dg s).length ≤ 3 := dg_len (by decide) (by omega)
    have l2 : (dg v).length ≤ 60 := dg_len (by decide) h2
    have l3 := (marks_no m hm).2.1
    have l4 : (shown w).length ≤ 12 := by
      unfold shown
      split
      · simp
      · exact hl
    unfold sayB
    simp only [List.length_append, List.length_cons]
    omega
  · have := key c hc
    omega
def areaB (g : Nat) : List Nat := areaW ++ 32 :: dg g
def endB (n : Nat) : List Nat := endW ++ 32 :: dg n
theorem word_rb {w : List Nat} {n c : Nat} {w' : List Nat} (ew : w = c :: w') (hl : w.length ≤ 4) (hw : ∀ c ∈ w, 97 ≤ c ∧ c ≤ 122) (hn : n < 10 ^ 9) : RB (w ++ 32 :: dg n) := by
  have key : ∀ d ∈ w ++ 32 :: dg n, 32 ≤ d ∧ d ≤ 122 := by
    intro d hd
    simp only [List.mem_append, List.mem_cons] at hd
    rcases hd with hd | hd | hd
    · have := hw d hd; omega
    · omega
    · have := dg_no n hd; omega
  refine ⟨fun z => ?_, ?_, fun d hd => ?_, .inr ⟨⟨c, ?_, ?_⟩, ?_⟩⟩
  · have := key 10 z
    omega
  · have l1 : (dg n).length ≤ 9 := dg_len (by decide) hn
    simp only [List.length_append, List.length_cons]
    omega
  · have := key d hd
    omega
  · rw [ew]
    rfl
  · have := hw c (by rw [ew]; exact List.mem_cons_self ..)
    omega
  · rw [List.count_append, List.count_cons_self, dg_count, List.count_eq_zero.mpr (fun z => by have := hw 32 z; omega)]
theorem area_rb {g : Nat} (h : g < 10 ^ 9) : RB (areaB g) := word_rb rfl (by decide) (by decide) h
theorem end_rb {n : Nat} (h : n < 10 ^ 9) : RB (endB n) := word_rb rfl (by decide) (by decide) h
theorem ar_mk {seats g : Nat} {sn lg : List (List Nat)} (hs : seats ≤ 1000) (hg : g < 10 ^ 9) (hn : sn.length < 10 ^ 9) (h1 : ∀ b ∈ sn, SayB seats b) (h2 : ∀ b ∈ lg, SayB seats b) : Ar seats (areaB g) (endB sn.length) sn lg where
  ha := by
    unfold areaB
    rw [numBehind_mk (by decide) hg]
    simp
  he := numBehind_mk (by decide) hn
  es := by
    cases h : isSay seats (endB sn.length) with
    | false => rfl
    | true =>
      obtain ⟨⟨c, hc, _, hc2⟩, _⟩ := isSay_head h
      have : (endB sn.length).head? = some 101 := rfl
      rw [this] at hc
      injection hc with hc
      omega
  hs := fun b hb => say_is hs (h1 b hb)
  hl := fun b hb => say_is hs (h2 b hb)
  rb := fun b hb => by
    rcases List.mem_cons.mp hb with hb | hb
    · rw [hb]; exact area_rb hg
    · rcases List.mem_append.mp hb with hb | hb
      · exact say_rb hs (h1 b hb)
      · rcases List.mem_cons.mp hb with hb | hb
        · rw [hb]; exact end_rb hn
        · exact say_rb hs (h2 b hb)
/-- the law's area: nothing, or its lines -/
def ArOk (seats : Nat) (L : List (List Nat)) (n : Nat) : Prop :=
  (L = [] ∧ n = 2) ∨ ∃ g sn lg, g < 10 ^ 9 ∧ sn.length < 10 ^ 9 ∧ n = sn.length + 2 ∧ (∀ b ∈ sn, SayB seats b) ∧ (∀ b ∈ lg, SayB seats b) ∧ L = (areaB g :: (sn ++ endB sn.length :: lg)).map dline
/-- the law's count of the lines that end ahead of a place -/
def wholeC : List (List Nat) → Nat → Nat → Nat
  | [], _, _ => 0
  | l :: r, z, p => if z + l.length > p then 0 else wholeC r (z + l.length) p + 1
theorem wholeC_spec : ∀ (L : List (List Nat)) (z p : Nat), z ≤ p → wholeC L z p ≤ L.length ∧ z + (L.take (wholeC L z p)).flatten.length ≤ p ∧ (wholeC L z p < L.length → p < z + (L.take (wholeC L z p + 1)).flatten.length)
  | [], z, p, h => by simp [wholeC]; exact h
  | l :: r, z, p, h => by
    unfold wholeC
    by_cases hc : z + l.length > p
    · rw [if_pos hc]
      simp
      omega
    · rw [if_neg hc]
      obtain ⟨h1, h2, h3⟩ := wholeC_spec r (z + l.length) p (by omega)
      refine ⟨by rw [List.length_cons]; omega, ?_, fun q => ?_⟩
      · rw [List.take_succ_cons, List.flatten_cons, List.length_append]
        omega
      · rw [List.take_succ_cons, List.flatten_cons, List.length_append]
        have := h3 (by rw [List.length_cons] at q; omega)
        omega
def Cut (L : List (List Nat)) (t : List Nat) (w : Nat) : Prop := (t = L.flatten ∧ w = L.length) ∨ ∃ p, p ≤ L.flatten.length ∧ t = L.flatten.take p ∧ w = wholeC L 0 p
def Chg (L : List (List Nat)) (t : List Nat) (w : Nat) : Prop := ∃ t0 w0, Cut L t0 w0 ∧
  ((t = t0 ∧ w = w0) ∨ ∃ q c, q < t0.length ∧ c < 128 ∧ t0[q]? ≠ some c ∧ t = t0.take q ++ c :: t0.drop (q + 1) ∧ w = min w0 (wholeC L 0 q))
def due (L : List (List Nat)) (n w : Nat) : List Nat := if w < n then [] else (L.take w).flatten
/-- a cut text: the whole lines, then a piece of the next one -/
theorem cut_shape {L : List (List Nat)} {t : List Nat} {w : Nat} (h : Cut L t w) : w ≤ L.length ∧ ∃ part, t = (L.take w).flatten ++ part ∧ (part = [] ∨ ∃ l z, L[w]? = some l ∧ l = part ++ z ∧ z ≠ []) := by
  rcases h with ⟨h1, h2⟩ | ⟨p, hp, h1, h2⟩
  · subst h2
    exact ⟨Nat.le_refl _, [], by rw [h1, List.take_length, List.append_nil], .inl rfl⟩
  · obtain ⟨s1, s2, s3⟩ := wholeC_spec L 0 p (Nat.zero_le _)
    rw [← h2] at s1 s2 s3
    refine ⟨s1, ?_⟩
    have e : L.flatten = (L.take w).flatten ++ (L.drop w).flatten := by rw [← List.flatten_append, List.take_append_drop]
    have ht : t = (L.take w).flatten ++ ((L.drop w).flatten.take (p - (L.take w).flatten.length)) := by
      rw [h1, e, List.take_append, List.take_of_length_le (by omega)]
    refine ⟨_, ht, ?_⟩
    by_cases hw : w < L.length
    · have s3' := s3 hw
      refine .inr ⟨L[w], L[w].drop (p - (L.take w).flatten.length), List.getElem?_eq_getElem hw, ?_, ?_⟩
      · have hd : L.drop w = L[w] :: L.drop (w + 1) := List.drop_eq_getElem_cons hw
        have hlen : (L.take (w + 1)).flatten.length = (L.take w).flatten.length + L[w].length := by
          rw [List.take_succ_eq_append_getElem hw, List.flatten_append, List.length_append]
          simp
        rw [hd, List.flatten_cons, List.take_append_of_le_length (by omega), List.take_append_drop]
      · have hlen : (L.take (w + 1)).flatten.length = (L.take w).flatten.length + L[w].length := by
          rw [List.take_succ_eq_append_getElem hw, List.flatten_append, List.length_append]
          simp
        intro z
        have := congrArg List.length z
        have s3' := s3 hw
        rw [List.length_drop, List.length_nil] at this
        omega
    · have hw' : w = L.length := by omega
      refine .inl ?_
      rw [hw', List.drop_length]
      simp
/-- a sign exchanged in what stands behind the whole lines -/
theorem bad_whole {body u v part : List Nat} {bs : List (List Nat)} {c d : Nat} (R : RB body) (hbs : ∀ b ∈ bs, RB b) (hp : 10 ∉ part) (e : dline body = u ++ c :: v) (hne : c ≠ d) (hd : d < 128) :
    BadRest (u ++ d :: (v ++ ((bs.map dline).flatten ++ part))) := by
  unfold dline at e
  by_cases hu : u.length < (gline body).length
  · -- within the line
    obtain ⟨v1, hv⟩ : ∃ v1, v = v1 ++ [10] := by
      have h1 := congrArg (List.drop (u.length + 1)) e
      have h2 : (u ++ c :: v).drop (u.length + 1) = v := by
        rw [← List.append_cancel_left_eq (as := []) ] 
        simp
      rw [h2, List.drop_append_of_le_length (by omega)] at h1
      exact ⟨_, h1.symm⟩
    subst hv
    have e1 : gline body = u ++ c :: v1 := by
      have : gline body ++ [10] = (u ++ c :: v1) ++ [10] := by rw [e]; simp
      exact List.append_cancel_right this
    by_cases hd10 : d = 10
    · subst hd10
      exact bad_split R e1
    · have h0 := gline_no10 R.no10
      rw [e1] at h0
      have hf : 10 ∉ u ++ d :: v1 := fun z => by
        rcases List.mem_append.mp z with z | z
        · exact h0 (List.mem_append_left _ z)
        · rcases List.mem_cons.mp z with z | z
          · exact hd10 z.symm
          · exact h0 (List.mem_append_right _ (List.mem_cons_of_mem _ z))
      intro b r hg
      have e2 : u ++ d :: (v1 ++ [10] ++ ((bs.map dline).flatten ++ part)) = (u ++ d :: v1) ++ 10 :: ((bs.map dline).flatten ++ part) := by simp
      rw [e2, line_first hf, inline_bad R e1 hne hd] at hg
      cases hg
  · -- the newline
    have hl := congrArg List.length e
    simp at hl
    have hu' : u.length = (gline body).length := by omega
    have hv : v = [] := by
      cases v with
      | nil => rfl
      | cons _ _ => simp at hl; omega
    subst hv
    have e1 : gline body = u := by
      have := congrArg (List.take (gline body).length) e
      rw [List.take_left, ← hu', List.take_left] at this
      exact this
    subst e1
    have hc : c = 10 := by
      have := List.append_cancel_left e
      injection this with this
      exact this.symm
    rw [hc] at hne
    rw [List.nil_append]
    exact bad_merged R hbs hp hne.symm
theorem bad_part {body u v z : List Nat} {c d : Nat} (R : RB body) (e : dline body = (u ++ c :: v) ++ z) (hz : z ≠ []) : BadRest (u ++ d :: v) := by
  obtain ⟨z1, hz1⟩ : ∃ z1, z = z1 ++ [10] := by
    unfold dline at e
    have h2 := List.dropLast_concat_getLast hz
    rw [← h2, ← List.append_assoc] at e
    have h3 := (List.append_inj' e rfl).2
    exact ⟨z.dropLast, by rw [h3]; exact h2.symm⟩
  subst hz1
  unfold dline at e
  rw [← List.append_assoc] at e
  have e1 : gline body = u ++ c :: (v ++ z1) := by
    have := List.append_cancel_right e
    rw [this]
    simp
  by_cases hd : d = 10
  · subst hd
    exact bad_split R e1
  · have h0 := gline_no10 R.no10
    rw [e1] at h0
    refine bad_free fun y => ?_
    rcases List.mem_append.mp y with y | y
    · exact h0 (List.mem_append_left _ y)
    · rcases List.mem_cons.mp y with y | y
      · exact hd y.symm
      · exact h0 (List.mem_append_right _ (List.mem_cons_of_mem _ (List.mem_append_left _ y)))
theorem part_free {body part z : List Nat} (R : RB body) (e : dline body = part ++ z) (hz : z ≠ []) : 10 ∉ part := by
  intro y
  obtain ⟨u, v, rfl⟩ := List.append_of_mem y
  have h0 := gline_no10 R.no10
  unfold dline at e
  have h1 := congrArg List.dropLast e
  rw [List.dropLast_concat, List.dropLast_append_of_ne_nil hz] at h1
  rw [h1] at h0
  exact h0 (by simp)
theorem chg_shape {bs : List (List Nat)} {t : List Nat} {w : Nat} (hrb : ∀ b ∈ bs, RB b) (h : Chg (bs.map dline) t w) : w ≤ bs.length ∧ ∃ R, t = ((bs.map dline).take w).flatten ++ R ∧ BadRest R := by
  obtain ⟨t0, w0, hc, h⟩ := h
  obtain ⟨hw0, part, ht0, hpart⟩ := cut_shape hc
  rw [List.length_map] at hw0
  have hpf : 10 ∉ part := by
    rcases hpart with hp | ⟨l, z, hl, e, hz⟩
    · rw [hp]; simp
    · rw [List.getElem?_map] at hl
      cases hb : bs[w0]? with
      | none => rw [hb] at hl; cases hl
      | some b =>
        rw [hb] at hl
        injection hl with hl
        rw [← hl] at e
        exact part_free (hrb b (List.mem_of_getElem? hb)) e hz
  rcases h with ⟨h1, h2⟩ | ⟨q, c, hq, hc128, hne, ht, hw⟩
  · subst h1 h2
    exact ⟨hw0, part, ht0, bad_free hpf⟩
  · obtain ⟨k1, k2, k3⟩ := wholeC_spec (bs.map dline) 0 q (Nat.zero_le _)
    generalize hk : wholeC (bs.map dline) 0 q = k at hw k1 k2 k3
    rw [List.length_map] at k1 k3
    rw [Nat.zero_add] at k2 k3
    -- the sign's line is one of the whole ones, or the cut one
    have mono : ∀ i j, i ≤ j → ((bs.map dline).take i).flatten.length ≤ ((bs.map dline).take j).flatten.length := by
      intro i j hij
      have : (bs.map dline).take i = ((bs.map dline).take j).take i := by rw [List.take_take, Nat.min_eq_left hij]
      rw [this]
      have e := List.take_append_drop i ((bs.map dline).take j)
      have e2 := congrArg (fun z => z.flatten.length) e
      simp only [List.flatten_append, List.length_append] at e2
      omega
    have hkw : k ≤ w0 := by
      by_cases hgt : k ≤ w0
      · exact hgt
      · exfalso
        have hlt : w0 + 1 ≤ k := by omega
        have m1 := mono _ _ hlt
        rw [ht0, List.length_append] at hq
        rcases hpart with hp | ⟨l, z, hl, e, hz⟩
        · rw [hp] at hq
          have m2 := mono w0 k (by omega)
          simp at hq
          simp at m2 k2
          omega
        · obtain ⟨hlt2, hl'⟩ := List.getElem?_eq_some_iff.mp hl
          have e3 : ((bs.map dline).take (w0 + 1)).flatten.length = ((bs.map dline).take w0).flatten.length + l.length := by
            rw [List.take_succ_eq_append_getElem hlt2, hl', List.flatten_append, List.length_append]
            simp
          have e4 := congrArg List.length e
          rw [List.length_append] at e4
          have e5 : 0 < z.length := List.length_pos_iff.mpr hz
          omega
    have hwk : w = k := by rw [hw]; omega
    subst hwk
    refine ⟨by omega, ?_⟩
    -- what stands behind the first k lines
    have key : ∀ X, t0 = ((bs.map dline).take w).flatten ++ X → ∃ u v c0, X = u ++ c0 :: v ∧ c0 ≠ c ∧ t = ((bs.map dline).take w).flatten ++ (u ++ c :: v) ∧ u.length = q - ((bs.map dline).take w).flatten.length := by
      intro X hX
      generalize hA : ((bs.map dline).take w).flatten = A at hX k2 ⊢
      have hqX : q - A.length < X.length := by
        rw [hX, List.length_append] at hq
        omega
      refine ⟨X.take (q - A.length), X.drop (q - A.length + 1), X[q - A.length], ?_, ?_, ?_, ?_⟩
      · rw [← List.drop_eq_getElem_cons hqX, List.take_append_drop]
      · intro z
        apply hne
        rw [hX, List.getElem?_append_right k2, List.getElem?_eq_getElem hqX, z]
      · rw [ht, hX, List.take_append, List.take_of_length_le k2, List.drop_append, List.drop_of_length_le (by omega), List.nil_append, List.append_assoc]
        rw [show q + 1 - A.length = q - A.length + 1 by omega]
      · rw [List.length_take]
        omega
    by_cases hkw2 : w = w0
    · subst hkw2
      obtain ⟨u, v, c0, hX, hcc, htt, _⟩ := key part ht0
      refine ⟨_, htt, ?_⟩
      rcases hpart with hp | ⟨l, z, hl, e, hz⟩
      · rw [hp] at hX
        exact absurd hX.symm (by simp)
      · rw [List.getElem?_map] at hl
        cases hb : bs[w]? with
        | none => rw [hb] at hl; cases hl
        | some b =>
          rw [hb] at hl
          injection hl with hl
          rw [← hl, hX] at e
          exact bad_part (hrb b (List.mem_of_getElem? hb)) e hz
    · have hlt : w < w0 := by omega
      have hwb : w < bs.length := by omega
      have hX : t0 = ((bs.map dline).take w).flatten ++ (dline bs[w] ++ ((((bs.drop (w + 1)).take (w0 - (w + 1))).map dline).flatten ++ part)) := by
        rw [ht0]
        have e1 : (bs.map dline).take w0 = (bs.map dline).take w ++ dline bs[w] :: ((bs.drop (w + 1)).take (w0 - (w + 1))).map dline := by
          rw [← List.map_take, ← List.map_take]
          have e2 : bs.take w0 = bs.take w ++ bs[w] :: (bs.drop (w + 1)).take (w0 - (w + 1)) := by
            have e3 : bs.take w0 = (bs.take w0).take w ++ (bs.take w0).drop w := (List.take_append_drop _ _).symm
            rw [List.take_take, Nat.min_eq_left (by omega), List.drop_take] at e3
            rw [e3, List.drop_eq_getElem_cons hwb, show w0 - w = (w0 - (w + 1)) + 1 by omega, List.take_succ_cons]
          rw [e2, List.map_append, List.map_cons]
        rw [e1, List.flatten_append, List.flatten_cons]
        simp only [List.append_assoc]
      obtain ⟨u, v, c0, hX2, hcc, htt, hul⟩ := key _ hX
      refine ⟨_, htt, ?_⟩
      have k3' := k3 hwb
      have e3 : ((bs.map dline).take (w + 1)).flatten.length = ((bs.map dline).take w).flatten.length + (dline bs[w]).length := by
        rw [List.take_succ_eq_append_getElem (by rw [List.length_map]; exact hwb), List.flatten_append, List.length_append]
        simp
      have hu : u.length < (dline bs[w]).length := by omega
      -- the line's own pieces
      obtain ⟨v1, hv1⟩ : ∃ v1, dline bs[w] = u ++ c0 :: v1 := by
        have h1 := congrArg (List.take (dline bs[w]).length) hX2
        rw [List.take_left, List.take_append, List.take_of_length_le (Nat.le_of_lt hu)] at h1
        obtain ⟨n, hn⟩ : ∃ n, (dline bs[w]).length - u.length = n + 1 := ⟨(dline bs[w]).length - u.length - 1, by omega⟩
        rw [hn, List.take_succ_cons] at h1
        exact ⟨_, h1⟩
      have hv : v = v1 ++ ((((bs.drop (w + 1)).take (w0 - (w + 1))).map dline).flatten ++ part) := by
        rw [hv1, List.append_assoc, List.cons_append] at hX2
        have := List.append_cancel_left hX2
        injection this with _ this
        exact this.symm
      rw [hv]
      exact bad_whole (hrb _ (List.getElem_mem hwb)) (fun b hb => hrb b (List.mem_of_mem_drop (List.mem_of_mem_take hb))) hpf hv1 hcc hc128

/-! ### the law -/
theorem chg_le {L : List (List Nat)} {t : List Nat} {w : Nat} (h : Chg L t w) : w ≤ L.length := by
  obtain ⟨t0, w0, hc, h⟩ := h
  have := (cut_shape hc).1
  rcases h with ⟨_, h2⟩ | ⟨q, c, _, _, _, _, h2⟩ <;> omega
theorem chg_nil {t : List Nat} {w : Nat} (h : Chg [] t w) : t = [] ∧ w = 0 := by
  have hw := chg_le h
  obtain ⟨t0, w0, hc, h⟩ := h
  have h0 : t0 = [] := by
    rcases hc with ⟨h1, _⟩ | ⟨p, _, h1, _⟩
    · simpa using h1
    · simpa using h1
  subst h0
  rcases h with ⟨h1, h2⟩ | ⟨q, c, hq, _⟩
  · exact ⟨h1, by simpa using hw⟩
  · simp at hq
theorem mend_nil (seats : Nat) : mend seats [] = [] := rfl
/-- behind nothing: sayings alone are no area -/
theorem mend_tail {seats : Nat} {tl : List (List Nat)} (hs : seats ≤ 1000) (h : ∀ b ∈ tl, SayB seats b) : mend seats (tl.map dline).flatten = [] := by
  refine mend_none fun b r hb => ?_
  have e : bodiesOf ((tl.map dline).flatten ++ []) = tl ++ bodiesOf [] := bodies_lines fun b hb => say_rb hs (h b hb)
  have e2 : tl ++ bodiesOf [] = tl := by show tl ++ [] = tl; simp
  rw [List.append_nil, e2] at e
  rw [e] at hb
  have hb' : b ∈ tl := by rw [hb]; exact List.mem_cons_self ..
  cases hn : numBehind areaW b with
  | none => rfl
  | some n =>
    obtain ⟨h1, _⟩ := numBehind_head (by decide) rfl hn
    obtain ⟨⟨c, h2, _, h3⟩, _⟩ := isSay_head (say_is hs (h b hb'))
    rw [h1] at h2
    injection h2 with h2
    omega
theorem law_first {seats n w : Nat} {L : List (List Nat)} {t : List Nat} (hs : seats ≤ 1000) (A : ArOk seats L n) (C : Chg L t w) : mend seats t = due L n w := by
  rcases A with ⟨hL, hn⟩ | ⟨g, sn, lg, hg, hsn, hn, h1, h2, hL⟩
  · subst hL
    obtain ⟨e1, e2⟩ := chg_nil C
    subst e1 e2
    rw [mend_nil]
    unfold due
    rw [if_pos (by omega)]
  · have A := ar_mk (g := g) hs hg hsn h1 h2
    subst hL
    obtain ⟨_, R, ht, B⟩ := chg_shape A.rb C
    rw [ht, mend_take A B w, hn]
    rfl
theorem law_again {seats n w : Nat} {L : List (List Nat)} (hs : seats ≤ 1000) (A : ArOk seats L n) : mend seats (due L n w) = due L n w := by
  unfold due
  by_cases hw : w < n
  · rw [if_pos hw, mend_nil]
  · rw [if_neg hw]
    rcases A with ⟨hL, hn⟩ | ⟨g, sn, lg, hg, hsn, hn, h1, h2, hL⟩
    · subst hL
      simp [mend_nil]
    · have A := ar_mk (g := g) hs hg hsn h1 h2
      subst hL
      have := mend_take A bad_nil w
      rw [List.append_nil, ← hn, if_neg hw] at this
      exact this
theorem law_longer {seats n w : Nat} {L tl : List (List Nat)} (hs : seats ≤ 1000) (A : ArOk seats L n) (h : ∀ b ∈ tl, SayB seats b) :
    mend seats (due L n w ++ (tl.map dline).flatten) = if due L n w = [] then [] else due L n w ++ (tl.map dline).flatten := by
  by_cases hd : due L n w = []
  · rw [if_pos hd, hd, List.nil_append]
    exact mend_tail hs h
  · rw [if_neg hd]
    unfold due at hd ⊢
    by_cases hw : w < n
    · rw [if_pos hw] at hd
      exact absurd rfl hd
    · rw [if_neg hw] at hd ⊢
      rcases A with ⟨hL, hn⟩ | ⟨g, sn, lg, hg, hsn, hn, h1, h2, hL⟩
      · subst hL
        simp at hd
      · obtain ⟨k, hk⟩ : ∃ k, w = sn.length + 2 + k := ⟨w - (sn.length + 2), by omega⟩
        have e1 : L.take w = (areaB g :: (sn ++ endB sn.length :: lg.take k)).map dline := by
          rw [hL, ← List.map_take, hk, show sn.length + 2 + k = (sn.length + (k + 1)) + 1 by omega, List.take_succ_cons, List.take_append, List.take_of_length_le (by omega),
            show sn.length + (k + 1) - sn.length = k + 1 by omega, List.take_succ_cons]
        have A := ar_mk (g := g) (lg := lg.take k ++ tl) hs hg hsn h1 fun b hb => by
          rcases List.mem_append.mp hb with hb | hb
          · exact h2 b (List.mem_of_mem_take hb)
          · exact h b hb
        have := mend_long A bad_nil
        rw [List.append_nil] at this
        rw [e1]
        have e2 : ((areaB g :: (sn ++ endB sn.length :: lg.take k)).map dline).flatten ++ (tl.map dline).flatten = ((areaB g :: (sn ++ endB sn.length :: (lg.take k ++ tl))).map dline).flatten := by
          rw [← List.flatten_append, ← List.map_append]
          simp
        rw [e2]
        exact this
end K35


/-! Rules that this claim lacks: enumerate(text, start=k), {n:04d}, a sign * n. -/
namespace K35
open PySem
theorem dg_num (n : Nat) : TL.numL n = dg n := by
  induction n using Nat.strongRecOn with
  | _ n ih =>
    by_cases h : n < 10
    · rw [TL.numL_lt h, dg_lt h]
    · rw [TL.numL_step (by omega), dg_step (by omega), ih (n / 10) (by omega)]
theorem str_num (n : Nat) : Str.ofString (toString ((n : Nat) : Int)) = SX.S (dg n) := TL.ext_tl ((TL.tl_num n).trans (dg_num n))
theorem pad_dg {n : Nat} (h : n < 10000) : List.replicate (4 - (dg n).length) 48 ++ dg n = pad4 n := by
  unfold pad4
  by_cases h1 : n < 10
  · rw [dg_lt h1]
    show [48, 48, 48, 48 + n] = _
    congr 1
    · omega
    · congr 1
      · omega
      · congr 1
        · omega
        · congr 1
          omega
  · by_cases h2 : n < 100
    · rw [dg_step (by omega), dg_lt (n := n / 10) (by omega)]
      show [48, 48, 48 + n / 10, 48 + n % 10] = _
      congr 1
      · omega
      · congr 1
        · omega
        · congr 1
          omega
    · by_cases h3 : n < 1000
      · rw [dg_step (by omega), dg_step (n := n / 10) (by omega), dg_lt (n := n / 10 / 10) (by omega)]
        show [48, 48 + n / 10 / 10, 48 + n / 10 % 10, 48 + n % 10] = _
        congr 1
        · omega
        · congr 1
          omega
      · rw [dg_step (by omega), dg_step (n := n / 10) (by omega), dg_step (n := n / 10 / 10) (by omega), dg_lt (n := n / 10 / 10 / 10) (by omega)]
        show [48 + n / 10 / 10 / 10, 48 + n / 10 / 10 % 10, 48 + n / 10 % 10, 48 + n % 10] = _
        congr 1
        · omega
        · congr 1
          omega
theorem tail_dg {n : Nat} (h : n < 10000) : ([48, 48, 48] ++ dg n).drop (([48, 48, 48] ++ dg n).length - 4) = pad4 n := by
  have hl : (dg n).length ≤ 4 := dg_len (by decide) h
  have hp : 0 < (dg n).length := List.length_pos_iff.mpr (dg_ne n)
  rw [← pad_dg h]
  have e : ([48, 48, 48] : List Nat) = List.replicate ((dg n).length - 1) 48 ++ List.replicate (4 - (dg n).length) 48 := by
    rw [List.replicate_append_replicate, show (dg n).length - 1 + (4 - (dg n).length) = 3 by omega]
    rfl
  rw [e, List.append_assoc, List.drop_append_of_le_length (by simp; omega)]
  have e2 : ((List.replicate ((dg n).length - 1) 48 ++ (List.replicate (4 - (dg n).length) 48 ++ dg n)).length - 4) = (dg n).length - 1 := by
    simp
    omega
  rw [e2]
  simp
end K35

namespace L2
open PySem PySem.Spec PyProof.Rows
/-! ### enumerate(text, start=k) -/
/-- the signs of x, each in a new pair behind its number -/
def ItEs (x : Str) (k : Int) : It :=
  ⟨fun i _ => i < x.cps.size, fun i H v H' => ∃ (T : Addr) (c : Nat), v = .ref T ∧ H T = none ∧ x.cps[i]? = some c ∧ H' = upd H T (.tup [.int (k + (i : Int)), .str ⟨#[c]⟩]), fun i _ => i = x.cps.size⟩
theorem turn_enumS {P : Program} {w : World} {K : PySem.W.Frag} {elts : List Expr} {kk : Nat} {tpos : Pos} (e it : Addr) (x : Str) (t : Tok) (k : Int) :
    Turn P w K (.Tuple elts kk tpos) (ItEs x k) [e, it] e (fun i h => (∃ old, IsEnum h e it (k + (i : Int)) old) ∧ h.IsStrIter it (strIterType x) x t i ∧ e ≠ it) where
  mem := by simp
  obj := fun i h st b hb => by
    obtain ⟨⟨old, he⟩, ⟨o, ho, hc, hd⟩, _⟩ := st
    have z : b = e ∨ b = it := by simpa using hb
    rcases z with z | z
    · rw [z]; exact ⟨_, he, fun v q => nomatch q⟩
    · rw [z]; exact ⟨o, ho, fun v q => by rw [hd] at q; cases q⟩
  keep := fun i h h' st kp => by
    obtain ⟨⟨old, he⟩, ⟨o, ho, hr⟩, hne⟩ := st
    exact ⟨⟨old, kp e (by simp) _ he⟩, ⟨o, kp it (by simp) o ho, hr⟩, hne⟩
  item := by
    intro X hP hw hK hc i pins s σ H E I hf st hg
    subst hP hw hK
    obtain ⟨⟨old, he⟩, hit, hne⟩ := st
    have hel : e < s.heap.objs.size := Heap.lt_size he
    have hil : it < s.heap.objs.size := by obtain ⟨_, q, _⟩ := hit; exact Heap.lt_size q
    have D := Draws.text (prog := X.prog) (w := X.w) (A := X.A.in1) (I.ok.hd hc) it x t
    refine wpAny_pyNext_enum_itemC D he hit hg hne (by simpa using hne) fun v h' tk hv ho hit' hT hsz hk => ?_
    obtain ⟨c, u, hcx, rfl⟩ := hv
    refine ⟨_, rfl, wpAny_letOwnedTupleGo_enum (s := { s with heap := h', toks := tk + 1 }) ho fun h'' he' sb => ?_⟩
    have hT2 : h''.get? s.heap.objs.size = some { cls := .type "tuple", data := .seq #[.int (k + (i : Int)) tk, .str ⟨#[c]⟩ u] } := (sb.2 _ (Nat.ne_of_gt hel)).trans hT
    have new : ObjOk X.prog X.w (upd H s.heap.objs.size (.tup [.int (k + (i : Int)), .str ⟨#[c]⟩])) h'' s.heap.objs.size (.tup [.int (k + (i : Int)), .str ⟨#[c]⟩]) :=
      ⟨by show 2 ≤ sizeLine; decide, [.int (k + (i : Int)) tk, .str ⟨#[c]⟩ u], .cons ⟨_, rfl⟩ (.cons ⟨u, rfl⟩ .nil), ⟨_, hT2, rfl, _, rfl⟩⟩
    have I1 : Inv X pins σ (upd H s.heap.objs.size (.tup [.int (k + (i : Int)), .str ⟨#[c]⟩])) { s with heap := h'', toks := tk + 1 } :=
      I.turnedNew (ch := [e, it]) (fun b ob hb q => (sb.2 b (fun z => hb (by simp [z]))).trans (hk b ob (fun z => hb (by simp [z])) (fun z => hb (by simp [z])) q)) hf (Nat.le_refl _) new
    refine ⟨.ref s.heap.objs.size, _, I1, rfl, ⟨_, c, rfl, I.hok.fresh (Nat.le_refl _), hcx, rfl⟩, ⟨⟨.str ⟨#[c]⟩ u, ?_⟩, ?_, hne⟩, fun b hb => ?_⟩
    · have e1 : k + ((i + 1 : Nat) : Int) = k + (i : Int) + 1 := by omega
      rw [e1]
      exact he'
    · obtain ⟨o, ho2, hr⟩ := hit'
      exact ⟨o, (sb.2 it (Ne.symm hne)).trans ho2, hr⟩
    · have hb' : b < s.heap.objs.size := by
        have z : b = e ∨ b = it := by simpa using hb
        rcases z with z | z
        · rw [z]; exact hel
        · rw [z]; exact hil
      rw [upd_ne (Nat.ne_of_lt hb')]
      exact (hf b hb).1
  done := by
    intro X hP hw hK hc i pins s σ H E I hf st hg
    subst hP hw hK
    obtain ⟨⟨old, he⟩, hit, hne⟩ := st
    obtain ⟨f0, f1, f2, f3, f4, f5⟩ := hf it (by simp)
    have D := Draws.text (prog := X.prog) (w := X.w) (A := X.A.in1) (I.ok.hd hc) it x t
    have hg' : i = x.cps.size := hg
    refine wpAny_pyNext_enum_endD D he (hg' ▸ hit) fun h' eb => ⟨rfl, I.turned (t' := s.toks) (fun b o hb q => eb b o hb q) f0 f1 f3 f4 f5⟩
  self := fun A i s Q E st h => let ⟨⟨_, he⟩, _⟩ := st; wpAny_pyIter_enum he h

section
variable {M : Model} {A : Around} {E : Value → Shared → Prop} {s : Shared}
theorem callWith_typeKw {pos : Pos} {T : String} {args : List (Bool × Sem Value)} {kws : List (Option Str × Sem Value)} {Q : Value → Shared → Prop} (hpl : args.any (·.1) = false) (hkw : kws.any (·.1.isNone) = false)
    (h : wpAny M A (evalArgs (.type T) true args kws) (fun a s₁ => wpAny M A (call (.type T) ([] ++ a.pos) a.kw) Q E s₁) E s) : wpAny M A (PySem.callWith pos (.type T) [] args kws) Q E s := by
  unfold PySem.callWith
  refine wpAny_bind (wpAny_holding (wpAny_mono h (fun a s₁ h₁ => wpAny_bind (wpAny_standAt ?_)) fun _ _ y => y))
  simp only [hpl, hkw, Bool.or_false]
  refine wpAny_bind (wpAny_pure ?_)
  exact wpAny_bind (wpAny_mono h₁ (fun r s₂ hr => wpAny_bind (wpAny_holding (wpAny_point (wpAny_pure hr)))) fun _ _ y => y)
end
def iEnumS (k : Int) (te : TE) : TI := fun σ H R => te σ H fun v H1 => ∃ x, v = .str x ∧ R (ItEs x k) H1
theorem pi_enumS {X : Cx} {e : Expr} {te : TE} {p pos tpos kp cp : Pos} {j kk : Nat} {elts : List Expr} {k : Int} (hg : Gl X "enumerate") (hm : X.mg "enumerate" = none) (he : PE X e te) (hk0 : -(2 ^ 63) ≤ k) (hk1 : k < 2 ^ 63)
    (hs : backTo pos (starEach [e] X.env) = [(false, eval e X.env)] := by rfl)
    (hks : (backToKw pos (keywordEach [⟨some "start", .Constant (.int k) j cp, kp⟩] X.env)) = [(some (PySem.Str.ofString "start"), (do let v ← eval (.Constant (.int k) j cp) X.env; standAt pos; pure v))] := by rfl) :
    PI X (.Tuple elts kk tpos) (.Call (.Name "enumerate" p) [e] [⟨some "start", .Constant (.int k) j cp, kp⟩] pos) (iEnumS k te) := by
  refine ⟨fun pins s σ H R I h => ?_⟩
  refine wpAny_Call_Name_kw (ld_blt I hg hm boot_enumerate ?_)
  rw [hs, hks]
  refine callWith_typeKw rfl rfl ?_
  refine evalArgs_kwB rfl ?_
  refine Calls.spliced_cons (thn (he.run pins s σ H _ I h) fun v s1 ⟨y, H1, I1, r1, x, ex, q⟩ => Calls.spliced_nil ?_)
  subst ex
  obtain ⟨t, rfl⟩ := r1
  show wpAny _ _ (evalAll [(do let v ← eval (.Constant (.int k) j cp) X.env; standAt pos; pure v)]) _ _ _
  unfold evalAll
  refine wpAny_bind (wpAny_bind (wpAny_Constant_int (wpAny_bind (wpAny_standAt (wpAny_pure ?_)))))
  refine wpAny_bind (wpAny_holding (show wpAny _ _ (pure []) _ _ _ from wpAny_pure (wpAny_pure ?_)))
  refine enum_begins_start (begins_text x t) trivial hk0 hk1 fun h' hen hit hsz hk => wpAny_pyIter_enum hen ?_
  have I2 := I1.kept (t' := s1.toks + 1) hk
  refine ⟨s1.heap.objs.size + 1, [s1.heap.objs.size + 1, s1.heap.objs.size], _, _, H1, rfl, I2, turn_enumS (s1.heap.objs.size + 1) s1.heap.objs.size x t k, ⟨⟨.none, ?_⟩, ⟨_, hit, rfl, rfl⟩, Nat.succ_ne_self _⟩, fun b hb => ?_, q⟩
  · have e0 : k + ((0 : Nat) : Int) = k := by omega
    rw [e0]
    exact hen
  · have z : b = s1.heap.objs.size + 1 ∨ b = s1.heap.objs.size := by simpa using hb
    have hle : s1.heap.objs.size ≤ b := by
      rcases z with z | z
      · rw [z]; exact Nat.le_add_right _ _
      · rw [z]; exact Nat.le_refl _
    exact I1.fpOk hle (I1.hok.fresh hle)
/-! ### {n:04d} -/
def tFmt4 (te : TE) : TE := fun σ H Q => te σ H fun x H1 => ∃ n : Nat, x = .int n ∧ n < 10000 ∧ Q (.str (SX.S (K35.pad4 n))) H1
theorem spec4 : intSpecOk (PySem.Str.ofString "04d") = true := by decide +kernel
theorem spec4w : intSpecWidthOf (PySem.Str.ofString "04d") = 4 := by decide +kernel
theorem spec4z : intSpecZeroOf (PySem.Str.ofString "04d") = true := by decide +kernel
theorem nodigits {X : Cx} {pins : List (Addr × Obj)} {σ : St} {H : Hp} {s : Shared} (I : Inv X pins σ H s) (hd : PySem.W.nsIn X.K cStatics "sys.int_max_str_digits" = some none) : s.heap.NoDigits := by
  obtain ⟨mc, hn, _⟩ := I.nolimit
  refine ⟨mc, hn, ?_⟩
  obtain ⟨o, es, ep, ho, hdat, _, hf⟩ := hn
  unfold PySem.W.nsIn at hd
  split at hd
  · rename_i c d es' n' sl q
    have := I.kIn _ _ q
    rw [ho] at this
    cases this
    cases hdat
    split at hd
    · cases hd
    · rename_i hnone
      rw [← hf]
      unfold nsFind findBy
      rw [← Array.find?_toList, hnone]
      rfl
  · cases hd
theorem pe_fmt4 {X : Cx} {e : Expr} {te : TE} {pos p1 p2 : Pos} {k : Nat} (he : PE X e te) (hd : PySem.W.nsIn X.K cStatics "sys.int_max_str_digits" = some none) : PE X (.FormattedValue e (-1) (some (.JoinedStr [.Constant (.str "04d") k p1] p2)) pos) (tFmt4 te) := by
  refine ⟨fun pins s σ H Q I h => ?_⟩
  refine wpAny_FormattedValue_spec (thn (he.run pins s σ H _ I h) fun v s1 ⟨x, H1, I1, r1, n, ex, hn, q⟩ => ?_)
  subst ex
  obtain ⟨t, rfl⟩ := r1
  refine wpAny_JoinedStr_one (Calls.Constant_str ⟨_, _, rfl, ?_⟩)
  refine formatField_int_specOf (nodigits (I1.tok _) hd) ?_ spec4 (fun W hW F => ?_) (by decide)
  · have : (10 : Nat) ^ 4 ≤ 10 ^ 4300 := Nat.pow_le_pow_right (by decide) (by decide)
    have e2 : (n : Int).natAbs = n := by omega
    rw [e2]
    omega
  · have e := F.zeroG spec4z (by omega)
    rw [hW, spec4w] at e
    have e2 : intSpecTextOf (PySem.Str.ofString "04d") (n : Int) = SX.S (K35.pad4 n) := by
      rw [e, ← K35.pad_dg hn, ← SX.S_cat, K35.str_num, ← K35.dg_num]
      have e3 : (n : Int).natAbs = n := by omega
      rw [e3]
      show SX.S _ ++ _ = SX.S _ ++ _
      unfold TL.numL
      rw [List.length_map]
    rw [e2]
    exact ⟨.str (SX.S (K35.pad4 n)), H1, I1.tok _, ⟨_, rfl⟩, q⟩
/-! ### a sign, n times -/
theorem op_mul_sign {X : Cx} : OpR X (binaryOp .Mult) (fun x y H Q => ∃ (c : Nat) (n : Nat), x = .str (SX.S [c]) ∧ y = .int n ∧ n ≤ 1000 ∧ Q (.str (SX.S (List.replicate n c))) H) := by
  intro pins s σ H x y v u Q I rx ry h
  obtain ⟨c, n, rfl, rfl, hn, q⟩ := h
  obtain ⟨t, rfl⟩ := rx
  obtain ⟨t', rfl⟩ := ry
  have hl : (SX.S [c]).length = 1 := rfl
  have hn0 : ((n : Int)).toNat = n := by omega
  have key : (if (n : Int) < 1 then Made.str Str.empty else if ((n : Int) == 1 || (SX.S [c]).length == 0) = true then Made.val (.str (SX.S [c]) t) else Made.str ⟨(List.replicate (n : Int).toNat (SX.S [c]).cps).foldl (· ++ ·) #[]⟩).post (EP X pins σ Q) s := by
    by_cases h1 : (n : Int) < 1
    · rw [if_pos h1]
      have e : n = 0 := by omega
      subst e
      exact ⟨by decide, .str Str.empty, H, I.tok _, ⟨_, rfl⟩, q⟩
    · rw [if_neg h1]
      by_cases h2 : ((n : Int) == 1 || (SX.S [c]).length == 0) = true
      · rw [if_pos h2]
        have e : n = 1 := by
          rw [hl] at h2
          simp at h2
          omega
        subst e
        exact ⟨.str (SX.S [c]), H, I, ⟨_, rfl⟩, q⟩
      · rw [if_neg h2, hn0]
        have e : (⟨(List.replicate n (SX.S [c]).cps).foldl (· ++ ·) #[]⟩ : Str) = SX.S (List.replicate n c) := by
          have g : ∀ (m : Nat) (a : Array Nat), ((List.replicate m (SX.S [c]).cps).foldl (· ++ ·) a).toList = a.toList ++ List.replicate m c := by
            intro m
            induction m with
            | zero => intro a; simp
            | succ m ih =>
              intro a
              rw [List.replicate_succ, List.foldl_cons, ih]
              simp [List.replicate_succ]
          refine TL.ext_tl ?_
          have := g n #[]
          simpa [TL.tl] using this
        rw [e]
        refine ⟨?_, .str (SX.S (List.replicate n c)), H, I.tok _, ⟨_, rfl⟩, q⟩
        rw [SX.S_len, List.length_replicate, sizeLine_eq]
        omega
  refine P.mul_str ?_ (fun h1 _ => ?_) (fun _ _ => ?_) key
  · simp
    omega
  · rw [hl]
    have h2 : (1 : Int) ≤ (2 ^ 63 - 1) / (n : Int) := by
      refine (Int.le_ediv_iff_mul_le (by omega)).mpr ?_
      omega
    omega
  · rw [hl, hn0]
    unfold Builtin.Str.tooLong
    simp [sizeLine_eq]
    omega
end L2


/-! An own exception below another own one, whose __init__ says super().__init__(text) and stores a field. -/
namespace PySem
namespace SayX
open PySem.W PySem.Calls PyProof.Rows PySem.HandSPX
/-- __init__(self, saying): super().__init__('..'); self.saying = saying -/
def iA : Arguments := { posonlyargs := [], args := [{ arg := "self", annotation := none, pos := ⟨14, 17, 14, 21⟩ }, { arg := "saying", annotation := none, pos := ⟨14, 23, 14, 29⟩ }], vararg := none, kwonlyargs := [], kw_defaults := [], kwarg := none, defaults := [] }
def iB : List Stmt :=
  [.Expr (.Call (.Attribute (.Call (.Name "super" ⟨15, 8, 15, 13⟩) [] [] ⟨15, 8, 15, 15⟩) "__init__" ⟨15, 8, 15, 24⟩) [.Constant (.str "an invalid saying") 0 ⟨15, 25, 15, 44⟩] [] ⟨15, 8, 15, 45⟩) ⟨15, 8, 15, 45⟩,
   .Assign [.Attribute (.Name "self" ⟨16, 8, 16, 12⟩) "saying" ⟨16, 8, 16, 19⟩] (.Name "saying" ⟨16, 22, 16, 28⟩) ⟨16, 8, 16, 28⟩]
def iS : Scope := { kind := .function, names := [(PySem.Str.ofString "self", .local), (PySem.Str.ofString "saying", .local), (PySem.Str.ofString "__class__", .free), (PySem.Str.ofString "super", .globalImplicit)], isGenerator := false, isCoroutine := false, more := [] }
structure SayTxt (P : Program) (K : Frag) (mg : Str → Option Value) (C fI : Addr) : Prop where
  gC : mg "InvalidSaying" = some (.ref C)
  gS : mg "super" = none
  cls : ∃ nm q N bs bm sn sub ab col dd k0 k1 k2 k3 k5, K.lookup C = some (excClassObj nm q C N bs bm true sn sub ab col dd k0 k1 k2 k3 k5 "ValueError.__new__") ∧ refsVE bm = true
  sa : findIn K (.ref C) "__setattr__" = some (some (.builtin "object.__setattr__"))
  noN : findIn K (.ref C) "saying" = some none
  iC : findIn K (.ref C) "__init__" = some (some (.ref fI))
  tC : typeIn K (.ref fI) = some (.type "function")
  kC : keepIn K (.ref C) = true
  exC : subIn K (.ref C) (.type "BaseException") = some true
  veC : subIn K (.ref C) (.type "ValueError") = some true
  meC : mroIn K C (.ref C) = some true
  tyC : typeIn K (.ref C) = some (.type "type")
  te : exmOne K (.ref C) (.ref C) = some true
  up : ks_superIn K C C "__init__" = some (some (.builtin "ValueError.__init__"))
  op : nsIn K cStatics "thirdparty.any" = some none
  top : (P.main.scope.names.lookup ("super" : Str)).isSome = false
  fn : ∃ (oc : Value) (od : Option Addr) (doc pm : Value) (an : Option Addr) (cda cc : Addr) (ct : Value) (osl : Array (Option Value)) (ccl : Value) (cdd : Option Addr) (vs : Array Value) (ccs : Array (Option Value)) (file : Str) (tf : Tok)
      (cl : Value) (cld : Option Addr) (csl : Array (Option Value)),
    K.lookup fI = some ⟨oc, od, .func (fnX "__init__" "InvalidSaying.__init__" iA iB iS [("__class__", cc)] .none .none doc pm an (.ref cda) ct), osl⟩ ∧ codeIn K (.ref cda) "InvalidSaying.__init__" = true ∧
    K.lookup cda = some ⟨ccl, cdd, .fields vs, ccs⟩ ∧ vs[2]? = some (.str file tf) ∧ ((P.main.file : Str) == file) = true ∧ K.lookup cc = some ⟨cl, cld, .cell (some (.ref C)), csl⟩
theorem kept_but {K : Frag} {h h' : Heap} {x : Addr} (X : K.In h) (hx : K.lookup x = none) (k : ∀ b o, b ≠ x → h.get? b = some o → h'.get? b = some o) : K.In h' := fun a o e =>
  k a o (fun z => by rw [z, hx] at e; cases e) (X a o e)
theorem one_size (v : Value) : [v].length ≤ sizeLine := by
  rw [sizeLine_eq]
  exact (by decide : 1 ≤ 16777216)
/-- what __init__ leaves of a fresh exception at x -/
structure InitEnd (h h' : Heap) (x C dx t1 : Addr) (v : Value) : Prop where
  keep : ∀ b o, b ≠ x → h.get? b = some o → h'.get? b = some o
  obj : h'.get? x = some { cls := .ref C, dict := some dx, data := .fields #[.ref t1, .none, .none, .none, .bool false, .none] }
  dbig : h.objs.size ≤ dx
  dne : dx ≠ x
  ns : h'.Ns1 dx (fun y => if y = "saying" then some v else none)
structure OwnMade (h h' : Heap) (e C d : Addr) (v : Value) : Prop where
  keep : ∀ b o, h.get? b = some o → h'.get? b = some o
  new : h.objs.size ≤ e
  obj : ∃ oe vs, h'.get? e = some oe ∧ oe.cls = .ref C ∧ oe.dict = some d ∧ oe.data = .fields vs ∧ vs[1]? = some .none
  dbig : h.objs.size ≤ d
  dne : d ≠ e
  ns : h'.Ns1 d (fun y => if y = "saying" then some v else none)
section
variable {prog : Program} {w : World} {A : Around} {E : Value → Shared → Prop} {R : Result → Shared → Prop} {s : Shared} {K : Frag} {mg mb : Str → Option Value} {C fI : Addr}
theorem ldF {M : Model} {q : Str} {scope : Scope} {L a : Addr} {cd : Value} {cl : List (Str × Addr)} {m : Str → Option Value} {x : Str} {pos : Pos} {v : Value} {Q : Value → Shared → Prop} (hn : s.heap.Ns L m) (hv : m x = some v) (h : Q v s)
    (hk : scope.kind = .function := by rfl) (hl : (envX q scope L a cd cl).kindOf x = some .local := by rfl) (hd : (x == ("__debug__" : Str)) = false := by decide) :
    wpAny M A (eval (.Name x pos) (envX q scope L a cd cl)) Q E s := wpAny_Name (wpAny_loadName_local hk hl hn hv h) hd
/-- the bound ValueError.__init__, called -/
theorem call_ve {nm q : Str} {N : Addr} {bs bm : List Value} {sn : List Str} {sub : List Value} {ab : Bool} {col : Option Bool} {dd : Option Addr} {k0 k1 k2 k3 k5 : Option Value}
    {h : Heap} {g : Array GenState} {d : Drawn} {t : Nat} {os : OsState} {u e t0 : Addr} {rest : List Value} {Q : Value → Shared → Prop}
    (hC : h.get? C = some (excClassObj nm q C N bs bm true sn sub ab col dd k0 k1 k2 k3 k5 "ValueError.__new__")) (he : h.get? e = some (excO C t0)) (hu : h.get? u = some (kxs_mw "ValueError.__init__" e)) (hrest : rest.length ≤ sizeLine)
    (hq : ∀ h' t1, (∀ b o, b ≠ e → h.get? b = some o → h'.get? b = some o) → h'.get? e = some (excO C t1) → Q .none ⟨h', g, d, t, os⟩) :
    wpAny (model prog w) A (call (.ref u) rest) Q E ⟨h, g, d, t, os⟩ := by
  refine wpAny_call (codeAny_of_tree ?_)
  show wpAny _ A.in1 (callAny (.ref u) ⟨rest, []⟩) _ _ _
  simp only [callAny]
  refine wpAny_bind (wpAny_load hu ?_)
  simp only [kxs_mw, show (Value.type "method-wrapper" == Value.type "method" || Value.type "method-wrapper" == Value.type "builtin_function_or_method" || Value.type "method-wrapper" == Value.type "method-wrapper") = true by decide, if_true]
  refine W.KFB.if_so (by decide) ?_
  refine wpAny_bind (check_bound_init F.excBase_ValueError.toExcCallFacts hC he rfl ?_)
  refine wpAny_bind (wpAny_pure (wpAny_pure ?_))
  refine ⟨Code.quiet_builtin _ (by decide +kernel), codeAny_builtin F.excBase_ValueError.initEntry ?_⟩
  rw [Around.under_plainId F.excBase_ValueError.init.plain _]
  wp_walk
  refine hq _ h.objs.size (fun b o hb ho => ?_) ?_
  · rw [Heap.get?_update_other _ _ (Ne.symm hb)]
    exact Heap.get?_push_of_some _ ho
  · rw [Heap.get?_update_self _ (Heap.get?_push_of_some _ he) rfl]
    rfl
theorem say_init (T : SayTxt prog K mg C fI) {x t0 : Addr} {v : Value} (X : K.In s.heap) (hlim : s.heap.NoLimit) (hG : s.heap.Ns mainGlobals mg) (hB : s.heap.Ns builtinsNs mb) (hbb : ∀ x : Str, x ≠ "__name__" → mb x = bootBuiltins x)
    (hx : s.heap.get? x = some (excO C t0)) (hnx : K.lookup x = none) (hroom : A.depth < recursionLimit)
    (hq : ∀ h' tk dx t1, InitEnd s.heap h' x C dx t1 v → R (.ok (.ret .none)) { s with heap := h', toks := tk }) :
    codeAny (model prog w) A (.call (.ref fI) ⟨[.ref x, v], []⟩) R s := by
  obtain ⟨oc, od, doc, pm, an, cda, cc, ct, osl, ccl, cdd, vs, ccs, file, tf, cl, cld, csl, ho, hcd, hcda, hvs, hfile, hcc⟩ := T.fn
  obtain ⟨nm, qn, N, bs, bm, sn, sub, ab, col, dd, k0, k1, k2, k3, k5, hC, hbm⟩ := T.cls
  have hcl : clsIn K C = some { name := nm, bases := bs, mro := .ref C :: bm, ns := N, qualname := qn, hasDict := true, slotNames := sn, subclasses := sub, abstract := ab, collection := col, hasDel := false } := by unfold clsIn; rw [hC] <;> rfl
  refine ks_codeAny_call_defAt (fd := fnX "__init__" "InvalidSaying.__init__" iA iB iS [("__class__", cc)] .none .none doc pm an (.ref cda) ct) (body := iB) (binds := [("self", .ref x), ("saying", v)])
    hroom (X _ _ ho) rfl hlim (codeRec_of X hcd) rfl (BindsTo.of_eq (by first | rfl | with_unfolding_all rfl)) (show ∀ y ∈ iS.names, y.2 ≠ .cell by decide)
    (fun y hy => by
      rcases List.mem_cons.mp hy with rfl | hy
      · rfl
      · rw [List.mem_singleton.mp hy]
        rfl) (fun h₁ hns k => ?_) rfl rfl rfl
  have X₁ : K.In h₁ := X.keeps k
  have hx₁ := k _ _ hx
  have hvx : (fun y : Str => ([("self", Value.ref x), ("saying", v)] : List (Str × Value)).reverse.lookup y) "self" = some (.ref x) := by first | rfl | with_unfolding_all rfl | kernel_rfl
  have hvv : (fun y : Str => ([("self", Value.ref x), ("saying", v)] : List (Str × Value)).reverse.lookup y) "saying" = some v := by first | rfl | with_unfolding_all rfl | kernel_rfl
  have nCx : x ≠ C := fun e => by
    rw [e, hC] at hnx
    cases hnx
  obtain ⟨hp, g, d, tk, os⟩ := s
  -- super().__init__('..')
  show wpAt _ _ _ (execs iB (envX "InvalidSaying.__init__" iS hp.objs.size fI (.ref cda) [("__class__", cc)])) _ _ _
  unfold iB
  refine ks_wpAt_execs_cons (ks_wpAt_Expr_any ?_)
  refine ks_wpAt_MethodCall ?_
  refine ks_wpAt_super_base (env := envX "InvalidSaying.__init__" iS hp.objs.size fI (.ref cda) [("__class__", cc)]) rfl rfl (by decide) rfl (X₁ _ _ ho) rfl rfl rfl (X₁ _ _ hcda) rfl hvs hfile T.top ?_
  refine ks_loadName_global rfl rfl (loadGlobal_builtin (env := envX "InvalidSaying.__init__" iS hp.objs.size fI (.ref cda) [("__class__", cc)]) (hG.keeps k) T.gS (hB.keeps k) ((hbb _ (by decide +kernel)).trans (show bootBuiltins "super" = some (.type "super") by decide +kernel)) ⟨rfl, ?_⟩)
  refine wpAny_loadName_free rfl rfl rfl ⟨_, X₁ _ _ hcc, rfl⟩ ?_
  refine wpAny_loadName_local rfl rfl hns hvx ?_
  refine ks_wpAny_isType_cls (X₁ _ _ hC) rfl ⟨rfl, ?_⟩
  refine ks_wpAny_call_super (X₁ _ _ hC) rfl hx₁ rfl (fun c e => by cases e) (looks_mroIn X₁ T.meC) (fun h₂ hso k₂ => ?_)
  have X₂ : K.In h₂ := X₁.keeps k₂
  have hx₂ := k₂ _ _ hx₁
  have hup : alongIn K "__init__" (((Value.ref C :: bm).dropWhile (· != .ref C)).drop 1) = some (some (.builtin "ValueError.__init__")) := by
    have e := T.up
    unfold ks_superIn at e
    rw [hcl] at e
    exact e
  have I₂ : InstAt h₂ x (excO C t0) C none := ⟨hx₂, rfl, rfl, trivial⟩
  refine kxs_getMethod kxs_ValueError hso (looks_opaque X₂ T.op) (l₀ := .ref C :: bm) (fun A Q E s k q => wpAny_bind ((looks_clsIn X₂ hcl) A _ E s k (wpAny_pure q))) rfl X₂ hup (I₂.type.andThen (looks_subIn X₂ T.veC)) nCx (by decide) ?_
  have hu : (h₂.push (kxs_mw "ValueError.__init__" x)).get? h₂.objs.size = some (kxs_mw "ValueError.__init__" x) := Heap.get?_push_at rfl rfl
  have k₃ : ∀ b o, h₂.get? b = some o → (h₂.push (kxs_mw "ValueError.__init__" x)).get? b = some o := fun b o e => Heap.get?_push_of_some _ e
  refine kxs_callWith (i := "ValueError.__init__") (x := x) rfl ?_
  refine evalArgs_plain ?_
  refine Calls.spliced_cons ?_
  show wpAny _ _ (eval (.Constant (.str "an invalid saying") 0 ⟨15, 25, 15, 44⟩) _) _ _ _
  refine Calls.Constant_str (Calls.spliced_nil ⟨hu, ?_⟩)
  refine call_ve (k₃ _ _ (X₂ _ _ hC)) (k₃ _ _ hx₂) hu (one_size _) (fun h₄ t₄ k₄ hx₄ => ?_)
  -- self.saying = saying
  show wpAt _ _ _ (execs [_] _) _ _ _
  have k₀ : ∀ b o, b ≠ x → h₁.get? b = some o → h₄.get? b = some o := fun b o hb e => k₄ b o hb (k₃ b o (k₂ b o e))
  have X₄ : K.In h₄ := kept_but (X₁.keeps fun b o e => k₃ b o (k₂ b o e)) hnx k₄
  have hxL : hp.objs.size ≠ x := Nat.ne_of_gt (Heap.lt_size hx)
  have hns₄ : h₄.Ns hp.objs.size fun y => ([("self", Value.ref x), ("saying", v)] : List (Str × Value)).reverse.lookup y := hns.at fun o e => k₀ _ _ hxL e
  refine wpAt_of_wpAny (wpAny_execs_cons (plainObj_wpAny_Assign_Attribute ?_))
  refine ldF (v := v) hns₄ hvv (ldF (v := .ref x) hns₄ hvx ?_)
  refine set_plain X₄ (ox := excO C t₄) (od := none) ⟨hx₄, rfl, rfl, trivial⟩ T.sa ?_
  refine exc_osa X₄ hx₄ hcl (show refsVE (.ref C :: bm) = true from hbm) rfl T.noN (fun h₅ tk₅ dx k₅ dn dne hx₅ hn₅ => ?_)
  show wpAny _ _ (execs _ _) _ _ _
  have z1 : hp.objs.size < h₄.objs.size := hns₄.lt
  exact wpAny_execs_nil (hq h₅ tk₅ dx t₄ ⟨fun b o hb e => k₅ b o hb (k₀ b o hb (k b o e)), hx₅, Nat.le_of_lt (Nat.lt_of_lt_of_le z1 dn), dne, hn₅⟩)
theorem say_made (T : SayTxt prog K mg C fI) {v : Value} (X : K.In s.heap) (hlim : s.heap.NoLimit) (hG : s.heap.Ns mainGlobals mg) (hB : s.heap.Ns builtinsNs mb) (hbb : ∀ x : Str, x ≠ "__name__" → mb x = bootBuiltins x) (hroom : A.depth + 1 < recursionLimit)
    (hq : ∀ h' tk e d, OwnMade s.heap h' e C d v → R (.ok (.ret (.ref e))) { s with heap := h', toks := tk }) :
    codeAny (model prog w) A (.call (.ref C) ⟨[v], []⟩) R s := by
  obtain ⟨nm, q, N, bs, bm, sn, sub, ab, col, dd, k0, k1, k2, k3, k5, hC, hbm⟩ := T.cls
  obtain ⟨hp, g, dr, tk, os⟩ := s
  have k : ∀ b o, hp.get? b = some o → ((hp.push (kdv_tup [v])).push (excO C hp.objs.size)).get? b = some o := fun b o e => Heap.get?_push_of_some _ (Heap.get?_push_of_some _ e)
  have hget : ((hp.push (kdv_tup [v])).push (excO C hp.objs.size)).get? (hp.objs.size + 1) = some (excO C hp.objs.size) := by heap_get
  have hnx : K.lookup (hp.objs.size + 1) = none := by
    cases e : K.lookup (hp.objs.size + 1) with
    | none => rfl
    | some o =>
      have z : hp.get? (hp.objs.size + 1) = some o := X _ _ e
      exact absurd (Nat.lt_of_succ_lt (Heap.lt_size z)) (Nat.lt_irrefl _)
  refine call_own F.excBase_ValueError (fun X => refsVE_contains X bm hbm) (X _ _ hC) (looks_findIn X T.iC) (fun self => bind_fn X self T.tC) (one_size v) ?_
  refine say_init (s := ⟨(hp.push (kdv_tup [v])).push (excO C hp.objs.size), g, dr, tk, os⟩) T (X.keeps k) (hlim.keeps k) (hG.keeps k) (hB.keeps k) hbb hget hnx ?_ fun h' tk' dx t1 ⟨k', hx, dn, dne, hns⟩ => ?_
  · show A.depth + 1 < recursionLimit
    exact hroom
  · have old : ∀ b o, hp.get? b = some o → h'.get? b = some o := fun b o e => k' b o (Nat.ne_of_lt (Nat.lt_succ_of_lt (Heap.lt_size e))) (k b o e)
    have z : hp.objs.size + 1 + 1 ≤ dx := by
      first
        | (simpa only [Heap.size_push] using dn)
        | exact dn
        | (have q := dn; rw [Heap.size_push, Heap.size_push] at q; exact q)
    exact ⟨rfl, hq h' tk' (hp.objs.size + 1) dx ⟨old, Nat.le_succ _, ⟨_, _, hx, rfl, rfl, rfl, rfl⟩, Nat.le_trans (Nat.le_trans (Nat.le_succ _) (Nat.le_succ _)) z, dne, hns⟩⟩
end
end SayX
end PySem
namespace L2
open PySem PySem.Spec PyProof.Rows
theorem relO_say {v : V} {v' : Value} (r : RelV v v') (f : Str) : RelO (List.lookup f [(("saying" : Str), v)]) (if f = "saying" then some v' else none) := by
  by_cases hw : f = "saying"
  · subst hw
    rw [if_pos rfl]
    have q : List.lookup ("saying" : Str) [(("saying" : Str), v)] = some v := by simp [List.lookup]
    rw [q]
    exact r
  · rw [if_neg hw]
    have qw : (f == ("saying" : Str)) = false := by simpa using hw
    have q2 : List.lookup f [(("saying" : Str), v)] = none := by simp [List.lookup, qw]
    rw [q2]
    trivial
section
variable {X : Cx} {C fI : Addr}
/-- InvalidSaying(e) -/
def tMkSay (C : Addr) (ta : TA) : St → Hp → XK → Prop := fun σ H Q => ta σ H fun vs H1 => ∃ v, vs = [v] ∧ ∀ d, H1 d = none → Q (.ref C) (some d) (upd H1 d (.xd [(("saying" : Str), v)]))
theorem pmk_say {a : Expr} {ta : TA} {p pos : Pos} {k : Nat} (T : PySem.SayX.SayTxt X.prog X.K X.mg C fI) (hr : Room k X.A) (ha : PA X [a] ta) (hg : Gl X "InvalidSaying" := by rfl)
    (he : starEach (a :: []) X.env = (false, eval a X.env) :: starEach [] X.env := by rfl) (hpl : (backTo pos (starEach [] X.env)).any (·.1) = false := by rfl) :
    PMk X (.Call (.Name "InvalidSaying" p) [a] [] pos) (tMkSay C ta) := by
  intro pins s σ H Q I h
  refine wpAny_Call_Name_kw (ld_glob I hg T.gC ?_)
  refine PySem.W.callWith_K (h₀ := X.base) I.ok.mod.kin T.kC (thn (ha.run pos pins s σ H _ I h) fun us s1 hh => ?_) he hpl
  obtain ⟨vs, H1, I1, r1, v, ev, q1⟩ := hh
  subst ev
  refine ⟨I1.kIn, ?_⟩
  cases r1 with
  | cons rv rn =>
    rename_i v' us'
    cases rn
    show wpAny _ _ (call (.ref C) [v']) _ _ _
    have hlim := I1.nolimit
    obtain ⟨mb, b1, b2⟩ := I1.mod.blt
    have hG := I1.mod.glob.keeps I1.bk
    have hB := b1.keeps I1.bk
    obtain ⟨hp, g, dr, tk, os⟩ := s1
    refine wpAny_call (PySem.SayX.say_made T I1.kIn hlim hG hB b2 (by have := hr.dp; omega) fun h' tk' e d M => ?_)
    show MkP X pins σ Q (.ref e) ⟨h', g, dr, tk', os⟩
    obtain ⟨oe, fv, hoe, hc, hd, hdat, h1⟩ := M.obj
    have hns := M.ns
    obtain ⟨G', g1, g2⟩ := restrict h' fun b => decide (b ≠ e)
    have gk : ∀ b, b ≠ e → G'.get? b = h'.get? b := fun b hb => g1 b (decide_eq_true hb)
    have ge : G'.get? e = none := g2 e (by simp)
    have old : ∀ b o, hp.get? b = some o → G'.get? b = some o := fun b o q => (gk b (Nat.ne_of_lt (Nat.lt_of_lt_of_le (Heap.lt_size q) M.new))).trans (M.keep b o q)
    have ob : ObjOk X.prog X.w (upd H1 d (.xd [(("saying" : Str), v)])) G' d (.xd [(("saying" : Str), v)]) :=
      ⟨_, hns.at (fun o q => (gk d M.dne).trans q), fun f => relO_say rv f⟩
    have J : Inv X pins σ (upd H1 d (.xd [(("saying" : Str), v)])) ⟨G', g, dr, tk', os⟩ := I1.laid (t' := tk') old M.dbig ob
    refine ⟨e, oe, fv, ⟨G', g, dr, tk', os⟩, _, .ref C, some d, rfl, J, fun b o q => ?_, ge, hoe, ⟨hc, hd⟩, hdat, h1, ?_, rfl, I1.bare, raises_own T.exC T.tyC, q1 d (I1.hok.fresh M.dbig)⟩
    · by_cases hb : b = e
      · have q' : G'.get? b = some o := q
        rw [hb, ge] at q'; cases q'
      · exact (gk b hb).symm.trans q
    · rw [upd_ne (Ne.symm M.dne)]
      exact I1.hok.fresh M.new
/-- raise InvalidSaying(e) -/
def tRaiseSay (C : Addr) (W : WX) (ta : TA) : TS := fun _ σ H => tMkSay C ta σ H fun cls d H' => W cls d σ H'
theorem ps_raiseSay {a : Expr} {ta : TA} {W : WX} {p pos pos2 : Pos} {k : Nat} (hc : X.calm = true) (T : PySem.SayX.SayTxt X.prog X.K X.mg C fI) (hr : Room k X.A) (tk : Takes X W) (ha : PA X [a] ta) (hg : Gl X "InvalidSaying" := by rfl)
    (he : starEach (a :: []) X.env = (false, eval a X.env) :: starEach [] X.env := by rfl) (hpl : (backTo pos (starEach [] X.env)).any (·.1) = false := by rfl) :
    PS X (.Raise (some (.Call (.Name "InvalidSaying" p) [a] [] pos)) none pos2) (tRaiseSay C W ta) := ps_raise hc tk (pmk_say T hr ha hg he hpl)
end
end L2


/-! The text by places, what the top has written, small words. -/
namespace K35
open PySem PySem.Spec PyProof.Rows L2
open SX (S)
def top (i : Nat) : Stmt := PySem.Challenge.pw_livingroll_k35_whole_mended_twice_as_onc.main.body.getD i (.Pass ⟨0, 0, 0, 0⟩)

theorem ifT {c : Bool} {A B : Prop} (hc : c = true) (h : A) : if c = true then A else B := by
  rw [if_pos hc]
  exact h
theorem ifF {c : Bool} {A B : Prop} (hc : c = false) (h : B) : if c = true then A else B := by
  rw [if_neg (by rw [hc]; exact Bool.false_ne_true)]
  exact h
/-! ### defs by their names -/
structure Df (P : Program) (w : World) (K : PySem.W.Frag) (mg : Str → Option Value) (base : Heap) (k : Nat) (x : Str) (sp : Sp) : Prop where
  ex : ∃ (f : Addr) (fd : FuncData) (ps : List Str), FnOk P w K mg base CX0 k f fd ps sp ∧ mg x = some (.ref f) ∧ PySem.W.keepIn K (.ref f) = true ∧ Binds K fd ps []
structure Dk (K : PySem.W.Frag) (mg : Str → Option Value) (x : Str) (st : Stmt) : Prop where
  ex : ∃ (f : Addr) (fd : FuncData), Fun K x x st f fd ∧ mg x = some (.ref f)
theorem df_of {P : Program} {w : World} {K : PySem.W.Frag} {mg : Str → Option Value} {base : Heap} {k : Nat} {x : Str} {st : Stmt} {N ps : List Str} {sp : Sp} (D : Dk K mg x st) (Sc : FnScope N ps (defScope st))
    (hb : ∀ (kV doc pm : Value) (an : Option Addr) (cdv ct : Value) (us : List Value), us.length = ps.length → bindArgs (PySem.W.fnOf x x (defArgs st) (defBody st) (defScope st) .none kV doc pm an cdv ct) ⟨us, []⟩ = pure (ps.zip us))
    (len : ∀ vs H Q E, sp vs H Q E → vs.length = ps.length)
    (hbody : ∀ (f : Addr) (cdv : Value) (A : Around) (outer : List Env) (s : Shared) (H : Hp) (vs : List V) (Q : VK) (E : XK), Room k (A.deeper (envOfC x (defScope st) s.heap.objs.size f cdv)) → sp vs H Q E →
      ∃ t, PSs (cxOf CX0 P w K mg base N x (defScope st) f cdv A outer s H E).nox (defBody st) t ∧ t { nx := fun _ H' => Q .non H', rt := Q } (start N vs) H) : Df P w K mg base (k + 1) x sp := by
  obtain ⟨f, fd, F, hm⟩ := D.ex
  exact ⟨f, fd, ps, F.ok Sc len (hbody f), hm, F.kp, F.binds hb⟩
theorem Df.mono {P : Program} {w : World} {K : PySem.W.Frag} {mg : Str → Option Value} {base : Heap} {k j : Nat} {x : Str} {sp : Sp} (d : Df P w K mg base k x sp) (h : k ≤ j) : Df P w K mg base j x sp := by
  obtain ⟨f, fd, ps, F, h1, h2, h3⟩ := d.ex
  exact ⟨f, fd, ps, F.mono h, h1, h2, h3⟩
section
variable {X : Cx} {k j : Nat} {x : Str} {sp : Sp} {p pos : Pos} {e : Expr} {es : List Expr} {t : TA}
theorem pe_d (d : Df X.prog X.w X.K X.mg X.base k x sp) (hr : Room j X.A) (hk : k ≤ j) (hg : Gl X x) (ha : PA X (e :: es) t)
    (hdb : (x == ("__debug__" : Str)) = false := by decide) (he : starEach (e :: es) X.env = (false, eval e X.env) :: starEach es X.env := by rfl) (hpl : (backTo pos (starEach es X.env)).any (·.1) = false := by rfl) :
    PE X (.Call (.Name x p) (e :: es) [] pos) (tCall sp [] E0 t) := by
  obtain ⟨f, fd, ps, F, hm, kp, b⟩ := d.ex
  exact pe_call F (hr.mono hk) hg hm kp b .nil pass0 ha hdb he hpl
/-- a module's constant, by what stands under its name -/
theorem pe_k {v : V} (hg : Gl X x) (h : ∃ u, X.mg x = some u ∧ RelV v u) (hd : (x == ("__debug__" : Str)) = false := by decide) : PE X (.Name x p) (tC v) := by
  obtain ⟨u, hm, r⟩ := h
  exact pe_glob hg hm r hd
end

/-! ### what the top has written -/
structure Txt (P : Program) (K : PySem.W.Frag) (mg : Str → Option Value) : Prop where
  isi : mg "isinstance" = none
  int : mg "int" = none
  bool : mg "bool" = none
  str : mg "str" = none
  tuple : mg "tuple" = none
  len : mg "len" = none
  all : mg "all" = none
  sum : mg "sum" = none
  ord : mg "ord" = none
  enum : mg "enumerate" = none
  range : mg "range" = none
  abs : mg "abs" = none
  min : mg "min" = none
  max : mg "max" = none
  dgl : PySem.W.nsIn K cStatics "sys.int_max_str_digits" = some none
  mostLife : ∃ u, mg "MOST_LIFE" = some u ∧ RelV (.int (10 ^ 60 - 1)) u
  lifeD : ∃ u, mg "LIFE_DIGITS" = some u ∧ RelV (.int 60) u
  seatD : ∃ u, mg "SEAT_DIGITS" = some u ∧ RelV (.int 3) u
  worthL : ∃ u, mg "WORTH_LENGTH" = some u ∧ RelV (.int 12) u
  worthS : ∃ u, mg "WORTH_SIGNS" = some u ∧ RelV (.str "abcdefghijklmnopqrstuvwxyz0123456789") u
  emptyW : ∃ u, mg "EMPTY_WORTH" = some u ∧ RelV (.str "-") u
  modulus : ∃ u, mg "CHECK_MODULUS" = some u ∧ RelV (.int 9973) u
  width : ∃ u, mg "CHECK_WIDTH" = some u ∧ RelV (.int 5) u
  numD : ∃ u, mg "NUMBER_DIGITS" = some u ∧ RelV (.int 9) u
  marks : ∃ a, mg "MARKS" = some (.ref a) ∧ ∀ H, SqT K H a [.str "alive", .str "suspect", .str "dead", .str "left"]

/-! ### values -/
def ovN : Option Nat → V
  | none => .non
  | some n => .int n
def isNI (v : V) : Prop := v = .non ∨ ∃ n, v = .int n
theorem ovN_ni (o : Option Nat) : isNI (ovN o) := by
  cases o with
  | none => exact .inl rfl
  | some n => exact .inr ⟨n, rfl⟩
def wholeM (v : V) (lo hi : Int) : Bool := match v with
  | .int n => decide (lo ≤ n) && decide (n ≤ hi)
  | _ => false
theorem tyInt {K : PySem.W.Frag} {H : Hp} (i : Int) : TyX K H (.int i) (.type "int") := .base (.int i)
theorem kit_ii {K : PySem.W.Frag} : PySem.W.kitOne K (.type "int") (.type "int") = some true := kit_ty (by decide +kernel)
theorem kit_ib {K : PySem.W.Frag} : PySem.W.kitOne K (.type "int") (.type "bool") = some false := kit_ty (by decide +kernel)
theorem kit_ni {K : PySem.W.Frag} : PySem.W.kitOne K (.type "NoneType") (.type "int") = some false := kit_ty (by decide +kernel)
theorem kit_ss {K : PySem.W.Frag} : PySem.W.kitOne K (.type "str") (.type "str") = some true := kit_ty (by decide +kernel)
theorem kit_tt {K : PySem.W.Frag} : PySem.W.kitOne K (.type "tuple") (.type "tuple") = some true := kit_ty (by decide +kernel)

/-! ### whole -/
abbrev sWhole : Stmt := top 6
def spWhole : Sp := fun vs H Q _ => ∃ (v : V) (lo hi : Int), vs = [v, .int lo, .int hi] ∧ isNI v ∧ Q (.bl (wholeM v lo hi)) H
section
variable {P : Program} {w : World} {K : PySem.W.Frag} {mg : Str → Option Value} {base : Heap}
theorem sc_whole : FnScope ["value", "low", "high"] ["value", "low", "high"] (defScope sWhole) := ⟨rfl, rfl, rfl, by decide +kernel, rfl, by decide +kernel, by decide +kernel⟩
theorem ok_whole (D : Dk K mg "whole" sWhole) (T : Txt P K mg) : Df P w K mg base 1 "whole" spWhole := by
  refine df_of D sc_whole (fun _ _ _ _ _ _ us hl => match us, hl with | [_, _, _], _ => rfl) (fun vs H Q E h => ?_) (fun f cdv A outer s H vs Q E hr h => ?_)
  · obtain ⟨v, lo, hi, rfl, _⟩ := h
    rfl
  · obtain ⟨v, lo, hi, rfl, hv, k⟩ := h
    refine ⟨_, pss_cons (ps_if (PW.pt (pw_or (pt_not (pt_val (pe_callB call_isi (by rfl) T.isi (by decide +kernel) (pa_cons (pv 0) (pa_cons (pe_bltn (by rfl) T.int (by decide +kernel) (v := .ty "int") rfl) pa_nil)))))
        (pw_or1 (pt_val (pe_callB call_isi (by rfl) T.isi (by decide +kernel) (pa_cons (pv 0) (pa_cons (pe_bltn (by rfl) T.bool (by decide +kernel) (v := .ty "bool") rfl) pa_nil))))))) (pss_one (ps_ret pe_bl)) pss_nil)
      (pss_one (ps_ret (pe_and (pe_cmpR op_le (pv 1) (pv 0) (nomark _)) (pe_one (pe_or (pe_cmpR op_isN (pv 2) pe_non (nomark _)) (pe_one (pe_cmpR op_le (pv 0) (pv 2) (nomark _)))))))), ?_⟩
    rcases hv with rfl | ⟨n, rfl⟩
    · refine ⟨_, rfl, .non, .ty "int", _, _, false, rfl, .ty _, .base .non, kit_ni, false, rfl, ?_⟩
      exact k
    · refine ⟨_, rfl, .int n, .ty "int", _, _, true, rfl, .ty _, tyInt n, kit_ii, true, rfl, ?_⟩
      refine ⟨_, rfl, .int n, .ty "bool", _, _, false, rfl, .ty _, tyInt n, kit_ib, false, rfl, ?_⟩
      refine ⟨_, rfl, _, rfl, lo, n, rfl, rfl, _, rfl, ?_⟩
      by_cases h1 : lo ≤ n
      · rw [if_pos (decide_eq_true h1)]
        refine ⟨_, rfl, rfl, _, rfl, ?_⟩
        refine iteF ?_
        refine ⟨_, rfl, _, rfl, n, hi, rfl, rfl, ?_⟩
        have e : wholeM (.int n) lo hi = decide (n ≤ hi) := by
          show (decide (lo ≤ n) && decide (n ≤ hi)) = _
          rw [decide_eq_true h1, Bool.true_and]
        rw [e] at k
        exact k
      · rw [if_neg (by rw [decide_eq_false h1]; decide)]
        have e : wholeM (.int n) lo hi = false := by
          show (decide (lo ≤ n) && decide (n ≤ hi)) = _
          rw [decide_eq_false h1, Bool.false_and]
        rw [e] at k
        exact k
end
end K35


/-! plain_number, is_worth, life_ok, seats, is_saying -/
namespace K35
open PySem PySem.Spec PyProof.Rows L2
open SX (S)
/-! ### texts as lists -/
theorem asc_S (l : List Nat) : Txt.isascii (S l) = l.all (fun c => decide (c < 128)) := by
  show (S l).cps.all _ = _
  rw [← Array.all_toList]
theorem digit_asc : ∀ c, c < 128 → Unicode.isDigit c = (decide (48 ≤ c) && decide (c ≤ 57)) := by decide +kernel
theorem dig_S {l : List Nat} (h : l.all (fun c => decide (c < 128)) = true) : Txt.isdigit (S l) = decide (l ≠ [] ∧ Digs l) := by
  show (decide ((S l).length > 0) && (S l).cps.all Unicode.isDigit) = _
  rw [← Array.all_toList, SX.S_len]
  show (decide (l.length > 0) && l.all Unicode.isDigit) = _
  have e : l.all Unicode.isDigit = decide (Digs l) := by
    rw [Bool.eq_iff_iff, List.all_eq_true, decide_eq_true_eq]
    constructor
    · intro q c hc
      have h1 := of_decide_eq_true (List.all_eq_true.mp h c hc)
      have h2 := q c hc
      rw [digit_asc c h1, Bool.and_eq_true, decide_eq_true_eq, decide_eq_true_eq] at h2
      exact h2
    · intro q c hc
      have h1 := of_decide_eq_true (List.all_eq_true.mp h c hc)
      have h2 := q c hc
      rw [digit_asc c h1, Bool.and_eq_true, decide_eq_true_eq, decide_eq_true_eq]
      exact h2
  rw [e]
  cases l with
  | nil => rfl
  | cons c l => simp
theorem starts_S (l : List Nat) (d : Nat) : Txt.startswith (S l) (S [d]) = decide (l.head? = some d) := by
  have h := TL.at_iff (x := S l) (y := S [d]) (by show [d] ≠ []; simp) 0
  have e : TL.pre (TL.tl (S [d])) ((TL.tl (S l)).drop 0) = decide (l.head? = some d) := by
    show ((l.drop 0).take 1 == [d]) = _
    cases l with
    | nil => rfl
    | cons c l => simp [Bool.beq_eq_decide_eq]
  rw [e] at h
  have e2 : Txt.startswith (S l) (S [d]) = true ↔ StrLaws.At (S l) (S [d]) (S l).length 0 := by
    show (decide (0 + (S [d]).length ≤ (S l).length) && Builtin.Str.subAt (S l) (S [d]) 0) = true ↔ _
    rw [Bool.and_eq_true, decide_eq_true_eq]
    exact Iff.rfl
  rw [Bool.eq_iff_iff, e2, h]

/-! ### plain_number -/
abbrev sNum : Stmt := top 7
def spNum : Sp := fun vs H Q _ => ∃ (l : List Nat) (k : Nat), vs = [.str (S l), .int k] ∧ l.length ≤ sizeLine ∧ k ≤ 640 ∧ Q (ovN (pnum l k)) H
section
variable {P : Program} {w : World} {K : PySem.W.Frag} {mg : Str → Option Value} {base : Heap}
theorem sc_num : FnScope ["text", "digits"] ["text", "digits"] (defScope sNum) := ⟨rfl, rfl, rfl, by decide +kernel, rfl, by decide +kernel, by decide +kernel⟩
theorem pnum_none {l : List Nat} {k : Nat} (h : ¬ ((l ≠ [] ∧ Digs l) ∧ l.length ≤ k ∧ ¬ (l.head? = some 48 ∧ 1 < l.length))) : pnum l k = none := if_neg h
theorem ok_num (D : Dk K mg "plain_number" sNum) (T : Txt P K mg) : Df P w K mg base 1 "plain_number" spNum := by
  refine df_of D sc_num (fun _ _ _ _ _ _ us hl => match us, hl with | [_, _], _ => rfl) (fun vs H Q E h => ?_) (fun f cdv A outer s H vs Q E hr h => ?_)
  · obtain ⟨v, lo, rfl, _⟩ := h
    rfl
  · obtain ⟨l, k, rfl, hz, hk, q⟩ := h
    have hlen : (S l).length ≤ sizeLine := by rw [SX.S_len]; exact hz
    refine ⟨_, pss_cons (ps_if (PW.pt (pw_or (pt_not (pt_val (pe_m0 F.slot_str_isascii F.type_str_isascii mt_isascii (pv 0)))) (pw_or (pt_not (pt_val (pe_m0 F.slot_str_isdigit F.type_str_isdigit mt_isdigit (pv 0))))
        (pw_or1 (pt_cmpR op_gt (pe_callB call_len_str (by rfl) T.len PySem.boot_len (pa_cons (pv 0) pa_nil)) (pv 1) (nomark _)))))) (pss_one (ps_ret pe_non)) pss_nil)
      (pss_cons (ps_if (PW.pt (pw_and (pt_val (pe_m1 F.slot_str_startswith F.type_str_startswith mt_startswith (pv 0) pe_str)) (pw_and1 (pt_cmpR op_gt (pe_callB call_len_str (by rfl) T.len PySem.boot_len (pa_cons (pv 0) pa_nil)) pe_int (nomark _))))) (pss_one (ps_ret pe_non)) pss_nil)
      (pss_one (ps_ret (pe_callTy call_int_str (by rfl) T.int (by decide +kernel) (pa_cons (pv 0) pa_nil))))), ?_⟩
    refine ⟨_, rfl, ⟨_, rfl⟩, _, rfl, rfl, trivial, _, rfl, ?_⟩
    rw [asc_S]
    by_cases ha : l.all (fun c => decide (c < 128)) = true
    · rw [ha]
      refine iteF ?_
      refine ⟨_, rfl, ⟨_, rfl⟩, _, rfl, rfl, trivial, _, rfl, ?_⟩
      rw [dig_S ha]
      by_cases hd : l ≠ [] ∧ Digs l
      · rw [decide_eq_true hd]
        refine iteF ?_
        refine ⟨_, rfl, _, rfl, hlen, _, rfl, _, _, rfl, rfl, _, rfl, ?_⟩
        rw [SX.S_len]
        by_cases hk2 : (k : Int) < (l.length : Int)
        · refine ifT (decide_eq_true hk2) ?_
          rw [pnum_none (by omega)] at q
          exact q
        · refine ifF (decide_eq_false hk2) ?_
          refine ⟨_, rfl, ⟨_, rfl⟩, _, _, rfl, rfl, _, rfl, ?_⟩
          have hst := starts_S l 48
          have last : ∀ (Q' : Prop), (pnum l k = some (dval l) → Q') → ¬ (l.head? = some 48 ∧ 1 < l.length) → Q' := fun Q' h1 h2 => h1 (if_pos ⟨hd, by omega, h2⟩)
          have fin : ¬ (l.head? = some 48 ∧ 1 < l.length) → ∃ v, (some (some (V.str (S l))) : Option (Option V)) = some (some v) ∧ ∃ a n, [v] = [V.str a] ∧ intText? a = some n ∧ a.length ≤ 640 ∧ Q (.int n) H := fun h2 => by
            have e : pnum l k = some (dval l) := if_pos ⟨hd, by omega, h2⟩
            rw [e] at q
            refine ⟨_, rfl, S l, ((dval l : Nat) : Int), rfl, ?_, by rw [SX.S_len]; omega, q⟩
            refine SX.int_S (List.all_eq_true.mpr fun c hc => ?_) hd.1 (by omega)
            rw [Bool.and_eq_true, decide_eq_true_eq, decide_eq_true_eq]
            exact hd.2 c hc
          by_cases h0 : l.head? = some 48
          · refine ifT (hst.trans (decide_eq_true h0)) ?_
            refine ⟨_, rfl, _, rfl, hlen, _, _, rfl, rfl, _, rfl, ?_⟩
            rw [SX.S_len]
            by_cases h1 : (1 : Int) < (l.length : Int)
            · refine ifT (decide_eq_true h1) ?_
              rw [pnum_none (by intro z; exact z.2.2 ⟨h0, by omega⟩)] at q
              exact q
            · refine ifF (decide_eq_false h1) ?_
              exact fin fun z => by omega
          · refine ifF (hst.trans (decide_eq_false h0)) ?_
            refine iteF ?_
            exact fin fun z => h0 z.1
      · rw [decide_eq_false hd]
        refine iteT ?_
        rw [pnum_none (fun z => hd z.1)] at q
        exact q
    · have e : l.all (fun c => decide (c < 128)) = false := by simpa using ha
      rw [e]
      refine iteT ?_
      rw [pnum_none ?_] at q
      · exact q
      · intro z
        apply ha
        rw [List.all_eq_true]
        intro c hc
        have := z.1.2 c hc
        exact decide_eq_true (by omega)
end
end K35

namespace K35
open PySem PySem.Spec PyProof.Rows L2
open SX (S)
/-- a comprehension over any walk of n turns -/
theorem lc_gen {J : It} {n : Nat} {g : TG} {tt : TT} {te : TE} {vs : List Nat} {σ : L2.St} {H1 : Hp} {D : Addr} {Qd : Hp → Prop} (Pv : Nat → Hp → Prop) (h0 : Pv 0 (upd H1 D (.lst [])))
    (hgo : ∀ i H, i < n → Pv i H → J.go i H) (hst : ∀ H, Pv n H → J.stop n H)
    (hs : ∀ i x H H', i < n → Pv i H → J.yld i H x H' → g x (wipe σ vs) H' fun σ2 H2 => wipe σ2 vs = wipe σ vs ∧ tt σ2 H2 fun b H3 =>
      if b = true then te σ2 H3 fun y H4 => ∃ acc, H4 D = some (.lst acc) ∧ acc.length < sizeLine ∧ Pv (i + 1) (upd H4 D (.lst (acc ++ [y]))) else Pv (i + 1) H3) (hd : ∀ H, Pv n H → Qd H) :
    ∃ W : Nat → Nat → Hp → Prop, (∃ m, W 0 m (upd H1 D (.lst []))) ∧ ∀ i m H, W i m H →
      (J.stop i H ∧ Qd H) ∨ (J.go i H ∧ ∃ Nx : Hp → Prop, (∀ H', Nx H' → ∃ m', m' < m ∧ W (i + 1) m' H') ∧ ∀ x H', J.yld i H x H' → g x (wipe σ vs) H' fun σ2 H2 => wipe σ2 vs = wipe σ vs ∧ tt σ2 H2 fun b H3 =>
        if b = true then te σ2 H3 fun y H4 => ∃ acc, H4 D = some (.lst acc) ∧ acc.length < sizeLine ∧ Nx (upd H4 D (.lst (acc ++ [y]))) else Nx H3) := by
  refine ⟨fun i m H => m = n - i ∧ i ≤ n ∧ Pv i H, ⟨n, by simp, Nat.zero_le _, h0⟩, fun i m H hW => ?_⟩
  obtain ⟨hm, hi, p⟩ := hW
  subst hm
  by_cases hlt : i < n
  · refine .inr ⟨hgo i H hlt p, Pv (i + 1), fun H' p' => ⟨n - (i + 1), by omega, rfl, hlt, p'⟩, fun x H' y => hs i x H H' hlt p y⟩
  · have e : i = n := by omega
    subst e
    exact .inl ⟨hst H p, hd H p⟩
theorem same_new {H : Hp} {p : Addr} {o : HO} (h : H p = none) : Same H (upd H p o) := fun b u e => by
  rw [upd_ne (ne_of_none e h)]
  exact e
/-- what was tracked in H stands in H', and D was new -/
theorem same_upd {H H' : Hp} {D : Addr} {o : HO} (s : Same H H') (hD : H D = none) : Same H (upd H' D o) := fun b u e => by
  rw [upd_ne (ne_of_none e hD)]
  exact s b u e

/-! ### is_worth -/
abbrev sWorth : Stmt := top 17
def spWorth : Sp := fun vs H Q _ => ∃ (l : List Nat), vs = [.str (S l)] ∧ l.length ≤ 1000000 ∧ ∀ H', Same H H' → Q (.bl (worthOk l)) H'
section
variable {P : Program} {w : World} {K : PySem.W.Frag} {mg : Str → Option Value} {base : Heap}
theorem sc_worth : FnScope ["text", "sign"] ["text"] (defScope sWorth) := ⟨rfl, rfl, rfl, by decide +kernel, rfl, by decide +kernel, by decide +kernel⟩
theorem wsigns_eq : (Str.ofString "abcdefghijklmnopqrstuvwxyz0123456789").cps.toList = wsigns := by decide +kernel
theorem ok_worth (D : Dk K mg "is_worth" sWorth) (T : Txt P K mg) : Df P w K mg base 1 "is_worth" spWorth := by
  refine df_of D sc_worth (fun _ _ _ _ _ _ us hl => match us, hl with | [_], _ => rfl) (fun vs H Q E h => ?_) (fun f cdv A outer s H vs Q E hr h => ?_)
  · obtain ⟨v, rfl, _⟩ := h
    rfl
  · obtain ⟨l, rfl, hz, q⟩ := h
    have hlen : (S l).length ≤ sizeLine := by rw [SX.S_len, sizeLine_eq]; omega
    refine ⟨_, pss_cons (ps_if (PW.pt (pw_or (pt_not (pt_val (pe_callB call_isi (by rfl) T.isi (by decide +kernel) (pa_cons (pv 0) (pa_cons (pe_bltn (by rfl) T.str (by decide +kernel) (v := .ty "str") rfl) pa_nil)))))
        (pw_or1 (pt_cmpR op_gt (pe_callB call_len_str (by rfl) T.len PySem.boot_len (pa_cons (pv 0) pa_nil)) (pe_k (by rfl) T.worthL) (nomark _))))) (pss_one (ps_ret pe_bl)) pss_nil)
      (pss_one (ps_ret (pe_callB (cr_all rfl) (by rfl) T.all (by decide +kernel) (pa_cons
        (pe_lc (own := [("sign", 1)]) (g := gName 1) (tt := tYes) rfl sc_worth.nd (pi_str (pv 0)) (blkOk_by (own := [("sign", 1)]) (N := ["text", "sign"]) (sc := defScope sWorth) (by decide +kernel)) (fun _ _ _ _ _ => pg_name (i := 1) sc_worth.nd rfl (Or.inl rfl)) (fun _ _ _ _ _ => pts_nil)
          (fun _ _ _ _ _ => pe_cmpR op_in_sign (pv 1) (pe_k (by rfl) T.worthS) (by rfl))) pa_nil)))), ?_⟩
    refine ⟨_, rfl, .str (S l), .ty "str", _, _, true, rfl, .ty _, .base (.str _), kit_ss, true, rfl, ?_⟩
    refine ⟨_, rfl, _, rfl, hlen, _, _, rfl, rfl, _, rfl, ?_⟩
    rw [SX.S_len]
    by_cases h12 : (12 : Int) < (l.length : Int)
    · refine ifT (decide_eq_true h12) ?_
      have e : worthOk l = false := by
        unfold worthOk
        rw [decide_eq_false (by omega), Bool.false_and]
      rw [e] at q
      exact q _ (Same.refl _)
    · refine ifF (decide_eq_false h12) ?_
      refine ⟨_, rfl, _, rfl, fun Dd hD => ?_⟩
      refine lc_gen (n := l.length) (fun i H' => Same H H' ∧ H' Dd = some (.lst ((l.take i).map fun c => V.bl (decide (c ∈ wsigns))))) ⟨same_new hD, upd_same⟩ (fun i H' hi _ => ?_) (fun H' _ => ?_) (fun i x H' H'' hi p y => ?_) (fun H' p => ?_)
      · show i < (S l).cps.size
        simpa using hi
      · show (S l).cps.size ≤ l.length
        simp
      · obtain ⟨e, c, hc, ex⟩ := y
        subst e ex
        obtain ⟨p1, p2⟩ := p
        have hc' : l[i]? = some c := by simpa using hc
        refine ⟨rfl, ⟨_, rfl, c, _, rfl, rfl, ?_⟩⟩
        rw [wsigns_eq]
        refine ⟨_, p2, ?_, same_upd p1 hD, ?_⟩
        · rw [List.length_map, List.length_take, sizeLine_eq]
          omega
        · rw [upd_same]
          have e2 : l.take (i + 1) = l.take i ++ [c] := by
            rw [List.take_add_one, hc']
            rfl
          rw [e2, List.map_append]
          rfl
      · obtain ⟨p1, p2⟩ := p
        rw [List.take_length] at p2
        have e : (l.map fun c => V.bl (decide (c ∈ wsigns))) = (l.map fun c => decide (c ∈ wsigns)).map V.bl := by rw [List.map_map]; rfl
        rw [e] at p2
        refine ⟨Dd, _, rfl, SqL.of p2, ?_⟩
        have e2 : (l.map fun c => decide (c ∈ wsigns)).all id = worthOk l := by
          unfold worthOk
          rw [decide_eq_true (by omega), Bool.true_and, List.all_map]
          rfl
        rw [e2]
        exact q _ p1

/-! ### life_ok -/
abbrev sLife : Stmt := top 18
def spLife : Sp := fun vs H Q _ => ∃ (v : V), vs = [v] ∧ isNI v ∧ Q (.bl (wholeM v 0 (10 ^ 60 - 1))) H
theorem sc_life : FnScope ["life"] ["life"] (defScope sLife) := ⟨rfl, rfl, rfl, by decide +kernel, rfl, by decide +kernel, by decide +kernel⟩
theorem ok_life (D : Dk K mg "life_ok" sLife) (T : Txt P K mg) (d1 : Df P w K mg base 1 "whole" spWhole) : Df P w K mg base 2 "life_ok" spLife := by
  refine df_of D sc_life (fun _ _ _ _ _ _ us hl => match us, hl with | [_], _ => rfl) (fun vs H Q E h => ?_) (fun f cdv A outer s H vs Q E hr h => ?_)
  · obtain ⟨v, rfl, _⟩ := h
    rfl
  · obtain ⟨v, rfl, hv, q⟩ := h
    refine ⟨_, pss_one (ps_ret (pe_d d1 hr (by decide) (by rfl) (pa_cons (pv 0) (pa_cons pe_int (pa_cons (pe_k (by rfl) T.mostLife) pa_nil))))), ?_⟩
    exact ⟨_, rfl, v, 0, _, rfl, hv, q⟩
end
end K35


/-! seats, is_saying, parse_saying -/
namespace K35
open PySem PySem.Spec PyProof.Rows L2
open SX (S)
/-! ### splits -/
theorem spl_sp (s : Nat) : ∀ (l acc : List Nat), TL.spl [s] 0 acc l = sp s acc l
  | [], acc => TL.spl_nil _ _ _
  | c :: l, acc => by
    by_cases h : c = s
    · subst h
      rw [TL.spl_hit (by show ([c] == [c]) = true; simp), sp_cons, if_pos rfl]
      show acc :: TL.spl [c] 0 [] l = _
      rw [spl_sp c l []]
    · have hp : TL.pre [s] (c :: l) = false := TL.pre_of_head [] l h
      rw [TL.spl_miss hp, sp_cons, if_neg h, spl_sp s l _]
theorem split_sp {s : Nat} (h : s < 256) (l : List Nat) : Txt.split (S l) (S [s]) = (sp s [] l).map S := by
  rw [SX.split_S (by simp) (by simpa using h), spl_sp]
theorem sp_le {s : Nat} : ∀ (l acc p : List Nat), p ∈ sp s acc l → p.length ≤ acc.length + l.length
  | [], acc, p, h => by
    rw [sp_nil] at h
    rw [List.mem_singleton.mp h]
    omega
  | c :: l, acc, p, h => by
    rw [sp_cons] at h
    by_cases hc : c = s
    · rw [if_pos hc] at h
      rcases List.mem_cons.mp h with h | h
      · rw [h]; simp
      · have := sp_le l [] p h
        simp at this ⊢
        omega
    · rw [if_neg hc] at h
      have := sp_le l (acc ++ [c]) p h
      simp at this ⊢
      omega

/-! ### the setting -/
abbrev inSet (j : Nat) : Stmt := inClass (top 8) j
abbrev sSeats : Stmt := inSet 7
def SetAt (C : Addr) (H : Hp) (s : Addr) (bits : Nat) : Prop := ∃ dx fs, H s = some (.ins C dx fs) ∧ fs.lookup ("bits" : Str) = some (.int bits)
theorem SetAt.keep {C : Addr} {H H' : Hp} {s : Addr} {bits : Nat} (h : SetAt C H s bits) (e : Same H H') : SetAt C H' s bits := by
  obtain ⟨dx, fs, h1, h2⟩ := h
  exact ⟨dx, fs, e _ _ h1, h2⟩
def spSeats (C : Addr) : Sp := fun vs H Q _ => ∃ (s : Addr) (bits : Nat), vs = [.ref s] ∧ SetAt C H s bits ∧ bits ≤ 8 ∧ Q (.int ((2 ^ bits : Nat) : Int)) H
/-- the class Setting -/
structure SetC (K : PySem.W.Frag) (C : Addr) : Prop where
  cl : Cls K C
  nB : NoAttr K C "bits"
  seats : ∃ p g fd, PropOf K C "seats" p g ∧ Fun K "seats" "Setting.seats" sSeats g fd
section
variable {P : Program} {w : World} {K : PySem.W.Frag} {mg : Str → Option Value} {base : Heap} {CS CI fI : Addr}
theorem sc_seats : FnScope ["self"] ["self"] (defScope sSeats) := ⟨rfl, rfl, rfl, by decide +kernel, rfl, by decide +kernel, by decide +kernel⟩
theorem ok_seats {g : Addr} {fd : FuncData} (F : Fun K "seats" "Setting.seats" sSeats g fd) (C : SetC K CS) : FnOk P w K mg base CX0 1 g fd ["self"] (spSeats CS) := by
  refine F.ok sc_seats (fun vs H Q E h => ?_) (fun cdv A outer s H vs Q E hr h => ?_)
  · obtain ⟨v, b, rfl, _⟩ := h
    rfl
  · obtain ⟨a, bits, rfl, ⟨dx, fs, h1, h2⟩, hb, q⟩ := h
    refine ⟨_, pss_one (ps_ret (pe_op op_shl pe_int (pe_fld (pv 0) rfl))), ?_⟩
    refine ⟨_, rfl, a, CS, dx, fs, _, rfl, h1, C.cl, C.nB, h2, 1, (bits : Int), rfl, rfl, ⟨by omega, by omega, by decide⟩, ?_⟩
    have e : (1 : Int) * 2 ^ ((bits : Int)).toNat = ((2 ^ bits : Nat) : Int) := by
      rw [Int.one_mul, Int.toNat_natCast]
      simp
    show Q (.int ((1 : Int) * 2 ^ ((bits : Int)).toNat)) H
    rw [e]
    exact q

/-! ### is_saying -/
abbrev sIsS : Stmt := top 19
def saysM (bits : Nat) (a b : V) (m w : List Nat) : Bool := wholeM a 0 (((2 ^ bits : Nat) : Int) - 1) && wholeM b 0 (10 ^ 60 - 1) && decide (m ∈ marks) && worthOk w
def spIsS (C : Addr) : Sp := fun vs H Q _ => ∃ (s t : Addr) (bits : Nat) (a b : V) (m w : List Nat), vs = [.ref s, .ref t] ∧ SetAt C H s bits ∧ bits ≤ 8 ∧ H t = some (.tup [a, b, .str (S m), .str (S w)]) ∧ isNI a ∧ isNI b ∧
  w.length ≤ 1000000 ∧ ∀ H', Same H H' → Q (.bl (saysM bits a b m w)) H'
theorem marks_eq : [("alive" : Str), "suspect", "dead", "left"] = marks.map S := by decide +kernel
theorem inV_marks (m : List Nat) : inV (.str (S m)) [.str "alive", .str "suspect", .str "dead", .str "left"] = decide (m ∈ marks) := by
  have e : ([.str "alive", .str "suspect", .str "dead", .str "left"] : List V) = (marks.map S).map V.str := by rw [← marks_eq]; rfl
  rw [e]
  unfold inV
  rw [List.map_map, List.any_map]
  rw [Bool.eq_iff_iff, List.any_eq_true, decide_eq_true_eq]
  constructor
  · rintro ⟨x, hx, h⟩
    have h2 : (S x == S m) = true := h
    rw [SX.S_beq_eq] at h2
    rw [← of_decide_eq_true h2]
    exact hx
  · intro h
    refine ⟨m, h, ?_⟩
    show (S m == S m) = true
    simp
theorem sc_isS : FnScope ["setting", "saying", "seat", "life", "mark", "worth"] ["setting", "saying"] (defScope sIsS) := ⟨rfl, rfl, rfl, by decide +kernel, rfl, by decide +kernel, by decide +kernel⟩
theorem ok_isS (D : Dk K mg "is_saying" sIsS) (T : Txt P K mg) (C : SetC K CS) (d1 : Df P w K mg base 1 "whole" spWhole) (d2 : Df P w K mg base 2 "life_ok" spLife) (d3 : Df P w K mg base 1 "is_worth" spWorth) : Df P w K mg base 3 "is_saying" (spIsS CS) := by
  obtain ⟨p, g, fd, hp, hF⟩ := C.seats
  have G : FnOk P w K mg base CX0 1 g fd ["self"] (spSeats CS) := ok_seats hF C
  have b : Binds K fd ["self"] [] := hF.binds fun _ _ _ _ _ _ us hl => match us, hl with | [_], _ => rfl
  obtain ⟨aM, hM1, hM2⟩ := T.marks
  refine df_of D sc_isS (fun _ _ _ _ _ _ us hl => match us, hl with | [_, _], _ => rfl) (fun vs H Q E h => ?_) (fun f cdv A outer s H vs Q E hr h => ?_)
  · obtain ⟨v, t, _, _, _, _, _, rfl, _⟩ := h
    rfl
  · obtain ⟨s0, t, bits, a, b', m, wt, rfl, hs, hb8, ht, ha, hb', hw, q⟩ := h
    obtain ⟨dx, fs, e1, e2⟩ := id hs
    refine ⟨_, pss_cons (ps_if (PW.pt (pw_or (pt_not (pt_val (pe_callB call_isi (by rfl) T.isi (by decide +kernel) (pa_cons (pv 1) (pa_cons (pe_bltn (by rfl) T.tuple (by decide +kernel) (v := .ty "tuple") rfl) pa_nil)))))
        (pw_or1 (pt_cmpR op_ne (pe_callB call_len_seq (by rfl) T.len PySem.boot_len (pa_cons (pv 1) pa_nil)) pe_int (nomark _))))) (pss_one (ps_ret pe_bl)) pss_nil)
      (pss_cons (ps_asg (pv 1) (pg_tup rfl (pgs_cons (pg_name (i := 2) sc_isS.nd rfl (.inl rfl)) (pgs_cons (pg_name (i := 3) sc_isS.nd rfl (.inl rfl)) (pgs_cons (pg_name (i := 4) sc_isS.nd rfl (.inl rfl)) (pgs_cons (pg_name (i := 5) sc_isS.nd rfl (.inl rfl)) pgs_nil))))))
      (pss_cons (ps_if (PW.pt (pw_or (pt_not (pt_val (pe_d d1 hr (by decide) (by rfl) (pa_cons (pv 2) (pa_cons pe_int (pa_cons (pe_op op_sub (pe_prop (pv 0) C.cl hp G hr b .nil pass0 rfl) pe_int) pa_nil))))))
        (pw_or1 (pt_not (pt_val (pe_d d2 hr (by decide) (by rfl) (pa_cons (pv 3) pa_nil))))))) (pss_one (ps_ret pe_bl)) pss_nil)
      (pss_one (ps_ret (pe_and (pe_callB call_isi (by rfl) T.isi (by decide +kernel) (pa_cons (pv 4) (pa_cons (pe_bltn (by rfl) T.str (by decide +kernel) (v := .ty "str") rfl) pa_nil)))
        (pe_and (pe_cmpR op_in_seq (pv 4) (pe_glob (v := .ref aM) (by rfl) hM1 rfl) (by rfl)) (pe_one (pe_d d3 hr (by decide) (by rfl) (pa_cons (pv 5) pa_nil))))))))), ?_⟩
    refine ⟨_, rfl, .ref t, .ty "tuple", _, _, true, rfl, .ty _, .base (.tup ht), kit_tt, true, rfl, ?_⟩
    refine ⟨_, rfl, t, _, rfl, .inr (SqT.of ht), rfl, _, rfl, ?_⟩
    refine iteF ?_
    refine ⟨_, rfl, t, _, rfl, SqT.of ht, rfl, ?_⟩
    refine ⟨_, _, rfl, _, _, rfl, _, _, rfl, _, _, rfl, rfl, ?_⟩
    refine ⟨_, rfl, _, rfl, s0, dx, fs, rfl, e1, s0, bits, rfl, hs, hb8, _, _, rfl, rfl, a, 0, _, rfl, ha, _, rfl, ?_⟩
    have hsay : saysM bits a b' m wt = (wholeM a 0 (((2 ^ bits : Nat) : Int) - 1) && wholeM b' 0 (10 ^ 60 - 1) && decide (m ∈ marks) && worthOk wt) := rfl
    cases h1 : wholeM a 0 (((2 ^ bits : Nat) : Int) - 1) with
    | false =>
      refine iteT ?_
      rw [hsay, h1, Bool.false_and, Bool.false_and, Bool.false_and] at q
      exact q _ (Same.refl _)
    | true =>
      refine iteF ?_
      refine ⟨_, rfl, b', rfl, hb', _, rfl, ?_⟩
      cases h2 : wholeM b' 0 (10 ^ 60 - 1) with
      | false =>
        refine iteT ?_
        rw [hsay, h1, h2, Bool.true_and, Bool.false_and, Bool.false_and] at q
        exact q _ (Same.refl _)
      | true =>
        refine iteF ?_
        rw [hsay, h1, h2, Bool.true_and, Bool.true_and] at q
        refine ⟨_, rfl, .str (S m), .ty "str", _, _, true, rfl, .ty _, .base (.str _), kit_ss, true, rfl, ?_⟩
        refine iteT ?_
        refine ⟨_, rfl, aM, _, rfl, .inr (hM2 _), rfl, rfl, _, rfl, ?_⟩
        have hin := inV_marks m
        by_cases h3 : m ∈ marks
        · refine ifT (hin.trans (decide_eq_true h3)) ?_
          rw [decide_eq_true h3, Bool.true_and] at q
          exact ⟨_, rfl, wt, rfl, hw, q⟩
        · refine ifF (hin.trans (decide_eq_false h3)) ?_
          rw [decide_eq_false h3, Bool.false_and] at q
          exact q _ (Same.refl _)
end
end K35


/-! parse_saying -/
namespace K35
open PySem PySem.Spec PyProof.Rows L2
open SX (S)
abbrev sParse : Stmt := top 20
def spParse (CS CI : Addr) : Sp := fun vs H Q E => ∃ (s : Addr) (l : List Nat) (bits : Nat), vs = [.ref s, .str (S l)] ∧ SetAt CS H s bits ∧ bits ≤ 8 ∧ l.length ≤ 1000000 ∧
  (isSay (2 ^ bits) l = true → ∀ v H', Same H H' → Q v H') ∧ (isSay (2 ^ bits) l = false → ∀ d H', Same H H' → E (.ref CI) (some d) H')
theorem whole_num (o : Option Nat) (N : Nat) (hN : 0 < N) : wholeM (ovN o) 0 ((N : Int) - 1) = (match o with | some s => decide (s < N) | none => false) := by
  cases o with
  | none => rfl
  | some s =>
    show (decide ((0 : Int) ≤ (s : Int)) && decide ((s : Int) ≤ (N : Int) - 1)) = decide (s < N)
    rw [decide_eq_true (by omega), Bool.true_and]
    by_cases h : s < N
    · rw [decide_eq_true h, decide_eq_true (by omega)]
    · rw [decide_eq_false h, decide_eq_false (by omega)]
theorem says_eq (bits : Nat) {w0 w1 w2 w3 : List Nat} (h : w3 ≠ []) : sayOk (2 ^ bits) [w0, w1, w2, w3] = saysM bits (ovN (pnum w0 3)) (ovN (pnum w1 60)) w2 (wOf w3) := by
  unfold saysM
  have e60 : ((10 : Int) ^ 60 - 1) = (((10 ^ 60 : Nat) : Int) - 1) := by decide +kernel
  rw [e60, whole_num _ _ (Nat.two_pow_pos bits), whole_num _ (10 ^ 60) (by decide)]
  have h2 : decide (w3 ≠ []) = true := decide_eq_true h
  show (decide (w3 ≠ []) && _ && _ && _ && _) = _
  rw [h2, Bool.true_and] <;> rfl
theorem emp_S : ("" : Str) = S [] := by decide +kernel
theorem blank_S : (" " : Str) = S [32] := by decide +kernel
theorem dash_S : ("-" : Str) = S [45] := by decide +kernel
theorem S_eq {a b : List Nat} : (V.str (S a) = V.str (S b)) ↔ a = b := ⟨fun h => SX.S_inj (V.str.inj h), fun h => by rw [h]⟩
section
variable {P : Program} {w : World} {K : PySem.W.Frag} {mg : Str → Option Value} {base : Heap} {CS CI fI : Addr}
theorem sc_parse : FnScope ["setting", "text", "words", "seat", "life", "worth", "saying"] ["setting", "text"] (defScope sParse) := ⟨rfl, rfl, rfl, by decide +kernel, rfl, by decide +kernel, by decide +kernel⟩
theorem ok_parse {f : Addr} {fd : FuncData} (F : Fun K "parse_saying" "parse_saying" sParse f fd) (T : Txt P K mg) (SC : SetC K CS) (TE : PySem.SayX.SayTxt P K mg CI fI) (d1 : Df P w K mg base 1 "plain_number" spNum) (d2 : Df P w K mg base 3 "is_saying" (spIsS CS)) :
    FnOk P w K mg base (L2.CX P w) 4 f fd ["setting", "text"] (spParse CS CI) := by
  refine F.okX sc_parse (fun vs H Q E h => ?_) (fun cdv A outer s H vs Q E hr h => ?_)
  · obtain ⟨v, t, _, rfl, _⟩ := h
    rfl
  · obtain ⟨s0, l, bits, rfl, hs, hb8, hz, kQ, kE⟩ := h
    refine ⟨_, pss_cons (ps_if (pt_not (pt_val (pe_callB call_isi (by rfl) T.isi (by decide +kernel) (pa_cons (pv 1) (pa_cons (pe_bltn (by rfl) T.str (by decide +kernel) (v := .ty "str") rfl) pa_nil))))) (pss_one (ps_raiseSay rfl TE hr (takes_of rfl rfl rfl rfl) (by exact (pa_cons (pv 1) pa_nil)))) pss_nil)
      (pss_cons (ps_set (i := 2) sc_parse.nd rfl (Or.inl rfl) (pe_split (pv 1) pe_str))
      (pss_cons (ps_if (PW.pt (pw_or (pt_cmpR op_ne (pe_callB call_len_seq (by rfl) T.len PySem.boot_len (pa_cons (pv 2) pa_nil)) pe_int (nomark _)) (pw_or1 (pt_cmpR op_eq (pe_ix ix_list (pv 2) pe_int (fun _ _ => rfl)) pe_str (nomark _))))) (pss_one (ps_raiseSay rfl TE hr (takes_of rfl rfl rfl rfl) (by exact (pa_cons (pv 1) pa_nil)))) pss_nil)
      (pss_cons (ps_set (i := 3) sc_parse.nd rfl (Or.inl rfl) (pe_d d1 hr (by decide) (by rfl) (pa_cons (pe_ix ix_list (pv 2) pe_int (fun _ _ => rfl)) (pa_cons (pe_k (by rfl) T.seatD) pa_nil))))
      (pss_cons (ps_set (i := 4) sc_parse.nd rfl (Or.inl rfl) (pe_d d1 hr (by decide) (by rfl) (pa_cons (pe_ix ix_list (pv 2) pe_int (fun _ _ => rfl)) (pa_cons (pe_k (by rfl) T.lifeD) pa_nil))))
      (pss_cons (ps_set (i := 5) sc_parse.nd rfl (Or.inl rfl) (pe_ix ix_list (pv 2) pe_int (fun _ _ => rfl)))
      (pss_cons (ps_if (pt_cmpR op_eq (pv 5) (pe_k (by rfl) T.emptyW) (nomark _)) (pss_one (ps_set (i := 5) sc_parse.nd rfl (Or.inl rfl) pe_str)) pss_nil)
      (pss_cons (ps_set (i := 6) sc_parse.nd rfl (Or.inl rfl) (pe_tup (pa_cons (pv 3) (pa_cons (pv 4) (pa_cons (pe_ix ix_list (pv 2) pe_int (fun _ _ => rfl)) (pa_cons (pv 5) pa_nil))))))
      (pss_cons (ps_if (pt_not (pt_val (pe_d d2 hr (by decide) (by rfl) (pa_cons (pv 0) (pa_cons (pv 6) pa_nil))))) (pss_one (ps_raiseSay rfl TE hr (takes_of rfl rfl rfl rfl) (by exact (pa_cons (pv 1) pa_nil)))) pss_nil)
      (pss_one (ps_ret (pv 6))))))))))), ?_⟩
    refine ⟨_, rfl, .str (S l), .ty "str", _, _, true, rfl, .ty _, .base (.str _), kit_ss, true, rfl, ?_⟩
    refine iteF ?_
    refine ⟨_, rfl, ⟨_, rfl⟩, S l, " ", rfl, rfl, by decide +kernel, by rw [SX.S_len, sizeLine_eq]; omega, fun p hp => ?_⟩
    rw [blank_S, split_sp (by decide)]
    have hle : ∀ x ∈ sp 32 [] l, x.length ≤ 1000000 := fun x hx => by
      have := sp_le l [] x hx
      simp at this
      omega
    have hsay : isSay (2 ^ bits) l = sayOk (2 ^ bits) (sp 32 [] l) := rfl
    generalize hW : sp 32 [] l = W at hle hsay ⊢
    have s1 : Same H (upd H p (.lst ((W.map S).map V.str))) := same_new hp
    have hp1 : SqL K (upd H p (.lst ((W.map S).map V.str))) p ((W.map S).map V.str) := SqL.of upd_same
    refine ⟨_, rfl, p, _, rfl, .inl hp1, rfl, _, rfl, ?_⟩
    rw [List.length_map, List.length_map]
    by_cases h4 : W.length = 4
    · refine ifF (by rw [h4]; rfl) ?_
      obtain ⟨w0, w1, w2, w3, rfl⟩ : ∃ w0 w1 w2 w3, W = [w0, w1, w2, w3] := by
        match W, h4 with
        | [a, b, c, d], _ => exact ⟨a, b, c, d, rfl⟩
      have i0 : atI ((([w0, w1, w2, w3] : List (List Nat)).map S).map V.str) 0 = some (V.str (S w0)) := atI_nat (j := 0) rfl
      have i1 : atI ((([w0, w1, w2, w3] : List (List Nat)).map S).map V.str) 1 = some (V.str (S w1)) := atI_nat (j := 1) rfl
      have i2 : atI ((([w0, w1, w2, w3] : List (List Nat)).map S).map V.str) 2 = some (V.str (S w2)) := atI_nat (j := 2) rfl
      have i3 : atI ((([w0, w1, w2, w3] : List (List Nat)).map S).map V.str) 3 = some (V.str (S w3)) := atI_nat (j := 3) rfl
      have l0 := hle w0 (by simp)
      have l1 := hle w1 (by simp)
      have l3 := hle w3 (by simp)
      refine ⟨_, rfl, p, _, _, _, rfl, rfl, hp1, i3, rfl, _, rfl, ?_⟩
      by_cases h3 : w3 = []
      · refine ifT (decide_eq_true (by rw [h3, emp_S])) ?_
        refine ⟨_, rfl, _, rfl, fun d hd => kE ?_ d _ (s1.trans (same_new hd))⟩
        rw [hsay, h3]
        rfl
      · refine ifF (decide_eq_false (by rw [emp_S, S_eq]; exact h3)) ?_
        refine ⟨_, rfl, p, _, _, _, rfl, rfl, hp1, i0, w0, 3, rfl, by rw [sizeLine_eq]; omega, by decide, ?_⟩
        refine ⟨_, rfl, p, _, _, _, rfl, rfl, hp1, i1, w1, 60, rfl, by rw [sizeLine_eq]; omega, by decide, ?_⟩
        refine ⟨_, rfl, p, _, _, _, rfl, rfl, hp1, i3, ?_⟩
        have tail : ∀ x, x = wOf w3 → tSeq (tAsg (tTup (tCons (tVar 3) (tCons (tVar 4) (tCons (tOp (rIxL K) (tVar 2) (tC (.int 2))) (tCons (tVar 5) tNil))))) (gName 6)) (tSeq (tIfS (tNot (tB (tCall (spIsS CS) [] E0 (tCons (tVar 0) (tCons (tVar 6) tNil))))) (tRaiseSay CI (fun cls d _ H => E cls d H) (tCons (tVar 1) tNil)) tNext) (tRet (tVar 6)))
            { nx := fun _ H' => Q .non H', rt := Q } [some (.ref s0), some (.str (S l)), some (.ref p), some (ovN (pnum w0 3)), some (ovN (pnum w1 60)), some (.str (S x)), none] (upd H p (.lst ((([w0, w1, w2, w3] : List (List Nat)).map S).map V.str))) := by
          intro x ex
          subst ex
          refine ⟨_, rfl, _, rfl, _, rfl, p, _, _, _, rfl, rfl, hp1, i2, _, rfl, (by show 4 ≤ sizeLine; decide), fun t ht => ?_⟩
          have s2 := s1.trans (same_new (o := .tup [ovN (pnum w0 3), ovN (pnum w1 60), .str (S w2), .str (S (wOf w3))]) ht)
          refine ⟨_, rfl, _, rfl, s0, t, bits, _, _, w2, wOf w3, rfl, hs.keep s2, hb8, upd_same, ovN_ni _, ovN_ni _, ?_, fun H' s3 => ⟨_, rfl, ?_⟩⟩
          · unfold wOf
            split
            · simp
            · exact l3
          · rw [← says_eq bits h3, ← hsay]
            cases hr2 : isSay (2 ^ bits) l with
            | true =>
              refine iteF ?_
              exact ⟨_, rfl, kQ hr2 _ _ (s2.trans s3)⟩
            | false =>
              refine iteT ?_
              exact ⟨_, rfl, _, rfl, fun d hd => kE hr2 d _ ((s2.trans s3).trans (same_new hd))⟩
        refine ⟨_, rfl, rfl, _, rfl, ?_⟩
        by_cases h45 : w3 = [45]
        · refine ifT (decide_eq_true (by rw [h45, dash_S])) ?_
          have e : wOf w3 = [] := if_pos h45
          have := tail [] e.symm
          rw [← emp_S] at this
          exact this
        · refine ifF (decide_eq_false (by rw [dash_S, S_eq]; exact h45)) ?_
          exact tail w3 (if_neg h45).symm
    · refine ifT (by
        have : ¬ ((W.length : Int) = 4) := by omega
        show (!decide (V.int (W.length : Int) = V.int 4)) = true
        rw [decide_eq_false (by intro z; exact this (V.int.inj z))]
        rfl) ?_
      refine ⟨_, rfl, _, rfl, fun d hd => kE ?_ d _ (s1.trans (same_new hd))⟩
      rw [hsay]
      match W, h4 with
      | [], _ => rfl
      | [_], _ => rfl
      | [_, _], _ => rfl
      | [_, _, _], _ => rfl
      | [_, _, _, _], h4 => exact absurd rfl h4
      | _ :: _ :: _ :: _ :: _ :: _, _ => rfl
end
end K35


/-! disk_line, good_lines, _number_behind -/
namespace K35
open PySem PySem.Spec PyProof.Rows L2
open SX (S)
/-! ### disk_line -/
abbrev sDisk : Stmt := top 25
abbrev cods (l : List Nat) : Prop := ∀ c ∈ l, c < 1114112
def spDisk : Sp := fun vs H Q _ => ∃ (l : List Nat), vs = [.str (S l)] ∧ l.length ≤ 1000000 ∧ cods l ∧ ∀ H', Same H H' → Q (.str (S (dline l))) H'
/-- the weights -/
def wts : Nat → List Nat → List Int
  | _, [] => []
  | k, c :: r => ((k + 1) * c : Nat) :: wts (k + 1) r
theorem wts_sum : ∀ (l : List Nat) (k : Nat), (wts k l).sum = ((wsum k l : Nat) : Int)
  | [], _ => rfl
  | c :: r, k => by
    rw [wts, List.sum_cons, wts_sum r, wsum]
    omega
theorem wts_len : ∀ (l : List Nat) (k : Nat), (wts k l).length = l.length
  | [], _ => rfl
  | c :: r, k => by rw [wts, List.length_cons, wts_len r, List.length_cons]
theorem wts_at : ∀ (l : List Nat) (k i : Nat) (c : Nat), l[i]? = some c → (wts k l)[i]? = some (((k + 1 + i) * c : Nat) : Int)
  | [], _, _, _, h => by simp at h
  | d :: r, k, 0, c, h => by
    simp at h
    subst h
    rfl
  | d :: r, k, i + 1, c, h => by
    rw [wts, List.getElem?_cons_succ]
    rw [List.getElem?_cons_succ] at h
    rw [wts_at r (k + 1) i c h, show k + 1 + 1 + i = k + 1 + (i + 1) by omega]
theorem take_at {α : Type} {l : List α} {i : Nat} {x : α} (h : l[i]? = some x) : l.take (i + 1) = l.take i ++ [x] := by
  rw [List.take_add_one, h]
  rfl
section
variable {P : Program} {w : World} {K : PySem.W.Frag} {mg : Str → Option Value} {base : Heap} {CS CI fI : Addr}
theorem sc_disk : FnScope ["body", "weighted", "check", "place", "sign"] ["body"] (defScope sDisk) := ⟨rfl, rfl, rfl, by decide +kernel, rfl, by decide +kernel, by decide +kernel⟩
theorem nl_S : ("\n" : Str) = S [10] := by decide +kernel
theorem ok_disk (D : Dk K mg "disk_line" sDisk) (T : Txt P K mg) : Df P w K mg base 1 "disk_line" spDisk := by
  refine df_of D sc_disk (fun _ _ _ _ _ _ us hl => match us, hl with | [_], _ => rfl) (fun vs H Q E h => ?_) (fun f cdv A outer s H vs Q E hr h => ?_)
  · obtain ⟨v, rfl, _⟩ := h
    rfl
  · obtain ⟨l, rfl, hz, hcod, q⟩ := h
    refine ⟨_, pss_cons (ps_setLc (own := [("place", 3), ("sign", 4)]) (g := gTup K 2 (gCons (gName 3) (gCons (gName 4) gNil))) (tt := tYes) rfl sc_disk.nd (i := 1) rfl rfl rfl (pi_enumS (by rfl) T.enum (pv 0) (by decide) (by decide)) (blkOk_by (own := [("place", 3), ("sign", 4)]) (N := ["body", "weighted", "check", "place", "sign"]) (sc := defScope sDisk) (by decide +kernel))
        (fun s' H' C' cl' fp' => by
          refine pg_tup rfl (pgs_cons (pg_name (i := 3) sc_disk.nd rfl ?_) (pgs_cons (pg_name (i := 4) sc_disk.nd rfl ?_) pgs_nil))
          · exact Or.inl rfl
          · exact Or.inl rfl) (fun _ _ _ _ _ => pts_nil)
        (fun _ _ _ _ _ => pe_op op_mul (pv 3) (pe_callB call_ord (by rfl) T.ord (by decide +kernel) (pa_cons (pv 4) pa_nil))))
      (pss_cons (ps_set (i := 2) sc_disk.nd rfl (Or.inl rfl) (pe_op op_mod (pe_callB (cr_sum rfl) (by rfl) T.sum (by decide +kernel) (pa_cons (pv 1) pa_nil)) (pe_k (by rfl) T.modulus)))
      (pss_one (ps_ret (pe_joined (.cons (pe_fmt (pv 0)) (.cons pe_str (.cons (pe_fmt4 (pv 2) T.dgl) (.cons pe_str .nil)))))))), ?_⟩
    refine ⟨_, rfl, _, rfl, fun Dd hD => ?_⟩
    refine lc_gen (n := l.length) (fun i H' => Same H H' ∧ H' Dd = some (.lst (((wts 0 l).take i).map V.int))) ⟨same_new hD, upd_same⟩ (fun i H' hi _ => ?_) (fun H' _ => ?_) (fun i x H' H'' hi p y => ?_) (fun H' p => ?_)
    · show i < (S l).cps.size
      simpa using hi
    · show l.length = (S l).cps.size
      simp
    · obtain ⟨t, c, ex, ht, hc, e⟩ := y
      subst e ex
      obtain ⟨p1, p2⟩ := p
      have hc' : l[i]? = some c := by simpa using hc
      have hcm : c < 1114112 := hcod c (List.mem_of_getElem? hc')
      refine ⟨_, _, rfl, SqT.of upd_same, rfl, _, _, rfl, _, _, rfl, rfl, rfl, ?_⟩
      refine ⟨_, rfl, _, rfl, ⟨#[c]⟩, rfl, rfl, _, _, rfl, rfl, ?_⟩
      have hi2 : (i : Int) < 1000000 := by omega
      refine ⟨.inl ⟨by omega, by omega⟩, ?_⟩
      have hne : Dd ≠ t := fun z => by rw [z, ht] at p2; cases p2
      refine ⟨_, (upd_ne hne).trans p2, ?_, same_upd (p1.trans (same_new ht)) hD, ?_⟩
      · rw [List.length_map, List.length_take, sizeLine_eq]
        omega
      · rw [upd_same, take_at (wts_at l 0 i c hc'), List.map_append]
        congr 4
    · obtain ⟨p1, p2⟩ := p
      have e0 : (wts 0 l).take l.length = wts 0 l := by
        rw [← wts_len l 0, List.take_length]
      rw [e0] at p2
      refine ⟨_, rfl, Dd, _, rfl, SqL.of p2, _, _, rfl, rfl, (by show (0 : Int) < 9973; decide), ?_⟩
      refine ⟨_, rfl, .inl ⟨S l, rfl, by rw [SX.S_len, sizeLine_eq]; omega, _, rfl, ?_, ?_⟩⟩
      · show (S [] ++ S l).length ≤ _
        rw [SX.S_cat, SX.S_len, sizeLine_eq]
        simp
        omega
      · refine ⟨_, rfl, ?_, _, rfl, chk l, ?_, Nat.lt_trans (chk_lt l) (by decide), _, rfl, ?_, _, rfl, ?_, ?_⟩
        · show ((S [] ++ S l) ++ " ").length ≤ _
          rw [blank_S, SX.S_cat, SX.S_cat, SX.S_len, sizeLine_eq]
          simp
          omega
        · rw [wts_sum]
          rfl
        · show (((S [] ++ S l) ++ " ") ++ S (pad4 (chk l))).length ≤ _
          rw [blank_S, SX.S_cat, SX.S_cat, SX.S_cat, SX.S_len, sizeLine_eq]
          simp [pad4_len]
          omega
        · show ((((S [] ++ S l) ++ " ") ++ S (pad4 (chk l))) ++ "\n").length ≤ _
          rw [blank_S, nl_S, SX.S_cat, SX.S_cat, SX.S_cat, SX.S_cat, SX.S_len, sizeLine_eq]
          simp [pad4_len]
          omega
        · show Q (.str ((((S [] ++ S l) ++ " ") ++ S (pad4 (chk l))) ++ "\n")) _
          have e : ((((S [] ++ S l) ++ " ") ++ S (pad4 (chk l))) ++ "\n") = S (dline l) := by
            rw [blank_S, nl_S, SX.S_cat, SX.S_cat, SX.S_cat, SX.S_cat]
            refine congrArg S ?_
            show (([] ++ l) ++ [32]) ++ pad4 (chk l) ++ [10] = dline l
            unfold dline gline
            simp
          rw [e]
          exact q _ p1

/-! ### good_lines -/
abbrev sGood : Stmt := top 26
/-- the bodies as a new list -/
def newStrs (l : List (List Nat)) (H : Hp) (Q : VK) : Prop := ∀ p H', H p = none → Same H H' → H' p = some (.lst (l.map fun b => V.str (S b))) → Q (.ref p) H'
def spGood : Sp := fun vs H Q _ => ∃ (t : List Nat), vs = [.str (S t)] ∧ t.length ≤ 1000000 ∧ cods t ∧ newStrs (bodiesOf t) H Q
theorem sc_good : FnScope ["text", "bodies", "line", "body"] ["text"] (defScope sGood) := ⟨rfl, rfl, rfl, by decide +kernel, rfl, by decide +kernel, by decide +kernel⟩
theorem cut_last (xs : List V) : cutV xs none (some (-1)) = xs.dropLast := by
  unfold cutV
  show (xs.drop 0).take ((if (-1 : Int) < 0 then ((-1 : Int) + (xs.length : Int)).toNat else min (-1 : Int).toNat xs.length) - 0) = _
  rw [if_pos (by decide), List.drop_zero, List.dropLast_eq_take]
  congr 1
  omega
theorem cut5 (l : List Nat) : cutS (S l) none (some (-5)) = S (l.take (l.length - 5)) := by
  unfold cutS
  show S ((l.drop 0).take ((if (-5 : Int) < 0 then ((-5 : Int) + ((S l).length : Int)).toNat else min (-5 : Int).toNat (S l).length) - 0)) = _
  rw [if_pos (by decide), List.drop_zero, SX.S_len]
  congr 2
  omega
theorem take_good (L : List (List Nat)) (i : Nat) (h : i < L.length) : good (L.drop i) = if dline (L[i].take (L[i].length - 5)) = L[i] ++ [10] then L[i].take (L[i].length - 5) :: good (L.drop (i + 1)) else [] := by
  rw [List.drop_eq_getElem_cons h, good_cons]
theorem sp_cod {s : Nat} {t : List Nat} (h : cods t) : ∀ p ∈ sp s [] t, cods p := by
  have g : ∀ (l acc p : List Nat), p ∈ sp s acc l → ∀ c ∈ p, c ∈ acc ∨ c ∈ l := by
    intro l
    induction l with
    | nil =>
      intro acc p hp c hc
      rw [sp_nil] at hp
      rw [List.mem_singleton.mp hp] at hc
      exact .inl hc
    | cons d l ih =>
      intro acc p hp c hc
      rw [sp_cons] at hp
      by_cases hd : d = s
      · rw [if_pos hd] at hp
        rcases List.mem_cons.mp hp with hp | hp
        · rw [hp] at hc
          exact .inl hc
        · rcases ih [] p hp c hc with z | z
          · simp at z
          · exact .inr (List.mem_cons_of_mem _ z)
      · rw [if_neg hd] at hp
        rcases ih _ p hp c hc with z | z
        · rcases List.mem_append.mp z with z | z
          · exact .inl z
          · rw [List.mem_singleton.mp z]
            exact .inr (List.mem_cons_self ..)
        · exact .inr (List.mem_cons_of_mem _ z)
  intro p hp c hc
  rcases g t [] p hp c hc with z | z
  · simp at z
  · exact h c z
theorem ok_good (D : Dk K mg "good_lines" sGood) (T : Txt P K mg) (d1 : Df P w K mg base 1 "disk_line" spDisk) : Df P w K mg base 2 "good_lines" spGood := by
  refine df_of D sc_good (fun _ _ _ _ _ _ us hl => match us, hl with | [_], _ => rfl) (fun vs H Q E h => ?_) (fun f cdv A outer s H vs Q E hr h => ?_)
  · obtain ⟨v, rfl, _⟩ := h
    rfl
  · obtain ⟨t, rfl, hz, hcod, q⟩ := h
    refine ⟨_, pss_cons (ps_set (i := 1) sc_good.nd rfl (Or.inl rfl) (pe_lst pa_nil))
      (pss_cons (ps_for PassesOwn.never rfl (pi_list (pe_slice sl_list (pe_split (pv 0) pe_str) po_none (po_some (pe_un un_neg pe_int)))) (pg_name (i := 2) sc_good.nd rfl (Or.inl rfl))
        (pss_cons (ps_set (i := 3) sc_good.nd rfl (Or.inl rfl) (pe_slice sl_str (pv 2) po_none (po_some (pe_un un_neg (pe_k (by rfl) T.width)))))
        (pss_cons (ps_if (pt_cmpR op_ne (pe_d d1 hr (by decide) (by rfl) (pa_cons (pv 3) pa_nil)) (pe_op op_add_str (pv 2) pe_str) (nomark _)) (pss_one ps_break) pss_nil)
        (pss_one (ps_expr (pe_bm PySem.F.plainAttrs_list PySem.F.slot_list_append PySem.F.type_list_append mt_append (pv 1) (pa_cons (pv 3) pa_nil)))))))
      (pss_one (ps_ret (pv 1)))), ?_⟩
    refine ⟨by decide, fun p hp => ?_⟩
    have s1 : Same H (upd H p (.lst [])) := same_new hp
    refine ⟨_, rfl, ⟨_, rfl⟩, S t, "\n", rfl, rfl, by decide +kernel, by rw [SX.S_len, sizeLine_eq]; omega, fun a0 ha0 => ?_⟩
    rw [nl_S, split_sp (by decide)]
    refine ⟨_, rfl, _, rfl, a0, _, rfl, SqL.of upd_same, fun a ha => ?_⟩
    rw [cut_last]
    generalize hL : (sp 10 [] t).dropLast = L
    have eL : (((sp 10 [] t).map S).map V.str).dropLast = L.map fun b => V.str (S b) := by
      rw [← hL, ← List.map_dropLast, ← List.map_dropLast, List.map_map]
      rfl
    have hLm : ∀ x ∈ L, x ∈ sp 10 [] t := fun x hx => by
      rw [← hL] at hx
      exact List.dropLast_sublist _ |>.subset hx
    have hle : ∀ x ∈ L, x.length ≤ 1000000 := fun x hx => by
      have := sp_le t [] x (hLm x hx)
      simp at this
      omega
    have hcd : ∀ x ∈ L, cods x := fun x hx => sp_cod hcod x (hLm x hx)
    have hlen : L.length ≤ 1000000 := by
      rw [← hL, List.length_dropLast, sp_len]
      have := List.count_le_length (a := 10) (l := t)
      omega
    have qb : newStrs (good L) H Q := by rw [← hL]; exact q
    rw [eL]
    generalize hH0 : upd (upd (upd H p (.lst [])) a0 (.lst (((sp 10 [] t).map S).map V.str))) a (.lst (L.map fun b => V.str (S b))) = H0
    have hpa0 : p ≠ a0 := fun z => by rw [z, upd_same] at ha0; cases ha0
    have hpa : p ≠ a := fun z => by
      rw [← z, upd_ne hpa0, upd_same] at ha
      cases ha
    have s0 : Same H H0 := by
      rw [← hH0]
      exact (s1.trans (same_new ha0)).trans (same_new ha)
    have hp0 : H0 p = some (.lst []) := by rw [← hH0, upd_ne hpa, upd_ne hpa0, upd_same]
    have hl0 : H0 a = some (.lst (L.map fun b => V.str (S b))) := by rw [← hH0, upd_same]
    refine ⟨a, rfl, ⟨_, SqL.of hl0⟩, ?_⟩
    refine for_list (xs := L.map fun b => V.str (S b)) (fun i σ' H' => ∃ u v acc, σ' = [some (.str (S t)), some (.ref p), u, v] ∧ Same H H' ∧ H' p = some (.lst (acc.map fun b => V.str (S b))) ∧ H' a = some (.lst (L.map fun b => V.str (S b))) ∧ acc ++ good (L.drop i) = good L ∧ acc.length ≤ i)
      ⟨none, none, [], rfl, s0, hp0, hl0, rfl, Nat.le_refl _⟩ (fun i σ' H' _ pv' => ?_) (fun i x σ' H' hx pv' => ?_) (fun σ' H' pv' => ?_)
    · obtain ⟨_, _, _, _, _, _, h4, _⟩ := pv'
      exact SqL.of h4
    · obtain ⟨u, v, acc, rfl, h1, h2, h3, h4, h5⟩ := pv'
      rw [List.getElem?_map] at hx
      cases hLi : L[i]? with
      | none => rw [hLi] at hx; cases hx
      | some b =>
        rw [hLi] at hx
        cases hx
        obtain ⟨hi, hb⟩ := List.getElem?_eq_some_iff.mp hLi
        have hmem : b ∈ L := List.mem_of_getElem? hLi
        have hbl := hle b hmem
        refine ⟨_, rfl, 5, rfl, _, rfl, S b, rfl, by rw [SX.S_len, sizeLine_eq]; omega, ?_⟩
        rw [cut5]
        refine ⟨_, rfl, b.take (b.length - 5), rfl, by rw [List.length_take]; omega, fun c hc => hcd b hmem c (List.mem_of_mem_take hc), fun H2 s2 => ?_⟩
        refine ⟨_, rfl, S b, _, rfl, rfl, by rw [SX.S_len, SX.S_len, sizeLine_eq]; simp; omega, ?_⟩
        have hg := take_good L i hi
        rw [hb] at hg
        refine ⟨rfl, _, rfl, ?_⟩
        by_cases hgd : dline (b.take (b.length - 5)) = b ++ [10]
        · refine ifF (by rw [SX.S_cat, decide_eq_true (S_eq.mpr hgd)]; rfl) ?_
          rw [if_pos hgd] at hg
          refine ⟨_, rfl, .inl ⟨rfl, _, SqL.of (s2 _ _ h2)⟩, _, rfl, p, _, _, rfl, rfl, s2 _ _ h2, ?_, ?_⟩
          · rw [List.length_map, sizeLine_eq]
            omega
          · refine ⟨_, _, acc ++ [b.take (b.length - 5)], rfl, ?_, ?_, ?_, ?_, ?_⟩
            · exact same_upd (h1.trans s2) hp
            · rw [upd_same, List.map_append]
              rfl
            · rw [upd_ne (Ne.symm hpa)]
              exact s2 _ _ h3
            · rw [List.append_assoc, ← h4, hg]
              rfl
            · rw [List.length_append]
              simp
              exact h5
        · refine ifT (by rw [SX.S_cat, decide_eq_false (fun z => hgd (S_eq.mp z))]; rfl) ?_
          rw [if_neg hgd] at hg
          rw [hg, List.append_nil] at h4
          refine ⟨_, rfl, qb p _ hp (h1.trans s2) ?_⟩
          rw [← h4]
          exact s2 _ _ h2
    · obtain ⟨u, v, acc, rfl, h1, h2, h3, h4, h5⟩ := pv'
      rw [List.length_map, List.drop_length] at h4
      have e : good [] = [] := rfl
      rw [e, List.append_nil] at h4
      refine ⟨_, rfl, qb p _ hp h1 ?_⟩
      rw [← h4]
      exact h2

/-! ### _number_behind -/
abbrev sBehind : Stmt := top 27
def spBehind : Sp := fun vs H Q _ => ∃ (wd b : List Nat), vs = [.str (S wd), .str (S b)] ∧ b.length ≤ 1000000 ∧ ∀ H', Same H H' → Q (ovN (numBehind wd b)) H'
theorem tw_all : ∀ (l : List Nat), 32 ∉ l → l.takeWhile (fun c => c != 32) = l ∧ l.dropWhile (fun c => c != 32) = []
  | [], _ => ⟨rfl, rfl⟩
  | c :: l, h => by
    have hc : (c != 32) = true := by
      have : c ≠ 32 := fun z => h (by rw [z]; exact List.mem_cons_self ..)
      simpa using this
    obtain ⟨h1, h2⟩ := tw_all l fun z => h (List.mem_cons_of_mem _ z)
    rw [List.takeWhile_cons, List.dropWhile_cons, hc]
    exact ⟨by show c :: _ = _; rw [h1], h2⟩
theorem part_S (b : List Nat) : ∃ m, Txt.partition (S b) (S [32]) = (S (first b), m, S (behind b)) := by
  by_cases h : 32 ∈ b
  · have e := List.takeWhile_append_dropWhile (p := fun c => c != 32) (l := b)
    have hn : 32 ∉ b.takeWhile (fun c => c != 32) := fun z => by
      have h2 : ∀ (l : List Nat), 32 ∉ l.takeWhile (fun c => c != 32) := by
        intro l
        induction l with
        | nil => simp
        | cons c l ih =>
          rw [List.takeWhile_cons]
          split
          · rename_i hc
            intro z
            rcases List.mem_cons.mp z with z | z
            · rw [← z] at hc
              simp at hc
            · exact ih z
          · simp
      exact h2 b z
    cases hd : b.dropWhile (fun c => c != 32) with
    | nil =>
      rw [hd, List.append_nil] at e
      rw [e] at hn
      exact absurd h hn
    | cons c r =>
      have hc : c = 32 := by
        have := List.head?_dropWhile_not (p := fun c => c != 32) b
        rw [hd] at this
        simpa using this
      subst hc
      rw [hd] at e
      have e2 : behind b = r := by
        unfold behind
        rw [hd]
        rfl
      have e3 := SX.par_head (c := 32) (sep := []) r hn
      have e4 : b.takeWhile (fun c => c != 32) ++ ([32] ++ r) = b := e
      rw [e4] at e3
      refine ⟨S [32], ?_⟩
      rw [SX.partition_some (by simp) e3, e2]
      rfl
  · have hf : first b = b := (tw_all b h).1
    have hb : behind b = [] := by
      unfold behind
      rw [(tw_all b h).2]
      rfl
    refine ⟨S [], ?_⟩
    rw [SX.partition_none (by simp) (SX.par_head_none h), hf, hb]
theorem sc_behind : FnScope ["word", "body", "first", "_", "digits"] ["word", "body"] (defScope sBehind) := ⟨rfl, rfl, rfl, by decide +kernel, rfl, by decide +kernel, by decide +kernel⟩
theorem ok_behind (D : Dk K mg "_number_behind" sBehind) (T : Txt P K mg) (d1 : Df P w K mg base 1 "plain_number" spNum) : Df P w K mg base 2 "_number_behind" spBehind := by
  refine df_of D sc_behind (fun _ _ _ _ _ _ us hl => match us, hl with | [_, _], _ => rfl) (fun vs H Q E h => ?_) (fun f cdv A outer s H vs Q E hr h => ?_)
  · obtain ⟨v, b, rfl, _⟩ := h
    rfl
  · obtain ⟨wd, b, rfl, hz, q⟩ := h
    refine ⟨_, pss_cons (ps_asg (pe_partition (pv 1) pe_str) (pg_tup rfl (pgs_cons (pg_name (i := 2) sc_behind.nd rfl (.inl rfl)) (pgs_cons (pg_name (i := 3) sc_behind.nd rfl (.inl rfl)) (pgs_cons (pg_name (i := 4) sc_behind.nd rfl (.inl rfl)) pgs_nil)))))
      (pss_cons (ps_if (pt_cmpR op_ne (pv 2) (pv 0) (nomark _)) (pss_one (ps_ret pe_non)) pss_nil)
      (pss_one (ps_ret (pe_d d1 hr (by decide) (by rfl) (pa_cons (pv 4) (pa_cons (pe_k (by rfl) T.numD) pa_nil)))))), ?_⟩
    refine ⟨_, rfl, ⟨_, rfl⟩, S b, " ", rfl, rfl, by decide +kernel, by rw [SX.S_len, sizeLine_eq]; omega, fun p hp => ?_⟩
    obtain ⟨m, hm⟩ := part_S b
    rw [blank_S, hm]
    refine ⟨_, _, rfl, SqT.of upd_same, rfl, _, _, rfl, _, _, rfl, _, _, rfl, rfl, ?_⟩
    refine ⟨_, rfl, _, rfl, rfl, _, rfl, ?_⟩
    by_cases hf : first b = wd
    · refine ifF (by rw [decide_eq_true (S_eq.mpr hf)]; rfl) ?_
      refine ⟨_, rfl, behind b, 9, rfl, ?_, by decide, ?_⟩
      · have h1 : (behind b).length ≤ b.length := by
          unfold behind
          rw [List.length_drop]
          have := (List.dropWhile_sublist (fun c => c != 32) (l := b)).length_le
          omega
        rw [sizeLine_eq]
        omega
      · have e : numBehind wd b = pnum (behind b) 9 := if_pos hf
        rw [← e]
        exact q _ (same_new hp)
    · refine ifT (by rw [decide_eq_false (fun z => hf (S_eq.mp z))]; rfl) ?_
      have e : numBehind wd b = none := if_neg hf
      rw [e] at q
      exact q _ (same_new hp)
end
end K35


/-! _sayings_from, area_parts, mend_area, mended -/
namespace K35
open PySem PySem.Spec PyProof.Rows L2
open SX (S)
/-! ### plain -/
theorem good_le : ∀ (L : List (List Nat)) (n : Nat), (∀ l ∈ L, l.length ≤ n) → ∀ b ∈ good L, b.length ≤ n
  | [], _, _, b, hb => by simp [good] at hb
  | l :: L, n, h, b, hb => by
    rw [good_cons] at hb
    split at hb
    · rcases List.mem_cons.mp hb with hb | hb
      · rw [hb, List.length_take]
        have := h l (List.mem_cons_self ..)
        omega
      · exact good_le L n (fun x hx => h x (List.mem_cons_of_mem _ hx)) b hb
    · simp at hb
theorem good_len : ∀ (L : List (List Nat)), (good L).length ≤ L.length
  | [] => Nat.le_refl _
  | l :: L => by
    rw [good_cons]
    split
    · have := good_len L
      simp
      omega
    · simp
theorem bodies_le (t : List Nat) : ∀ b ∈ bodiesOf t, b.length ≤ t.length := by
  refine good_le _ _ fun l hl => ?_
  have := sp_le t [] l (List.dropLast_sublist _ |>.subset hl)
  simpa using this
theorem bodies_len (t : List Nat) : (bodiesOf t).length ≤ t.length := by
  refine Nat.le_trans (good_len _) ?_
  rw [List.length_dropLast, sp_len]
  have := List.count_le_length (a := 10) (l := t)
  omega
theorem run_le (n : Nat) : ∀ L, run n L ≤ L.length
  | [] => Nat.le_refl _
  | b :: L => by
    rw [run]
    split
    · have := run_le n L
      simp
      omega
    · omega
theorem sp_sum {s : Nat} : ∀ (l acc : List Nat), ((sp s acc l).map List.length).sum ≤ acc.length + l.length
  | [], acc => by rw [sp_nil]; simp
  | c :: l, acc => by
    rw [sp_cons]
    split
    · have := sp_sum l (s := s) []
      simp at this ⊢
      omega
    · have := sp_sum l (s := s) (acc ++ [c])
      simp at this ⊢
      omega
theorem take_sum (k : Nat) : ∀ (L : List (List Nat)), ((L.take k).map List.length).sum ≤ (L.map List.length).sum := by
  induction k with
  | zero => intro L; simp
  | succ k ih =>
    intro L
    cases L with
    | nil => simp
    | cons a L =>
      have := ih L
      simp at this ⊢
      omega
theorem joinL_jn (s : Nat) : ∀ L, TL.joinL [s] L = jn s L
  | [] => rfl
  | [_] => rfl
  | p :: q :: r => by
    show p ++ ([s] ++ TL.joinL [s] (q :: r)) = p ++ s :: jn s (q :: r)
    rw [joinL_jn s (q :: r)]
    rfl
theorem cut_from (xs : List V) (k : Nat) : cutV xs (some (k : Int)) none = xs.drop k := by
  unfold cutV
  rw [HT.sIx_nat, HT.sIx_none]
  by_cases h : k ≤ xs.length
  · rw [Nat.min_eq_left h]
    exact List.take_of_length_le (by rw [List.length_drop] <;> omega)
  · rw [Nat.min_eq_right (by omega), List.drop_length, List.drop_eq_nil_of_le (by omega)]
    simp
theorem cut_to (xs : List V) (k : Nat) : cutV xs none (some (k : Int)) = xs.take k := by
  unfold cutV
  rw [HT.sIx_nat, HT.sIx_none, List.drop_zero, Nat.sub_zero]
  by_cases h : k ≤ xs.length
  · rw [Nat.min_eq_left h]
  · rw [Nat.min_eq_right (by omega), List.take_length, List.take_of_length_le (by omega)]

/-! ### _sayings_from -/
abbrev sFrom : Stmt := top 28
abbrev vs_ (l : List (List Nat)) : List V := l.map fun b => V.str (S b)
def spFrom (CS : Addr) : Sp := fun vs H Q _ => ∃ (s a : Addr) (place bits : Nat) (bs : List (List Nat)), vs = [.ref s, .ref a, .int (place : Nat)] ∧ SetAt CS H s bits ∧ bits ≤ 8 ∧ H a = some (.lst (vs_ bs)) ∧ (∀ b ∈ bs, b.length ≤ 1000000) ∧ bs.length ≤ 1000000 ∧
  ∀ p H' xs, H p = none → Same H H' → H' p = some (.lst xs) → xs.length = run (2 ^ bits) (bs.drop place) → Q (.ref p) H'
section
variable {P : Program} {w : World} {K : PySem.W.Frag} {mg : Str → Option Value} {base : Heap} {CS CI fI : Addr}
theorem sc_from : FnScope ["setting", "bodies", "place", "rows", "body"] ["setting", "bodies", "place"] (defScope sFrom) := ⟨rfl, rfl, rfl, by decide +kernel, rfl, by decide +kernel, by decide +kernel⟩
theorem run_drop (n : Nat) (L : List (List Nat)) (i : Nat) (h : i < L.length) : run n (L.drop i) = if isSay n L[i] = true then run n (L.drop (i + 1)) + 1 else 0 := by
  rw [List.drop_eq_getElem_cons h, run]
theorem ok_from (D : Dk K mg "_sayings_from" sFrom) (D2 : Dk K mg "parse_saying" sParse) (T : Txt P K mg) (SC : SetC K CS) (TE : PySem.SayX.SayTxt P K mg CI fI) (d1 : Df P w K mg base 1 "plain_number" spNum) (d2 : Df P w K mg base 3 "is_saying" (spIsS CS)) :
    Df P w K mg base 5 "_sayings_from" (spFrom CS) := by
  obtain ⟨fP, fdP, FP, hmP⟩ := D2.ex
  have GP : FnOk P w K mg base (L2.CX P w) 4 fP fdP ["setting", "text"] (spParse CS CI) := ok_parse FP T SC TE d1 d2
  have bP : Binds K fdP ["setting", "text"] [] := FP.binds fun _ _ _ _ _ _ us hl => match us, hl with | [_, _], _ => rfl
  refine df_of D sc_from (fun _ _ _ _ _ _ us hl => match us, hl with | [_, _, _], _ => rfl) (fun vs H Q E h => ?_) (fun f cdv A outer s H vs Q E hr h => ?_)
  · obtain ⟨v, b, _, _, _, rfl, _⟩ := h
    rfl
  · obtain ⟨s0, a, place, bits, bs, rfl, hs, hb8, ha, hbl, hbn, q⟩ := h
    refine ⟨_, pss_cons (ps_set (i := 3) sc_from.nd rfl (Or.inl rfl) (pe_lst pa_nil))
      (pss_cons (ps_for PassesOwn.never rfl (pi_list (pe_slice sl_list (pv 1) (po_some (pv 2)) po_none)) (pg_name (i := 4) sc_from.nd rfl (Or.inl rfl))
        (pss_one (ps_try_only (tb := fun W => tDrop (tBM K "list" rAppend (tVar 3) (tCons (tCallS (spParse CS CI) (WE W) (tCons (tVar 0) (tCons (tVar 4) tNil))) tNil))) (ts := fun _ _ _ => tBreak) (Wout := fun _ _ _ _ => False) rfl rfl ⟨rfl, by decide, Or.inl TE.gC⟩ takes0
          (fun W pn xe tk _ => pss_one (ps_expr (pe_bm PySem.F.plainAttrs_list PySem.F.slot_list_append PySem.F.type_list_append mt_append (pv 3)
            (pa_cons (pe_callS GP hr rfl hmP FP.kp bP (fun σ => passAt tk σ) (by exact (pa_cons (pv 0) (pa_cons (pv 4) pa_nil)))) pa_nil))))
          (fun _ _ _ _ _ _ _ => pss_one ps_break))))
      (pss_one (ps_ret (pv 3)))), ?_⟩
    refine ⟨by decide, fun p hp => ?_⟩
    refine ⟨_, rfl, _, rfl, _, rfl, a, _, rfl, SqL.of (same_new hp _ _ ha), fun l hl => ?_⟩
    rw [cut_from]
    have eL : (vs_ bs).drop place = vs_ (bs.drop place) := by
      unfold vs_
      rw [List.map_drop]
    rw [eL]
    generalize hLL : bs.drop place = L at q ⊢
    have hLb : ∀ b ∈ L, b.length ≤ 1000000 := fun b hb => hbl b (by rw [← hLL] at hb; exact List.mem_of_mem_drop hb)
    have hLn : L.length ≤ 1000000 := by
      rw [← hLL, List.length_drop]
      omega
    have hpl : p ≠ l := fun z => by rw [z, upd_same] at hl; cases hl
    refine ⟨l, rfl, ⟨_, SqL.of upd_same⟩, ?_⟩
    refine for_list (g := gName 4) (tb := fun D σ H => tDrop (tBM K "list" rAppend (tVar 3) (tCons (tCallS (spParse CS CI) (WE (wOnly K (.ref CI) (fun _ _ _ => tBreak) (fun _ _ _ _ => False) D)) (tCons (tVar 0) (tCons (tVar 4) tNil))) tNil)) D σ H) (xs := vs_ L) (fun i σ' H' => ∃ u acc, σ' = [some (.ref s0), some (.ref a), some (.int (place : Nat)), some (.ref p), u] ∧ Same H H' ∧ H' p = some (.lst acc) ∧ H' l = some (.lst (vs_ L)) ∧ acc.length = i ∧ run (2 ^ bits) L = i + run (2 ^ bits) (L.drop i))
      ⟨none, [], rfl, (same_new hp).trans (same_new hl), (upd_ne hpl).trans upd_same, upd_same, rfl, by simp⟩ (fun i σ' H' _ pv' => ?_) (fun i x σ' H' hx pv' => ?_) (fun σ' H' pv' => ?_)
    · obtain ⟨_, _, _, _, _, h4, _⟩ := pv'
      exact SqL.of h4
    · obtain ⟨u, acc, rfl, h1, h2, h3, h4, h5⟩ := pv'
      rw [List.getElem?_map] at hx
      cases hLi : L[i]? with
      | none => rw [hLi] at hx; cases hx
      | some b =>
        rw [hLi] at hx
        cases hx
        obtain ⟨hi, hb⟩ := List.getElem?_eq_some_iff.mp hLi
        have hrd := run_drop (2 ^ bits) L i hi
        rw [hb] at hrd
        refine ⟨_, rfl, .inl ⟨rfl, _, SqL.of h2⟩, _, rfl, _, rfl, s0, b, bits, rfl, hs.keep h1, hb8, hLb b (List.mem_of_getElem? hLi), fun hsay v H2 s2 => ?_, fun hsay d H2 s2 => ?_⟩
        · rw [if_pos hsay] at hrd
          refine ⟨p, acc, v, rfl, rfl, s2 _ _ h2, by rw [sizeLine_eq]; omega, _, _, rfl, same_upd (h1.trans s2) hp, upd_same, ?_, ?_, by omega⟩
          · rw [upd_ne (Ne.symm hpl)]
            exact s2 _ _ h3
          · rw [List.length_append, h4]
            rfl
        · rw [if_neg (by rw [hsay]; exact Bool.false_ne_true)] at hrd
          refine ⟨true, TE.te, (fun _ a' ha' => ?_), (fun z => nomatch z)⟩
          refine ⟨_, rfl, q p _ acc hp (h1.trans s2) (s2 _ _ h2) (by omega)⟩
    · obtain ⟨u, acc, rfl, h1, h2, h3, h4, h5⟩ := pv'
      unfold vs_ at h4 h5
      rw [List.length_map] at h4 h5
      rw [List.drop_length] at h5
      refine ⟨_, rfl, q p _ acc hp h1 h2 ?_⟩
      rw [h4, h5]
      rfl

/-! ### area_parts -/
abbrev sParts : Stmt := top 29
def spParts (CS : Addr) : Sp := fun vs H Q _ => ∃ (s : Addr) (bits : Nat) (t : List Nat), vs = [.ref s, .str (S t)] ∧ SetAt CS H s bits ∧ bits ≤ 8 ∧ t.length ≤ 1000000 ∧ cods t ∧
  (parts (2 ^ bits) (bodiesOf t) = none → ∀ H', Same H H' → Q .non H') ∧
  (∀ m k, parts (2 ^ bits) (bodiesOf t) = some (m, k) → ∀ T g p1 p2 xs ys H', Same H H' → H' T = some (.tup [g, .ref p1, .ref p2]) → H' p1 = some (.lst xs) → xs.length = m → H' p2 = some (.lst ys) → ys.length = k → Q (.ref T) H')
theorem sc_parts : FnScope ["setting", "text", "bodies", "generation", "snapshot", "end"] ["setting", "text"] (defScope sParts) := ⟨rfl, rfl, rfl, by decide +kernel, rfl, by decide +kernel, by decide +kernel⟩
theorem area_S : ("area" : Str) = S areaW := by decide +kernel
theorem end_S : ("end" : Str) = S endW := by decide +kernel
theorem vs_len (l : List (List Nat)) : (vs_ l).length = l.length := List.length_map _
theorem vs_at {l : List (List Nat)} {i : Nat} {b : List Nat} (h : l[i]? = some b) : atI (vs_ l) (i : Int) = some (.str (S b)) := atI_nat (by unfold vs_; rw [List.getElem?_map, h]; rfl)
theorem ovN_scal (o : Option Nat) (n : Int) : scal (ovN o) (.int n) = true := by cases o <;> rfl
theorem ovN_eq (o : Option Nat) (n : Nat) : (ovN o = .int (n : Int)) ↔ o = some n := by
  cases o with
  | none =>
    constructor
    · intro h; cases h
    · intro h; cases h
  | some m =>
    constructor
    · intro h
      have := V.int.inj h
      congr 1
      omega
    · intro h
      cases h
      rfl
theorem ovN_none (o : Option Nat) : (ovN o = .non) ↔ o = none := by
  cases o with
  | none =>
    constructor
    · intro h; rfl
    · intro h; rfl
  | some m =>
    constructor
    · intro h; cases h
    · intro h; cases h
theorem ok_parts (D : Dk K mg "area_parts" sParts) (T : Txt P K mg) (d1 : Df P w K mg base 2 "good_lines" spGood) (d2 : Df P w K mg base 2 "_number_behind" spBehind) (d3 : Df P w K mg base 5 "_sayings_from" (spFrom CS)) :
    Df P w K mg base 6 "area_parts" (spParts CS) := by
  refine df_of D sc_parts (fun _ _ _ _ _ _ us hl => match us, hl with | [_, _], _ => rfl) (fun vs H Q E h => ?_) (fun f cdv A outer s H vs Q E hr h => ?_)
  · obtain ⟨v, b, _, rfl, _⟩ := h
    rfl
  · obtain ⟨s0, bits, t, rfl, hs, hb8, htl, hcod, qn, qs⟩ := h
    refine ⟨_, pss_cons (ps_set (i := 2) sc_parts.nd rfl (Or.inl rfl) (pe_d d1 hr (by decide) (by rfl) (pa_cons (pv 1) pa_nil)))
      (pss_cons (ps_if (pt_not (pt_truth (pv 2) (by intro _; rfl))) (pss_one (ps_ret pe_non)) pss_nil)
      (pss_cons (ps_set (i := 3) sc_parts.nd rfl (Or.inl rfl) (pe_d d2 hr (by decide) (by rfl) (pa_cons pe_str (pa_cons (pe_ix ix_list (pv 2) pe_int (fun _ _ => rfl)) pa_nil))))
      (pss_cons (ps_if (pt_cmpR op_isN (pv 3) pe_non (nomark _)) (pss_one (ps_ret pe_non)) pss_nil)
      (pss_cons (ps_set (i := 4) sc_parts.nd rfl (Or.inl rfl) (pe_d d3 hr (by decide) (by rfl) (pa_cons (pv 0) (pa_cons (pv 2) (pa_cons pe_int pa_nil)))))
      (pss_cons (ps_set (i := 5) sc_parts.nd rfl (Or.inl rfl) (pe_op op_add pe_int (pe_callB call_len_seq (by rfl) T.len PySem.boot_len (pa_cons (pv 4) pa_nil))))
      (pss_cons (ps_if (PW.pt (pw_or (pt_cmpR op_eq (pv 5) (pe_callB call_len_seq (by rfl) T.len PySem.boot_len (pa_cons (pv 2) pa_nil)) (nomark _))
          (pw_or1 (pt_cmpR op_ne (pe_d d2 hr (by decide) (by rfl) (pa_cons pe_str (pa_cons (pe_ix ix_list (pv 2) (pv 5) (fun _ _ => rfl)) pa_nil))) (pe_callB call_len_seq (by rfl) T.len PySem.boot_len (pa_cons (pv 4) pa_nil)) (nomark _))))) (pss_one (ps_ret pe_non)) pss_nil)
      (pss_one (ps_ret (pe_tup (pa_cons (pv 3) (pa_cons (pv 4) (pa_cons (pe_d d3 hr (by decide) (by rfl) (pa_cons (pv 0) (pa_cons (pv 2) (pa_cons (pe_op op_add (pv 5) pe_int) pa_nil)))) pa_nil)))))))))))), ?_⟩
    have hbl : ∀ b ∈ bodiesOf t, b.length ≤ 1000000 := fun b hb => Nat.le_trans (bodies_le t b hb) htl
    have hbn : (bodiesOf t).length ≤ 1000000 := Nat.le_trans (bodies_len t) htl
    refine ⟨_, rfl, t, rfl, htl, hcod, fun p H1 hp s1 hp1 => ?_⟩
    generalize bodiesOf t = bs at hbl hbn qn qs hp1
    have hp1 : H1 p = some (.lst (vs_ bs)) := hp1
    refine ⟨_, rfl, _, .inl ⟨_, SqL.of hp1, rfl⟩, ?_⟩
    cases bs with
    | nil =>
      refine iteT ?_
      exact qn rfl _ s1
    | cons b r =>
      refine iteF ?_
      rw [area_S]
      refine ⟨_, rfl, p, _, _, _, rfl, rfl, SqL.of hp1, vs_at (i := 0) rfl, areaW, b, rfl, hbl b (by simp), fun H2 s2 => ?_⟩
      refine ⟨_, rfl, rfl, _, rfl, ?_⟩
      by_cases hg : numBehind areaW b = none
      · refine ifT (decide_eq_true ((ovN_none _).mpr hg)) ?_
        refine qn ?_ _ (s1.trans s2)
        rw [parts_cons, if_pos hg]
      · refine ifF (decide_eq_false fun z => hg ((ovN_none _).mp z)) ?_
        have hp2 := s2 _ _ hp1
        refine ⟨_, rfl, _, rfl, s0, p, 1, bits, b :: r, rfl, hs.keep (s1.trans s2), hb8, hp2, hbl, hbn, fun p1 H3 xs hn1 s3 hx3 hxl => ?_⟩
        have hxl : xs.length = run (2 ^ bits) r := hxl
        refine ⟨_, rfl, p1, xs, rfl, .inl (SqL.of hx3), _, _, rfl, rfl, ?_⟩
        have hp3 := s3 _ _ hp2
        refine ⟨_, rfl, _, rfl, p, _, rfl, .inl (SqL.of hp3), rfl, _, rfl, ?_⟩
        have hrl := run_le (2 ^ bits) r
        have hdl : (r.drop (run (2 ^ bits) r)).length = r.length - run (2 ^ bits) r := List.length_drop
        have hS : Same H H3 := (s1.trans s2).trans s3
        have hpc := parts_cons (2 ^ bits) b r
        rw [if_neg hg] at hpc
        cases hd : r.drop (run (2 ^ bits) r) with
        | nil =>
          rw [hd] at hdl
          simp at hdl
          refine ifT (decide_eq_true (congrArg V.int ?_)) ?_
          · rw [vs_len, List.length_cons]
            omega
          · refine qn ?_ _ hS
            rw [hpc, hd]
        | cons e lg =>
          rw [hd] at hdl
          simp at hdl
          refine ifF (decide_eq_false fun z => ?_) ?_
          · have := V.int.inj z
            rw [vs_len, List.length_cons] at this
            omega
          · have hei : (b :: r)[1 + run (2 ^ bits) r]? = some e := by
              rw [Nat.add_comm, List.getElem?_cons_succ]
              have h0 : (r.drop (run (2 ^ bits) r))[0]? = some e := by rw [hd]; rfl
              rw [List.getElem?_drop] at h0
              exact h0
            have hem : e ∈ b :: r := List.mem_of_getElem? hei
            rw [end_S]
            refine ⟨_, rfl, _, rfl, p, _, _, _, rfl, rfl, SqL.of hp3, ?_, endW, e, rfl, hbl e hem, fun H4 s4 => ?_⟩
            · have := vs_at hei
              rw [hxl]
              exact this
            · have hx4 := s4 _ _ hx3
              refine ⟨_, rfl, p1, xs, rfl, .inl (SqL.of hx4), ovN_scal _ _, _, rfl, ?_⟩
              rw [hd] at hpc
              have hpc2 : parts (2 ^ bits) (b :: r) = if numBehind endW e = some (run (2 ^ bits) r) then some (run (2 ^ bits) r, run (2 ^ bits) lg) else none := hpc
              by_cases he : numBehind endW e = some (run (2 ^ bits) r)
              · rw [if_pos he] at hpc2
                refine ifF (by rw [decide_eq_true ((ovN_eq _ _).mpr (by rw [he, hxl]))]; rfl) ?_
                refine ⟨_, rfl, _, rfl, _, rfl, _, rfl, _, rfl, _, _, rfl, rfl, ?_⟩
                refine ⟨s0, p, 1 + run (2 ^ bits) r + 1, bits, b :: r, ?_, hs.keep (hS.trans s4), hb8, s4 _ _ hp3, hbl, hbn, fun p2 H5 ys hn2 s5 hy5 hyl => ?_⟩
                · rw [hxl]
                  rfl
                · refine ⟨by show 3 ≤ sizeLine; decide, fun T5 hT5 => ?_⟩
                  have hyl2 : ys.length = run (2 ^ bits) lg := by
                    rw [hyl]
                    congr 1
                    show (b :: r).drop (1 + run (2 ^ bits) r + 1) = lg
                    rw [show 1 + run (2 ^ bits) r + 1 = (run (2 ^ bits) r + 1) + 1 by omega, List.drop_succ_cons, ← List.drop_drop, hd]
                    rfl
                  have s6 : Same H5 (upd H5 T5 (.tup [ovN (numBehind areaW b), .ref p1, .ref p2])) := same_new hT5
                  exact qs _ _ hpc2 T5 _ p1 p2 xs ys _ (((hS.trans s4).trans s5).trans s6) upd_same (s6 _ _ (s5 _ _ hx4)) hxl (s6 _ _ hy5) hyl2
              · rw [if_neg he] at hpc2
                refine ifT (by rw [decide_eq_false (fun z => he (by have := (ovN_eq _ _).mp z; rw [this, hxl]))]; rfl) ?_
                exact qn hpc2 _ (hS.trans s4)
end
end K35


/-! mend_area, mended -/
namespace K35
open PySem PySem.Spec PyProof.Rows L2
open SX (S)
abbrev sMend : Stmt := top 30
def spMend (CS : Addr) : Sp := fun vs H Q _ => ∃ (s : Addr) (bits : Nat) (t : List Nat), vs = [.ref s, .str (S t)] ∧ SetAt CS H s bits ∧ bits ≤ 8 ∧ t.length ≤ 1000000 ∧ cods t ∧ ∀ H', Same H H' → Q (.str (S (mend (2 ^ bits) t))) H'
section
variable {P : Program} {w : World} {K : PySem.W.Frag} {mg : Str → Option Value} {base : Heap} {CS CI fI : Addr}
theorem sc_mend : FnScope ["setting", "text", "parts", "_", "snapshot", "log", "count"] ["setting", "text"] (defScope sMend) := ⟨rfl, rfl, rfl, by decide +kernel, rfl, by decide +kernel, by decide +kernel⟩
theorem parts_bound {n m k : Nat} {bs : List (List Nat)} (h : parts n bs = some (m, k)) : 2 + m + k ≤ bs.length := by
  cases bs with
  | nil => cases h
  | cons b r =>
    rw [parts_cons] at h
    split at h
    · cases h
    · cases hd : r.drop (run n r) with
      | nil => rw [hd] at h; cases h
      | cons e lg =>
        rw [hd] at h
        have h2 : (if numBehind endW e = some (run n r) then some (run n r, run n lg) else none) = some (m, k) := h
        split at h2
        · cases h2
          have h3 : (r.drop (run n r)).length = r.length - run n r := List.length_drop
          rw [hd] at h3
          simp at h3
          have := run_le n lg
          rw [List.length_cons]
          omega
        · cases h2
theorem jn_len : ∀ (L : List (List Nat)), (jn 10 L).length ≤ (L.map List.length).sum + L.length
  | [] => Nat.le_refl _
  | [p] => by show p.length ≤ _; simp
  | p :: q :: r => by
    have := jn_len (q :: r)
    show (p ++ 10 :: jn 10 (q :: r)).length ≤ _
    simp at this ⊢
    omega
theorem ok_mend (D : Dk K mg "mend_area" sMend) (T : Txt P K mg) (d1 : Df P w K mg base 6 "area_parts" (spParts CS)) : Df P w K mg base 7 "mend_area" (spMend CS) := by
  refine df_of D sc_mend (fun _ _ _ _ _ _ us hl => match us, hl with | [_, _], _ => rfl) (fun vs H Q E h => ?_) (fun f cdv A outer s H vs Q E hr h => ?_)
  · obtain ⟨v, b, _, rfl, _⟩ := h
    rfl
  · obtain ⟨s0, bits, t, rfl, hs, hb8, htl, hcod, q⟩ := h
    refine ⟨_, pss_cons (ps_set (i := 2) sc_mend.nd rfl (Or.inl rfl) (pe_d d1 hr (by decide) (by rfl) (pa_cons (pv 0) (pa_cons (pv 1) pa_nil))))
      (pss_cons (ps_if (pt_cmpR op_isN (pv 2) pe_non (nomark _)) (pss_one (ps_ret pe_str)) pss_nil)
      (pss_cons (ps_asg (pv 2) (pg_tup rfl (pgs_cons (pg_name (i := 3) sc_mend.nd rfl (.inl rfl)) (pgs_cons (pg_name (i := 4) sc_mend.nd rfl (.inl rfl)) (pgs_cons (pg_name (i := 5) sc_mend.nd rfl (.inl rfl)) pgs_nil)))))
      (pss_cons (ps_set (i := 6) sc_mend.nd rfl (Or.inl rfl) (pe_op op_add (pe_op op_add pe_int (pe_callB call_len_seq (by rfl) T.len PySem.boot_len (pa_cons (pv 4) pa_nil))) (pe_callB call_len_seq (by rfl) T.len PySem.boot_len (pa_cons (pv 5) pa_nil))))
      (pss_one (ps_ret (pe_op op_add_str (pe_join pe_str (pe_slice sl_list (pe_split (pv 1) pe_str) po_none (po_some (pv 6)))) pe_str)))))), ?_⟩
    refine ⟨_, rfl, _, rfl, s0, bits, t, rfl, hs, hb8, htl, hcod, fun hn H1 s1 => ?_, fun m k hsm T1 g p1 p2 xs ys H1 s1 hT hx hxl hy hyl => ?_⟩
    · refine ⟨_, rfl, rfl, _, rfl, ?_⟩
      refine iteT ?_
      have e : mend (2 ^ bits) t = [] := by
        unfold mend
        rw [hn]
      rw [e, ← emp_S] at q
      exact q _ s1
    · refine ⟨_, rfl, rfl, _, rfl, ?_⟩
      refine iteF ?_
      refine ⟨_, rfl, T1, _, rfl, SqT.of hT, rfl, _, _, rfl, _, _, rfl, _, _, rfl, rfl, ?_⟩
      refine ⟨_, rfl, p1, xs, rfl, .inl (SqL.of hx), _, _, rfl, rfl, _, rfl, p2, ys, rfl, .inl (SqL.of hy), _, _, rfl, rfl, ?_⟩
      refine ⟨⟨_, rfl⟩, _, rfl, ⟨_, rfl⟩, S t, "\n", rfl, rfl, by decide +kernel, by rw [SX.S_len, sizeLine_eq]; omega, fun a ha => ?_⟩
      rw [nl_S, split_sp (by decide)]
      have hb := parts_bound hsm
      have hbn := bodies_len t
      have eI : ((2 : Int) + (xs.length : Int) + (ys.length : Int)) = ((2 + m + k : Nat) : Int) := by
        rw [hxl, hyl]
        omega
      refine ⟨_, rfl, _, rfl, a, _, rfl, SqL.of upd_same, fun l hl => ?_⟩
      rw [eI, cut_to]
      have eL : (((sp 10 [] t).map S).map V.str).take (2 + m + k) = (((sp 10 [] t).take (2 + m + k)).map S).map V.str := by
        rw [List.map_take, List.map_take]
      rw [eL]
      have hsum : ((((sp 10 [] t).take (2 + m + k)).map S).map (·.length)).sum ≤ t.length := by
        have e : (((sp 10 [] t).take (2 + m + k)).map S).map (·.length) = ((sp 10 [] t).take (2 + m + k)).map List.length := by
          rw [List.map_map]
          refine List.map_congr_left fun x _ => ?_
          exact SX.S_len x
        rw [e]
        have h1 := take_sum (2 + m + k) (sp 10 [] t)
        have h2 := sp_sum (s := 10) t []
        simp only [List.length_nil, Nat.zero_add] at h2
        omega
      have hmend : mend (2 ^ bits) t = jn 10 ((sp 10 [] t).take (2 + m + k)) ++ [10] := by
        unfold mend
        rw [hsm]
      refine ⟨S [10], l, ((sp 10 [] t).take (2 + m + k)).map S, rfl, rfl, .inl (SqL.of upd_same), ?_, ?_⟩
      · have hlt : (((sp 10 [] t).take (2 + m + k)).map S).length ≤ 2 + m + k := by
          rw [List.length_map, List.length_take]
          omega
        have e1 : (S [10]).length = 1 := rfl
        rw [e1]
        omega
      · rw [SX.join_S, joinL_jn]
        have hjl : (jn 10 ((sp 10 [] t).take (2 + m + k))).length ≤ 3000000 := by
          have h3 := jn_len ((sp 10 [] t).take (2 + m + k))
          have h1 := take_sum (2 + m + k) (sp 10 [] t)
          have h2 := sp_sum (s := 10) t []
          simp only [List.length_nil, Nat.zero_add] at h2
          rw [List.length_take] at h3
          omega
        refine ⟨_, _, rfl, rfl, ?_, ?_⟩
        · rw [SX.S_len, SX.S_len, sizeLine_eq]
          simp
          omega
        · rw [SX.S_cat, ← hmend]
          exact q _ ((s1.trans (same_new ha)).trans (same_new hl))

/-! ### mended -/
abbrev sMended : Stmt := top 31
def spMended (CS : Addr) : Sp := fun vs H Q _ => ∃ (s a : Addr) (bits : Nat) (t1 t2 : List Nat), vs = [.ref s, .ref a] ∧ SetAt CS H s bits ∧ bits ≤ 8 ∧ H a = some (.tup [.str (S t1), .str (S t2)]) ∧ t1.length ≤ 1000000 ∧ cods t1 ∧ t2.length ≤ 1000000 ∧ cods t2 ∧
  ∀ R H', Same H H' → H' R = some (.tup [.str (S (mend (2 ^ bits) t1)), .str (S (mend (2 ^ bits) t2))]) → Q (.ref R) H'
theorem sc_mended : FnScope ["setting", "areas", "first", "second"] ["setting", "areas"] (defScope sMended) := ⟨rfl, rfl, rfl, by decide +kernel, rfl, by decide +kernel, by decide +kernel⟩
theorem ok_mended (D : Dk K mg "mended" sMended) (T : Txt P K mg) (d1 : Df P w K mg base 7 "mend_area" (spMend CS)) : Df P w K mg base 8 "mended" (spMended CS) := by
  refine df_of D sc_mended (fun _ _ _ _ _ _ us hl => match us, hl with | [_, _], _ => rfl) (fun vs H Q E h => ?_) (fun f cdv A outer s H vs Q E hr h => ?_)
  · obtain ⟨v, b, _, _, _, rfl, _⟩ := h
    rfl
  · obtain ⟨s0, a, bits, t1, t2, rfl, hs, hb8, ha, h1, c1, h2, c2, q⟩ := h
    refine ⟨_, pss_cons (ps_asg (pv 1) (pg_tup rfl (pgs_cons (pg_name (i := 2) sc_mended.nd rfl (.inl rfl)) (pgs_cons (pg_name (i := 3) sc_mended.nd rfl (.inl rfl)) pgs_nil))))
      (pss_one (ps_ret (pe_tup (pa_cons (pe_d d1 hr (by decide) (by rfl) (pa_cons (pv 0) (pa_cons (pv 2) pa_nil))) (pa_cons (pe_d d1 hr (by decide) (by rfl) (pa_cons (pv 0) (pa_cons (pv 3) pa_nil))) pa_nil))))), ?_⟩
    refine ⟨_, rfl, a, _, rfl, SqT.of ha, rfl, _, _, rfl, _, _, rfl, rfl, ?_⟩
    refine ⟨_, rfl, _, rfl, s0, bits, t1, rfl, hs, hb8, h1, c1, fun H1 s1 => ?_⟩
    refine ⟨_, rfl, _, rfl, s0, bits, t2, rfl, hs.keep s1, hb8, h2, c2, fun H2 s2 => ?_⟩
    refine ⟨by show 2 ≤ sizeLine; decide, fun p hp => ?_⟩
    exact q p _ ((s1.trans s2).trans (same_new hp)) upd_same
end
end K35


/-! the law's purse and draws -/
namespace K35
open PySem PySem.Spec PyProof.Rows L2
open SX (S)
/-! ### heaps -/
/-- all but p is kept -/
def But (p : Addr) (H H' : Hp) : Prop := ∀ b u, b ≠ p → H b = some u → H' b = some u
theorem But.refl (p : Addr) (H : Hp) : But p H H := fun _ _ _ e => e
theorem But.trans {p : Addr} {H H' H'' : Hp} (h : But p H H') (g : But p H' H'') : But p H H'' := fun b u hb e => g b u hb (h b u hb e)
theorem Same.but {p : Addr} {H H' : Hp} (h : Same H H') : But p H H' := fun b u _ e => h b u e
theorem But.set {p : Addr} {H : Hp} {o : HO} : But p H (upd H p o) := fun b u hb e => by rw [upd_ne hb]; exact e
theorem But.upd {p D : Addr} {H H' : Hp} {o : HO} (s : But p H H') (hD : H D = none) : But p H (upd H' D o) := fun b u hb e => by
  rw [upd_ne (ne_of_none e hD)]
  exact s b u hb e
/-- the purse at p -/
def Purse (H : Hp) (p c : Addr) : Prop := ∃ (cells : List Nat) (i pot seed turn : Nat), H p = some (.lst [.ref c, .int i, .int pot, .int seed, .int turn]) ∧ H c = some (.lst (cells.map fun (n : Nat) => V.int n)) ∧ cells.length ≤ 63
theorem Purse.ne {H : Hp} {p c b : Addr} (h : Purse H p c) (hb : H b = none) : b ≠ p := fun z => by
  obtain ⟨cells, i, pot, seed, turn, h1, _⟩ := h
  rw [← z, hb] at h1
  cases h1
theorem Purse.nec {H : Hp} {p c b : Addr} (h : Purse H p c) (hb : H b = none) : b ≠ c := fun z => by
  obtain ⟨cells, i, pot, seed, turn, _, h1, _⟩ := h
  rw [← z, hb] at h1
  cases h1
theorem Purse.keep {H H' : Hp} {p c : Addr} (h : Purse H p c) (s : Same H H') : Purse H' p c := by
  obtain ⟨cells, i, pot, seed, turn, h1, h2, h3⟩ := h
  exact ⟨cells, i, pot, seed, turn, s _ _ h1, s _ _ h2, h3⟩
theorem Purse.upd {H : Hp} {p c D : Addr} {o : HO} (h : Purse H p c) (h1 : D ≠ p) (h2 : D ≠ c) : Purse (upd H D o) p c := by
  obtain ⟨cells, i, pot, seed, turn, q1, q2, q3⟩ := h
  exact ⟨cells, i, pot, seed, turn, (upd_ne (Ne.symm h1)).trans q1, (upd_ne (Ne.symm h2)).trans q2, q3⟩
theorem purse_set {H : Hp} {p c : Addr} {cells : List Nat} {i pot seed turn : Nat} {x : HO} (hx : H p = some (.lst [.ref c, .int i, .int pot, .int seed, .int turn])) (hc : H c = some (.lst (cells.map fun (n : Nat) => V.int n))) : c ≠ p := fun z => by
  rw [z, hx] at hc
  cases cells with
  | nil => cases hc
  | cons a l =>
    injection hc with h1
    injection h1 with h2
    injection h2 with h3
    cases h3
/-! ### _law_purse -/
abbrev sPurse : Stmt := top 33
def spPurse (K : PySem.W.Frag) : Sp := fun vs H Q _ => ∃ (a : Addr) (ns : List Int), vs = [.ref a] ∧ SqL K H a (ns.map V.int) ∧ ∀ p c H', H p = none → Same H H' → Purse H' p c → Q (.ref p) H'
section
variable {P : Program} {w : World} {K : PySem.W.Frag} {mg : Str → Option Value} {base : Heap} {CS CI fI : Addr}
theorem sc_purse : FnScope ["_law_script", "_law_cell", "_law_cells", "_law_seed"] ["_law_script"] (defScope sPurse) := ⟨rfl, rfl, rfl, by decide +kernel, rfl, by decide +kernel, by decide +kernel⟩
theorem ifE {c : Bool} {A B : Prop} (h1 : A) (h2 : B) : if c = true then A else B := by
  split
  · exact h1
  · exact h2
theorem abs_eq (i : Int) : (if i < 0 then -i else i) = ((i.natAbs : Nat) : Int) := by
  split <;> omega
theorem ok_purse (D : Dk K mg "_law_purse" sPurse) (T : Txt P K mg) : Df P w K mg base 1 "_law_purse" (spPurse K) := by
  refine df_of D sc_purse (fun _ _ _ _ _ _ us hl => match us, hl with | [_], _ => rfl) (fun vs H Q E h => ?_) (fun f cdv A outer s H vs Q E hr h => ?_)
  · obtain ⟨v, b, rfl, _⟩ := h
    rfl
  · obtain ⟨a, ns, rfl, ha, q⟩ := h
    refine ⟨_, pss_cons (ps_setLc (own := [("_law_cell", 1)]) (g := gName 1) (tt := tYes) rfl sc_purse.nd (i := 2) rfl rfl rfl (pi_list (pe_slice sl_list (pv 0) po_none (po_some pe_int))) (blkOk_by (own := [("_law_cell", 1)]) (N := ["_law_script", "_law_cell", "_law_cells", "_law_seed"]) (sc := defScope sPurse) (by decide +kernel))
        (fun _ _ _ _ _ => pg_name (i := 1) sc_purse.nd rfl (Or.inl rfl)) (fun _ _ _ _ _ => pts_nil)
        (fun _ _ _ _ _ => pe_callB call_abs (by rfl) T.abs (by decide +kernel) (pa_cons (pe_callTy call_int1 (by rfl) T.int (by decide +kernel) (pa_cons (pv 1) pa_nil)) pa_nil)))
      (pss_cons (ps_set (i := 3) sc_purse.nd rfl (Or.inl rfl) (pe_callB call_len_seq (by rfl) T.len PySem.boot_len (pa_cons (pv 2) pa_nil)))
      (pss_cons (ps_for PassesOwn.never rfl (pi_list (pv 2)) (pg_name (i := 1) sc_purse.nd rfl (Or.inl rfl))
        (pss_one (ps_set (i := 3) sc_purse.nd rfl (Or.inl rfl) (pe_op op_mod (pe_callTy call_int1 (by rfl) T.int (by decide +kernel) (pa_cons (pe_op op_add (pe_op op_mul (pv 3) pe_int) (pv 1)) pa_nil)) pe_int))))
      (pss_one (ps_ret (pe_lst (pa_cons (pv 2) (pa_cons pe_int (pa_cons pe_int (pa_cons (pv 3) (pa_cons pe_int pa_nil)))))))))), ?_⟩
    refine ⟨_, rfl, 63, rfl, a, _, rfl, ha, fun l hl => ?_⟩
    have e1 : cutV (ns.map V.int) none (some 63) = (ns.take 63).map V.int := by
      rw [show (63 : Int) = ((63 : Nat) : Int) from rfl, cut_to, List.map_take]
    rw [e1]
    generalize hms : ns.take 63 = ms
    have hml : ms.length ≤ 63 := by rw [← hms, List.length_take]; omega
    have s1 : Same H (upd H l (.lst (ms.map V.int))) := same_new hl
    refine ⟨l, rfl, ⟨_, SqL.of upd_same⟩, fun Dd hD => ?_⟩
    have hlD : l ≠ Dd := fun z => by rw [z, upd_same] at hD; cases hD
    refine lc_gen (n := ms.length) (fun i H' => Same H H' ∧ H' l = some (.lst (ms.map V.int)) ∧ H' Dd = some (.lst ((ms.take i).map fun x => V.int (x.natAbs : Nat)))) ⟨s1.trans (same_new hD), (upd_ne hlD).trans upd_same, upd_same⟩ (fun i H' hi p => ?_) (fun H' p => ?_) (fun i x H' H'' hi p y => ?_) (fun H' p => ?_)
    · exact ⟨_, V.int ms[i], SqL.of p.2.1, by rw [List.getElem?_map, List.getElem?_eq_getElem hi]; rfl⟩
    · exact ⟨_, SqL.of p.2.1, by rw [List.length_map]; exact Nat.le_refl _⟩
    · obtain ⟨e, y⟩ := y
      subst e
      obtain ⟨p1, p2, p3⟩ := p
      have hx := y _ (SqL.of p2)
      rw [List.getElem?_map, List.getElem?_eq_getElem hi] at hx
      cases hx
      refine ⟨rfl, _, rfl, .inl ⟨_, rfl, _, rfl, _, p3, ?_, ?_, ?_, ?_⟩⟩
      · rw [List.length_map, List.length_take, sizeLine_eq]
        omega
      · exact same_upd p1 (by
          cases e : H Dd with
          | none => rfl
          | some u =>
            have := s1 _ _ e
            rw [hD] at this
            cases this)
      · rw [upd_ne hlD]
        exact p2
      · rw [upd_same, take_at (List.getElem?_eq_getElem hi), List.map_append, abs_eq]
        rfl
    · obtain ⟨p1, p2, p3⟩ := p
      rw [List.take_length] at p3
      have e2 : (ms.map fun x => V.int (x.natAbs : Nat)) = (ms.map Int.natAbs).map fun (n : Nat) => V.int n := by rw [List.map_map]; rfl
      rw [e2] at p3
      generalize hcs : ms.map Int.natAbs = cs at p3
      have hcl : cs.length ≤ 63 := by rw [← hcs, List.length_map]; exact hml
      refine ⟨_, rfl, Dd, _, rfl, .inl (SqL.of p3), _, rfl, Dd, rfl, ⟨_, SqL.of p3⟩, ?_⟩
      refine for_list (g := gName 1) (xs := cs.map fun (n : Nat) => V.int n) (fun i σ' H2 => ∃ u, ∃ n : Nat, σ' = [some (.ref a), u, some (.ref Dd), some (.int n)] ∧ H2 = H') ⟨none, _, rfl, rfl⟩ (fun i σ' H2 _ pv' => ?_) (fun i x σ' H2 hx pv' => ?_) (fun σ' H2 pv' => ?_)
      · obtain ⟨_, _, _, rfl⟩ := pv'
        exact SqL.of p3
      · obtain ⟨u, n, rfl, rfl⟩ := pv'
        rw [List.getElem?_map] at hx
        cases hci : cs[i]? with
        | none => rw [hci] at hx; cases hx
        | some c =>
          rw [hci] at hx
          cases hx
          refine ⟨_, rfl, _, _, rfl, rfl, .inr ⟨by decide, by decide⟩, _, rfl, _, _, rfl, rfl, .inl ⟨_, rfl, _, _, rfl, rfl, (by show (0 : Int) < 2147483629; decide), ?_⟩⟩
          refine ⟨some (.int c), (n * 48271 + c) % 2147483629, ?_, rfl⟩
          have e : (((n : Int) * 48271 + (c : Int)) % 2147483629) = (((n * 48271 + c) % 2147483629 : Nat) : Int) := by omega
          show [some (V.ref a), some (V.int c), some (V.ref Dd), some (V.int (((n : Int) * 48271 + (c : Int)) % 2147483629))] = _
          rw [e]
      · obtain ⟨u, n, rfl, rfl⟩ := pv'
        refine ⟨_, rfl, _, rfl, by show 5 ≤ sizeLine; decide, fun p hp => ?_⟩
        have hpn : H p = none := by
          cases e : H p with
          | none => rfl
          | some u =>
            have := p1 _ _ e
            rw [hp] at this
            cases this
        refine q p Dd _ hpn (p1.trans (same_new hp)) ⟨cs, 0, 0, n, 0, upd_same, ?_, hcl⟩
        exact same_new hp _ _ p3

/-! ### _law_mixed -/
abbrev sMixed : Stmt := top 34
def spMixed : Sp := fun vs H Q _ => ∃ (c t : Nat), vs = [.int c, .int t] ∧ ∀ n : Nat, n < 2147483563 → Q (.int n) H
def mix1 (c t : Nat) : Int := ((c : Int) * 69621 + (t : Int) * 48271 + 12345) % 2147483629
def mix2 (c t : Nat) : Int := (mix1 c t * mix1 c t + (t : Int) * 39373 + (c : Int)) % 2147483587
def mix3 (c t : Nat) : Int := (mix2 c t * mix2 c t + mix1 c t + (t : Int) * 40692) % 2147483563
theorem sc_mixed : FnScope ["_law_cell", "_law_turn", "_law_first", "_law_second"] ["_law_cell", "_law_turn"] (defScope sMixed) := ⟨rfl, rfl, rfl, by decide +kernel, rfl, by decide +kernel, by decide +kernel⟩
theorem ok_mixed (D : Dk K mg "_law_mixed" sMixed) (T : Txt P K mg) : Df P w K mg base 1 "_law_mixed" spMixed := by
  refine df_of D sc_mixed (fun _ _ _ _ _ _ us hl => match us, hl with | [_, _], _ => rfl) (fun vs H Q E h => ?_) (fun f cdv A outer s H vs Q E hr h => ?_)
  · obtain ⟨v, b, rfl, _⟩ := h
    rfl
  · obtain ⟨c, t, rfl, q⟩ := h
    refine ⟨_, pss_cons (ps_set (i := 2) sc_mixed.nd rfl (Or.inl rfl) (pe_op op_mod (pe_callTy call_int1 (by rfl) T.int (by decide +kernel) (pa_cons (pe_op op_add (pe_op op_add (pe_op op_mul (pv 0) pe_int) (pe_op op_mul (pv 1) pe_int)) pe_int) pa_nil)) pe_int))
      (pss_cons (ps_set (i := 3) sc_mixed.nd rfl (Or.inl rfl) (pe_op op_mod (pe_callTy call_int1 (by rfl) T.int (by decide +kernel) (pa_cons (pe_op op_add (pe_op op_add (pe_op op_mul (pv 2) (pv 2)) (pe_op op_mul (pv 1) pe_int)) (pv 0)) pa_nil)) pe_int))
      (pss_one (ps_ret (pe_op op_mod (pe_callTy call_int1 (by rfl) T.int (by decide +kernel) (pa_cons (pe_op op_add (pe_op op_add (pe_op op_mul (pv 3) (pv 3)) (pv 2)) (pe_op op_mul (pv 1) pe_int)) pa_nil)) pe_int)))), ?_⟩
    have a1 : (0 : Int) ≤ mix1 c t := Int.emod_nonneg _ (by decide)
    have a2 : mix1 c t < 2147483629 := Int.emod_lt_of_pos _ (by decide)
    refine ⟨_, rfl, _, _, rfl, rfl, .inr ⟨by decide, by decide⟩, _, rfl, _, _, rfl, rfl, .inr ⟨by decide, by decide⟩, _, _, rfl, rfl, _, _, rfl, rfl, .inl ⟨_, rfl, _, _, rfl, rfl, (by show (0 : Int) < 2147483629; decide), ?_⟩⟩
    have b1 : (0 : Int) ≤ mix2 c t := Int.emod_nonneg _ (by decide)
    have b2 : mix2 c t < 2147483587 := Int.emod_lt_of_pos _ (by decide)
    have c1 : (0 : Int) ≤ mix3 c t := Int.emod_nonneg _ (by decide)
    have c2 : mix3 c t < 2147483563 := Int.emod_lt_of_pos _ (by decide)
    refine ⟨_, rfl, _, rfl, _, _, rfl, rfl, .inl ⟨Int.lt_of_lt_of_le (by decide) a1, Int.lt_trans a2 (by decide)⟩, _, rfl, _, _, rfl, rfl, .inr ⟨by decide, by decide⟩, _, _, rfl, rfl, _, rfl, _, _, rfl, rfl, .inl ⟨_, rfl, _, _, rfl, rfl, (by show (0 : Int) < 2147483587; decide), ?_⟩⟩
    refine ⟨_, rfl, _, rfl, _, _, rfl, rfl, .inl ⟨Int.lt_of_lt_of_le (by decide) b1, Int.lt_trans b2 (by decide)⟩, _, rfl, _, _, rfl, rfl, _, rfl, _, _, rfl, rfl, .inr ⟨by decide, by decide⟩, _, _, rfl, rfl, .inl ⟨_, rfl, _, _, rfl, rfl, (by show (0 : Int) < 2147483563; decide), ?_⟩⟩
    have := q (mix3 c t).toNat (by omega)
    rw [Int.toNat_of_nonneg c1] at this
    exact this

/-! ### _law_draw -/
abbrev sDraw : Stmt := top 35
def spDraw : Sp := fun vs H Q _ => ∃ (p c : Addr) (n : Int), vs = [.ref p, .int n] ∧ n ≤ 10 ^ 61 ∧ Purse H p c ∧ ∀ (d : Nat) (H' : Hp), ((d : Int) < n ∨ d = 0) → But p H H' → Purse H' p c → Q (.int d) H'
theorem sc_draw : FnScope ["_law_purse_here", "_law_size", "_law_cell", "_law_digit"] ["_law_purse_here", "_law_size"] (defScope sDraw) := ⟨rfl, rfl, rfl, by decide +kernel, rfl, by decide +kernel, by decide +kernel⟩
abbrev p5 (c : Addr) (i pot seed turn : Nat) : List V := [.ref c, .int i, .int pot, .int seed, .int turn]
theorem ok_draw (D : Dk K mg "_law_draw" sDraw) (T : Txt P K mg) (d1 : Df P w K mg base 1 "_law_mixed" spMixed) : Df P w K mg base 2 "_law_draw" spDraw := by
  refine df_of D sc_draw (fun _ _ _ _ _ _ us hl => match us, hl with | [_, _], _ => rfl) (fun vs H Q E h => ?_) (fun f cdv A outer s H vs Q E hr h => ?_)
  · obtain ⟨v, b, _, rfl, _⟩ := h
    rfl
  · obtain ⟨p, c, n, rfl, hn60, hP, q⟩ := h
    obtain ⟨cells, i, pot, seed, turn, hp, hc, hcl⟩ := id hP
    refine ⟨_, pss_cons (ps_if (pt_cmpR op_lt (pv 1) pe_int (nomark _)) (pss_one (ps_ret pe_int)) pss_nil)
      (pss_cons (ps_asg (pe_op op_add (pe_ix ix_list (pv 0) pe_int (fun _ _ => rfl)) pe_int) (pg_sub (pv 0) pe_int set_list))
      (Evl.pss_cut (ps_if (PW.pt (pw_and (pt_cmpR op_lt (pe_ix ix_list (pv 0) pe_int (fun _ _ => rfl)) pe_int (nomark _)) (pw_and1 (pt_cmpR op_lt (pe_ix ix_list (pv 0) pe_int (fun _ _ => rfl)) (pe_callB call_len_seq (by rfl) T.len PySem.boot_len (pa_cons (pe_ix ix_list (pv 0) pe_int (fun _ _ => rfl)) pa_nil)) (nomark _)))))
        (pss_cons (ps_set (i := 2) sc_draw.nd rfl (Or.inl rfl) (pe_ix ix_list (pe_ix ix_list (pv 0) pe_int (fun _ _ => rfl)) (pe_ix ix_list (pv 0) pe_int (fun _ _ => rfl)) (fun _ _ => rfl)))
        (pss_cons (ps_asg (pe_op op_add (pe_ix ix_list (pv 0) pe_int (fun _ _ => rfl)) pe_int) (pg_sub (pv 0) pe_int set_list))
        (pss_cons (ps_if (pt_cmpR op_lt (pv 2) (pe_op op_pow pe_int pe_int) (nomark _)) (pss_one (ps_ret (pe_op op_mod (pe_callTy call_int1 (by rfl) T.int (by decide +kernel) (pa_cons (pe_op op_fdiv (pe_d d1 hr (by decide) (by rfl) (pa_cons (pv 2) (pa_cons (pe_ix ix_list (pv 0) pe_int (fun _ _ => rfl)) pa_nil))) pe_int) pa_nil)) (pv 1)))) pss_nil)
        (pss_one (ps_asg (pv 2) (pg_sub (pv 0) pe_int set_list)))))) pss_nil)
      (pss_cons (ps_if (pt_cmpR op_gt (pe_ix ix_list (pv 0) pe_int (fun _ _ => rfl)) pe_int (nomark _))
        (pss_cons (ps_set (i := 3) sc_draw.nd rfl (Or.inl rfl) (pe_op op_mod (pe_callTy call_int1 (by rfl) T.int (by decide +kernel) (pa_cons (pe_ix ix_list (pv 0) pe_int (fun _ _ => rfl)) pa_nil)) (pv 1)))
        (pss_cons (ps_asg (pe_op op_fdivW (pe_ix ix_list (pv 0) pe_int (fun _ _ => rfl)) (pv 1)) (pg_sub (pv 0) pe_int set_list))
        (pss_one (ps_ret (pv 3))))) pss_nil)
      (pss_one (ps_ret (pe_op op_mod (pe_callTy call_int1 (by rfl) T.int (by decide +kernel) (pa_cons (pe_op op_fdiv (pe_d d1 hr (by decide) (by rfl) (pa_cons (pe_ix ix_list (pv 0) pe_int (fun _ _ => rfl)) (pa_cons (pe_ix ix_list (pv 0) pe_int (fun _ _ => rfl)) pa_nil))) pe_int) pa_nil)) (pv 1))))))), ?_⟩
    refine ⟨_, rfl, _, _, rfl, rfl, _, rfl, ?_⟩
    by_cases h2 : n < 2
    · refine ifT (decide_eq_true h2) ?_
      exact q 0 _ (.inr rfl) (But.refl _ _) hP
    · refine ifF (decide_eq_false h2) ?_
      have hcp : c ≠ p := purse_set (x := .lst []) hp hc
      have hn0 : 0 < n := by omega
      have res : ∀ (x : Int) (H' : Hp) (Q' : V → Hp → Prop), 0 ≤ x → (∀ d : Nat, (d : Int) < n → Q' (.int d) H') → Q' (.int (x % n)) H' := by
        intro x H' Q' hx h
        have e1 : 0 ≤ x % n := Int.emod_nonneg _ (by omega)
        have e2 : x % n < n := Int.emod_lt_of_pos _ hn0
        have := h (x % n).toNat (by omega)
        rw [Int.toNat_of_nonneg e1] at this
        exact this
      have hp1 : (upd H p (.lst (p5 c i pot seed (turn + 1)))) p = some (.lst (p5 c i pot seed (turn + 1))) := upd_same
      have hc1 : (upd H p (.lst (p5 c i pot seed (turn + 1)))) c = some (.lst (cells.map fun (n : Nat) => V.int n)) := (upd_ne hcp).trans hc
      refine ⟨_, rfl, p, p5 c i pot seed turn, 4, .int turn, rfl, rfl, SqL.of hp, rfl, _, _, rfl, rfl, _, rfl, p, _, 4, 4, rfl, rfl, hp, rfl, ?_⟩
      show Evl.tCut _ _ _ _ (upd H p (.lst (p5 c i pot seed (turn + 1))))
      generalize hH1 : upd H p (.lst (p5 c i pot seed (turn + 1))) = H1 at hp1 hc1 ⊢
      have s1 : But p H H1 := by rw [← hH1]; exact But.set
      refine ⟨fun σ' H' => ∃ (u : Option V) (i' pot' : Nat), σ' = [some (.ref p), some (.int n), u, none] ∧ H' p = some (.lst (p5 c i' pot' seed (turn + 1))) ∧ H' c = some (.lst (cells.map fun (n : Nat) => V.int n)) ∧ But p H H', ?_, ?_⟩
      · refine ⟨_, rfl, p, p5 c i pot seed (turn + 1), 2, .int pot, rfl, rfl, SqL.of hp1, rfl, _, _, rfl, rfl, _, rfl, ?_⟩
        by_cases hpot : (pot : Int) < 2
        · refine ifT (decide_eq_true hpot) ?_
          refine ⟨_, rfl, p, p5 c i pot seed (turn + 1), 1, .int i, rfl, rfl, SqL.of hp1, rfl, _, rfl, p, p5 c i pot seed (turn + 1), 0, .ref c, rfl, rfl, SqL.of hp1, rfl, c, _, rfl, .inl (SqL.of hc1), _, _, rfl, rfl, _, rfl, ?_⟩
          rw [List.length_map]
          by_cases hi : (i : Int) < (cells.length : Int)
          · refine ifT (decide_eq_true hi) ?_
            have hat : atI (cells.map fun (n : Nat) => V.int n) (i : Int) = some (.int (cells[i]'(by omega) : Nat)) := atI_nat (by rw [List.getElem?_map, List.getElem?_eq_getElem (by omega)]; rfl)
            generalize cells[i]'(by omega) = cell at hat
            have hp2 : (upd H1 p (.lst (p5 c (i + 1) pot seed (turn + 1)))) p = some (.lst (p5 c (i + 1) pot seed (turn + 1))) := upd_same
            have hc2 : (upd H1 p (.lst (p5 c (i + 1) pot seed (turn + 1)))) c = some (.lst (cells.map fun (n : Nat) => V.int n)) := (upd_ne hcp).trans hc1
            refine ⟨_, rfl, p, p5 c i pot seed (turn + 1), 0, .ref c, rfl, rfl, SqL.of hp1, rfl, _, rfl, p, p5 c i pot seed (turn + 1), 1, .int i, rfl, rfl, SqL.of hp1, rfl, c, _, _, _, rfl, rfl, SqL.of hc1, hat, ?_⟩
            refine ⟨_, rfl, p, p5 c i pot seed (turn + 1), 1, .int i, rfl, rfl, SqL.of hp1, rfl, _, _, rfl, rfl, _, rfl, p, _, 1, 1, rfl, rfl, hp1, rfl, ?_⟩
            show tSeq _ _ _ _ (upd H1 p (.lst (p5 c (i + 1) pot seed (turn + 1))))
            have s2 : But p H (upd H1 p (.lst (p5 c (i + 1) pot seed (turn + 1)))) := s1.trans But.set
            generalize upd H1 p (.lst (p5 c (i + 1) pot seed (turn + 1))) = H2 at hp2 hc2 s2 ⊢
            refine ⟨_, rfl, _, _, rfl, rfl, ⟨by decide, by decide, by decide⟩, _, _, rfl, rfl, _, rfl, ?_⟩
            generalize (10 : Int) ^ (18 : Int).toNat = k18
            refine ifE ?_ ?_
            · refine ⟨_, rfl, _, rfl, p, p5 c (i + 1) pot seed (turn + 1), 4, .int (turn + 1 : Nat), rfl, rfl, SqL.of hp2, rfl, cell, turn + 1, rfl, fun m hm => ⟨_, _, rfl, rfl, ⟨by decide, by decide⟩, .inl ⟨_, rfl, _, rfl, _, _, rfl, rfl, hn0, ?_⟩⟩⟩
              refine res _ _ _ (Int.ediv_nonneg (by omega) (by decide)) fun d hd => ?_
              exact q d _ (.inl hd) s2 ⟨cells, _, _, _, _, hp2, hc2, hcl⟩
            · refine ⟨_, rfl, _, rfl, p, _, 2, 2, rfl, rfl, hp2, rfl, ?_⟩
              exact ⟨_, i + 1, cell, rfl, upd_same, (upd_ne hcp).trans hc2, s2.trans But.set⟩
          · refine ifF (decide_eq_false hi) ?_
            exact ⟨_, i, pot, rfl, hp1, hc1, s1⟩
        · refine ifF (decide_eq_false hpot) ?_
          exact ⟨_, i, pot, rfl, hp1, hc1, s1⟩
      · rintro σ' H' ⟨u, i', pot', rfl, hp', hc', s'⟩
        refine ⟨_, rfl, p, p5 c i' pot' seed (turn + 1), 2, .int pot', rfl, rfl, SqL.of hp', rfl, _, _, rfl, rfl, _, rfl, ?_⟩
        by_cases hpot : (1 : Int) < (pot' : Int)
        · refine ifT (decide_eq_true hpot) ?_
          refine ⟨_, rfl, p, p5 c i' pot' seed (turn + 1), 2, .int pot', rfl, rfl, SqL.of hp', rfl, .inl ⟨_, rfl, _, rfl, _, _, rfl, rfl, hn0, ?_⟩⟩
          have hm0 : (0 : Int) ≤ (pot' : Int) % n := Int.emod_nonneg _ (by omega)
          have hm1 : (pot' : Int) % n < n := Int.emod_lt_of_pos _ hn0
          have hq0 : (0 : Int) ≤ (pot' : Int) / n := Int.ediv_nonneg (by omega) (by omega)
          have eq1 : (pot' : Int) / n = (((pot' : Int) / n).toNat : Nat) := (Int.toNat_of_nonneg hq0).symm
          have em1 : (pot' : Int) % n = (((pot' : Int) % n).toNat : Nat) := (Int.toNat_of_nonneg hm0).symm
          have hlog : n.natAbs.log2 < 9000 := by
            refine PySem.Flt.log2_lt_of (by decide) (Nat.lt_of_le_of_lt (m := 10 ^ 61) (by omega) ?_)
            refine Nat.lt_of_lt_of_le (m := 2 ^ 300) (by decide) (Nat.pow_le_pow_right (by decide) (by decide))
          refine ⟨_, rfl, p, p5 c i' pot' seed (turn + 1), 2, .int pot', rfl, rfl, SqL.of hp', rfl, _, rfl, _, _, rfl, rfl, ⟨hn0, hlog⟩, _, rfl, p, _, 2, 2, rfl, rfl, hp', rfl, ?_⟩
          refine ⟨_, rfl, ?_⟩
          show Q (.int ((pot' : Int) % n)) (upd H' p (.lst [.ref c, .int i', .int ((pot' : Int) / n), .int seed, .int (turn + 1 : Nat)]))
          rw [em1, eq1]
          refine q _ _ (.inl (by omega)) (s'.trans But.set) ⟨cells, i', _, seed, turn + 1, upd_same, (upd_ne hcp).trans hc', hcl⟩
        · refine ifF (decide_eq_false hpot) ?_
          refine ⟨_, rfl, p, p5 c i' pot' seed (turn + 1), 3, .int seed, rfl, rfl, SqL.of hp', rfl, _, rfl, p, p5 c i' pot' seed (turn + 1), 4, .int (turn + 1 : Nat), rfl, rfl, SqL.of hp', rfl, seed, turn + 1, rfl, fun m hm => ⟨_, _, rfl, rfl, ⟨by decide, by decide⟩, .inl ⟨_, rfl, _, rfl, _, _, rfl, rfl, hn0, ?_⟩⟩⟩
          refine res _ _ _ (Int.ediv_nonneg (by omega) (by decide)) fun d hd => ?_
          exact q d _ (.inl hd) s' ⟨cells, _, _, _, _, hp', hc', hcl⟩
end
end K35


/-! the setting, the ring -/
namespace K35
open PySem PySem.Spec PyProof.Rows L2
open SX (S)
/-! ### Setting.__init__ -/
abbrev sInit : Stmt := inSet 5
abbrev initKw : List (Str × V) := [("grace", .int 6), ("helpers", .int 1)]
structure SetM (K : PySem.W.Frag) (mg : Str → Option Value) (C : Addr) : Prop where
  gS : mg "Setting" = some (.ref C)
  cl : Cls K C
  nB : NoAttr K C "bits"
  nP : NoAttr K C "patience"
  nR : NoAttr K C "room"
  nG : NoAttr K C "grace"
  nH : NoAttr K C "helpers"
  cB : ∃ u, Con K C "MOST_BITS" (.int 8) u
  cP : ∃ u, Con K C "MOST_PATIENCE" (.int 6) u
  cR : ∃ u, Con K C "MOST_ROOM" (.int 64) u
  cG : ∃ u, Con K C "MOST_GRACE" (.int 200) u
  cH : ∃ u, Con K C "MOST_HELPERS" (.int 3) u
  made : ∃ f fd, Mk K C f ∧ FunD K "__init__" "Setting.__init__" (defArgs sInit) (defBody sInit) (defScope sInit) [] initKw f fd
def spInit (C : Addr) : Sp := fun vs H Q _ => ∃ (x dx : Addr) (bits pat room : Nat), vs = [.ref x, .int bits, .int pat, .int room, .int 6, .int 1] ∧ H x = some (.ins C dx []) ∧ 1 ≤ bits ∧ bits ≤ 8 ∧ 1 ≤ pat ∧ pat ≤ 6 ∧ 1 ≤ room ∧ room ≤ 64 ∧
  ∀ fs H', (∀ b, b ≠ x → H' b = H b) → H' x = some (.ins C dx fs) → fs.lookup ("bits" : Str) = some (.int bits) → Q .non H'
section
variable {P : Program} {w : World} {K : PySem.W.Frag} {mg : Str → Option Value} {base : Heap} {CS CI fI : Addr}
abbrev nInit : List Str := ["self", "bits", "patience", "room", "grace", "helpers"]
theorem sc_init : FnScope nInit nInit (defScope sInit) := ⟨rfl, rfl, rfl, by decide +kernel, rfl, by decide +kernel, by decide +kernel⟩
theorem wholeM_nat {n lo hi : Nat} (h1 : lo ≤ n) (h2 : n ≤ hi) : wholeM (.int n) lo hi = true := by
  show (decide ((lo : Int) ≤ (n : Int)) && decide ((n : Int) ≤ (hi : Int))) = true
  rw [decide_eq_true (by omega), decide_eq_true (by omega)]
  rfl
theorem ok_init {f : Addr} {fd : FuncData} (F : FunD K "__init__" "Setting.__init__" (defArgs sInit) (defBody sInit) (defScope sInit) [] initKw f fd) (M : SetM K mg CS) (T : Txt P K mg) (d1 : Df P w K mg base 1 "whole" spWhole) : FnOk P w K mg base CX0 2 f fd nInit (spInit CS) := by
  obtain ⟨uB, cB⟩ := M.cB
  obtain ⟨uP, cP⟩ := M.cP
  obtain ⟨uR, cR⟩ := M.cR
  obtain ⟨uG, cG⟩ := M.cG
  obtain ⟨uH, cH⟩ := M.cH
  refine F.ok sc_init (fun vs H Q E h => ?_) (fun cdv A outer s H vs Q E hr h => ?_)
  · obtain ⟨v, b, _, _, _, rfl, _⟩ := h
    rfl
  · obtain ⟨x, dx, bits, pat, room, rfl, hx, b1, b2, p1, p2, r1, r2, q⟩ := h
    refine ⟨_, pss_cons (ps_if (pt_not (pt_val (pe_d d1 hr (by decide) (by rfl) (pa_cons (pv 1) (pa_cons pe_int (pa_cons (pe_con (pv 0) rfl) pa_nil)))))) (pss_one ps_never) pss_nil)
      (pss_cons (ps_if (pt_not (pt_val (pe_d d1 hr (by decide) (by rfl) (pa_cons (pv 2) (pa_cons pe_int (pa_cons (pe_con (pv 0) rfl) pa_nil)))))) (pss_one ps_never) pss_nil)
      (pss_cons (ps_if (pt_not (pt_val (pe_d d1 hr (by decide) (by rfl) (pa_cons (pv 3) (pa_cons pe_int (pa_cons (pe_con (pv 0) rfl) pa_nil)))))) (pss_one ps_never) pss_nil)
      (pss_cons (ps_if (pt_not (pt_val (pe_d d1 hr (by decide) (by rfl) (pa_cons (pv 4) (pa_cons pe_int (pa_cons (pe_con (pv 0) rfl) pa_nil)))))) (pss_one ps_never) pss_nil)
      (pss_cons (ps_if (pt_not (pt_val (pe_d d1 hr (by decide) (by rfl) (pa_cons (pv 5) (pa_cons pe_int (pa_cons (pe_con (pv 0) rfl) pa_nil)))))) (pss_one ps_never) pss_nil)
      (pss_cons (ps_fld (pv 0) (pv 1) rfl) (pss_cons (ps_fld (pv 0) (pv 2) rfl) (pss_cons (ps_fld (pv 0) (pv 3) rfl) (pss_cons (ps_fld (pv 0) (pv 4) rfl) (pss_one (ps_fld (pv 0) (pv 5) rfl)))))))))), ?_⟩
    refine ⟨_, rfl, _, rfl, x, CS, dx, [], .int 8, uB, rfl, hx, M.cl, cB, rfl, _, _, _, rfl, .inr ⟨_, rfl⟩, _, rfl, ifF (by have := wholeM_nat (lo := 1) (hi := 8) b1 b2; exact congrArg not this) ?_⟩
    refine ⟨_, rfl, _, rfl, x, CS, dx, [], .int 6, uP, rfl, hx, M.cl, cP, rfl, _, _, _, rfl, .inr ⟨_, rfl⟩, _, rfl, ifF (by have := wholeM_nat (lo := 1) (hi := 6) p1 p2; exact congrArg not this) ?_⟩
    refine ⟨_, rfl, _, rfl, x, CS, dx, [], .int 64, uR, rfl, hx, M.cl, cR, rfl, _, _, _, rfl, .inr ⟨_, rfl⟩, _, rfl, ifF (by have := wholeM_nat (lo := 1) (hi := 64) r1 r2; exact congrArg not this) ?_⟩
    refine ⟨_, rfl, _, rfl, x, CS, dx, [], .int 200, uG, rfl, hx, M.cl, cG, rfl, _, _, _, rfl, .inr ⟨_, rfl⟩, _, rfl, ifF (by rfl) ?_⟩
    refine ⟨_, rfl, _, rfl, x, CS, dx, [], .int 3, uH, rfl, hx, M.cl, cH, rfl, _, _, _, rfl, .inr ⟨_, rfl⟩, _, rfl, ifF (by rfl) ?_⟩
    refine ⟨_, rfl, _, rfl, x, CS, dx, [], rfl, hx, M.cl, M.nB, by decide, ?_⟩
    refine ⟨_, rfl, _, rfl, x, CS, dx, _, rfl, upd_same, M.cl, M.nP, (by exact (by decide : (1 : Nat) < 1000)), ?_⟩
    refine ⟨_, rfl, _, rfl, x, CS, dx, _, rfl, upd_same, M.cl, M.nR, (by exact (by decide : (2 : Nat) < 1000)), ?_⟩
    refine ⟨_, rfl, _, rfl, x, CS, dx, _, rfl, upd_same, M.cl, M.nG, (by exact (by decide : (3 : Nat) < 1000)), ?_⟩
    refine ⟨_, rfl, _, rfl, x, CS, dx, _, rfl, upd_same, M.cl, M.nH, (by exact (by decide : (4 : Nat) < 1000)), ?_⟩
    refine q _ _ (fun b hb => ?_) upd_same rfl
    rw [upd_ne hb, upd_ne hb, upd_ne hb, upd_ne hb, upd_ne hb]

/-! ### _law_ring -/
abbrev sRing : Stmt := top 36
def spRing : Sp := fun vs H Q _ => ∃ (bits : Nat), vs = [.int bits] ∧ bits ≤ 8 ∧ Q (.int ((2 ^ bits : Nat) : Int)) H
theorem sc_ring : FnScope ["_law_bits", "_law_ring_here", "_law_k"] ["_law_bits"] (defScope sRing) := ⟨rfl, rfl, rfl, by decide +kernel, rfl, by decide +kernel, by decide +kernel⟩
theorem ok_ring (D : Dk K mg "_law_ring" sRing) (T : Txt P K mg) : Df P w K mg base 1 "_law_ring" spRing := by
  refine df_of D sc_ring (fun _ _ _ _ _ _ us hl => match us, hl with | [_], _ => rfl) (fun vs H Q E h => ?_) (fun f cdv A outer s H vs Q E hr h => ?_)
  · obtain ⟨v, rfl, _⟩ := h
    rfl
  · obtain ⟨bits, rfl, hb, q⟩ := h
    refine ⟨_, pss_cons (ps_set (i := 1) sc_ring.nd rfl (Or.inl rfl) pe_int)
      (pss_cons (ps_for PassesOwn.never rfl (pi_range1 (by rfl) T.range (pa_cons (pv 0) pa_nil)) (pg_name (i := 2) sc_ring.nd rfl (Or.inl rfl)) (pss_one (ps_set (i := 1) sc_ring.nd rfl (Or.inl rfl) (pe_op op_mul (pv 1) pe_int))))
      (pss_one (ps_ret (pv 1)))), ?_⟩
    refine ⟨_, rfl, bits, rfl, by omega, by omega, ?_⟩
    refine for_range (g := gName 2) (fun i σ' H' => ∃ u, σ' = [some (.int bits), some (.int ((2 ^ i : Nat) : Int)), u] ∧ H' = H) ⟨none, rfl, rfl⟩ (fun i σ' H' hi pv' => ?_) (fun σ' H' pv' => ?_)
    · obtain ⟨u, rfl, rfl⟩ := pv'
      have hi8 : i ≤ 8 := by omega
      have h2 : (2 : Nat) ^ i ≤ 2 ^ 8 := Nat.pow_le_pow_right (by decide) hi8
      refine ⟨_, rfl, _, _, rfl, rfl, .inr ⟨by decide, by decide⟩, ?_⟩
      refine ⟨some (.int (0 + (i : Int))), ?_, rfl⟩
      have e : ((2 ^ i : Nat) : Int) * 2 = ((2 ^ (i + 1) : Nat) : Int) := by rw [Nat.pow_succ]; omega
      show [some (V.int bits), some (V.int (((2 ^ i : Nat) : Int) * 2)), some (V.int (0 + (i : Int)))] = _
      rw [e]
    · obtain ⟨u, rfl, rfl⟩ := pv'
      rw [Int.toNat_natCast]
      exact ⟨_, rfl, q⟩

/-! ### _law_setting -/
abbrev sSetting : Stmt := top 37
def spSetting (CS : Addr) : Sp := fun vs H Q _ => ∃ (p c : Addr) (bits : Nat), vs = [.int bits, .ref p] ∧ 1 ≤ bits ∧ bits ≤ 8 ∧ Purse H p c ∧ ∀ s H', But p H H' → Purse H' p c → SetAt CS H' s bits → s ≠ p → Q (.ref s) H'
theorem sc_setting : FnScope ["_law_bits", "_law_purse_here"] ["_law_bits", "_law_purse_here"] (defScope sSetting) := ⟨rfl, rfl, rfl, by decide +kernel, rfl, by decide +kernel, by decide +kernel⟩
theorem ok_setting (D : Dk K mg "_law_setting" sSetting) (M : SetM K mg CS) (T : Txt P K mg) (d0 : Df P w K mg base 1 "whole" spWhole) (d1 : Df P w K mg base 2 "_law_draw" spDraw) : Df P w K mg base 4 "_law_setting" (spSetting CS) := by
  obtain ⟨fI, fdI, MI, FI⟩ := M.made
  have GI : FnOk P w K mg base CX0 2 fI fdI nInit (spInit CS) := ok_init FI M T d0
  obtain ⟨ds, hd, bI⟩ := FI.binds0 (ps := nInit) 4 (by simp) rfl (fun D doc pm an cdv ct us ks hl hk => match us, ks, hl, hk with | [_, _, _, _], [_, _], _, _ => ⟨_, _, _, _, _, _, rfl, rfl, _, _, _, _, _, _, rfl, rfl, rfl⟩)
  refine df_of D sc_setting (fun _ _ _ _ _ _ us hl => match us, hl with | [_, _], _ => rfl) (fun vs H Q E h => ?_) (fun f cdv A outer s H vs Q E hr h => ?_)
  · obtain ⟨v, b, _, rfl, _⟩ := h
    rfl
  · obtain ⟨p, c, bits, rfl, b1, b2, hP, q⟩ := h
    refine ⟨_, pss_one (ps_ret (pe_make MI GI hr (by rfl) M.gS bI hd pass0
      (pa_cons (pv 0) (pa_cons (pe_op op_add pe_int (pe_d d1 hr (by decide) (by rfl) (pa_cons (pv 1) (pa_cons pe_int pa_nil)))) (pa_cons (pe_op op_add pe_int (pe_d d1 hr (by decide) (by rfl) (pa_cons (pv 1) (pa_cons pe_int pa_nil)))) pa_nil))))), ?_⟩
    refine ⟨_, rfl, _, rfl, p, c, 6, rfl, by decide, hP, fun a H1 ha s1 P1 => ⟨_, _, rfl, rfl, _, rfl, p, c, 64, rfl, by decide, P1, fun b H2 hb s2 P2 => ⟨_, _, rfl, rfl, fun x dx hx hdx hne => ?_⟩⟩⟩
    have ea : (1 : Int) + (a : Int) = ((1 + a : Nat) : Int) := by omega
    have eb : (1 : Int) + (b : Int) = ((1 + b : Nat) : Int) := by omega
    refine ⟨x, dx, bits, 1 + a, 1 + b, ?_, upd_same, b1, b2, by omega, by omega, by omega, by omega, fun fs H3 k3 x3 l3 => ⟨rfl, ?_⟩⟩
    · rw [← ea, ← eb]
      rfl
    · have s3 : Same H2 H3 := fun b' u e => by
        have h1 : b' ≠ x := ne_of_none e hx
        have h2 : b' ≠ dx := ne_of_none e hdx
        rw [k3 b' h1, upd_ne h1, upd_ne h2]
        exact e
      exact q x H3 ((s1.trans s2).trans (Same.but s3)) (P2.keep s3) ⟨dx, fs, x3, l3⟩ (P2.ne hx)
end
end K35


/-! worths, lives, sayings of the law -/
namespace K35
open PySem PySem.Spec PyProof.Rows L2
open SX (S)
theorem But.none {p D : Addr} {H H' : Hp} (s : But p H H') (hD : H' D = none) (hne : D ≠ p) : H D = none := by
  cases e : H D with
  | none => rfl
  | some u =>
    have := s _ _ hne e
    rw [hD] at this
    cases this
theorem joinE : ∀ L : List (List Nat), TL.joinL [] L = L.flatten
  | [] => rfl
  | [p] => by show p = _; simp
  | p :: q :: r => by
    show p ++ ([] ++ TL.joinL [] (q :: r)) = _
    rw [joinE (q :: r)]
    simp
theorem join_ones (l : List Nat) : Txt.join (S []) ((l.map fun c => [c]).map S) = S l := by
  rw [SX.join_S, joinE]
  congr 1
  induction l with
  | nil => rfl
  | cons a l ih =>
    simp at ih ⊢
    exact ih
section
variable {P : Program} {w : World} {K : PySem.W.Frag} {mg : Str → Option Value} {base : Heap} {CS CI fI : Addr}
/-! ### _law_worth -/
abbrev sLW : Stmt := top 38
def spLW : Sp := fun vs H Q _ => ∃ (p c : Addr), vs = [.ref p] ∧ Purse H p c ∧ ∀ (l : List Nat) (H' : Hp), l.length ≤ 12 → (∀ c ∈ l, c ∈ wsigns) → But p H H' → Purse H' p c → Q (.str (S l)) H'
abbrev nLW : List Str := ["_law_purse_here", "_law_signs", "_law_k"]
theorem sc_lw : FnScope nLW ["_law_purse_here"] (defScope sLW) := ⟨rfl, rfl, rfl, by decide +kernel, rfl, by decide +kernel, by decide +kernel⟩
theorem ok_lw (D : Dk K mg "_law_worth" sLW) (T : Txt P K mg) (d1 : Df P w K mg base 2 "_law_draw" spDraw) : Df P w K mg base 3 "_law_worth" spLW := by
  refine df_of D sc_lw (fun _ _ _ _ _ _ us hl => match us, hl with | [_], _ => rfl) (fun vs H Q E h => ?_) (fun f cdv A outer s H vs Q E hr h => ?_)
  · obtain ⟨v, _, rfl, _⟩ := h
    rfl
  · obtain ⟨p, c, rfl, hP, q⟩ := h
    refine ⟨_, pss_cons (ps_set (i := 1) sc_lw.nd rfl (Or.inr rfl) pe_str)
      (pss_one (ps_ret (pe_join pe_str (pe_lc (own := [("_law_k", 2)]) (g := gName 2) (tt := tYes) rfl sc_lw.nd (pi_range1 (by rfl) T.range (pa_cons (pe_d d1 hr (by decide) (by rfl) (pa_cons (pv 0) (pa_cons pe_int pa_nil))) pa_nil)) (blkOk_by (own := [("_law_k", 2)]) (N := nLW) (sc := defScope sLW) (by decide +kernel))
        (fun _ _ _ _ _ => pg_name (i := 2) sc_lw.nd rfl (Or.inl rfl)) (fun _ _ _ _ _ => pts_nil)
        (fun _ _ _ _ _ => pe_ix ix_str (pv 1) (pe_d d1 (by first | exact hr | exact hr.blk | exact hr.blkC _ _ _) (by decide) (by rfl) (pa_cons (pv 0) (pa_cons pe_int pa_nil))) (fun _ _ => rfl)))))), ?_⟩
    refine ⟨⟨_, rfl⟩, _, rfl, p, c, 13, rfl, by decide, hP, fun n H1 hn s1 P1 => ⟨n, rfl, by omega, by omega, fun Dd hD => ?_⟩⟩
    have hDp : Dd ≠ p := P1.ne hD
    have hDc : Dd ≠ c := P1.nec hD
    have hD0 : H Dd = none := s1.none hD hDp
    refine lc_gen (n := (n : Int).toNat) (fun i H' => But p H H' ∧ Purse H' p c ∧ ∃ l : List Nat, H' Dd = some (.lst (l.map fun c => V.str (S [c]))) ∧ l.length = i ∧ ∀ c ∈ l, c ∈ wsigns) ⟨s1.trans (Same.but (same_new hD)), P1.keep (same_new hD), [], upd_same, rfl, by simp⟩ (fun i H' hi _ => hi) (fun H' _ => Nat.le_refl _) (fun i x H' H'' hi pv' y => ?_) (fun H' pv' => ?_)
    · obtain ⟨e, ex⟩ := y
      subst e ex
      obtain ⟨s2, P2, l, h1, h2, h3⟩ := pv'
      refine ⟨rfl, _, rfl, _, rfl, p, c, 36, rfl, by decide, P2, fun d H3 hd s3 P3 => ?_⟩
      have hd36 : d < wsigns.length := by
        show d < 36
        omega
      refine ⟨_, (d : Int), wsigns[d], rfl, rfl, (by decide +kernel), ?_, ?_⟩
      · rw [wsigns_eq]
        exact atI_nat (List.getElem?_eq_getElem hd36)
      · have h1' := s3 _ _ hDp h1
        refine ⟨_, h1', ?_, (s2.trans s3).upd hD0, ?_, l ++ [wsigns[d]], ?_, ?_, ?_⟩
        · rw [List.length_map, h2, sizeLine_eq]
          omega
        · exact P3.upd hDp hDc
        · rw [upd_same, List.map_append]
          rfl
        · rw [List.length_append, h2]
          rfl
        · intro c hc
          rcases List.mem_append.mp hc with hc | hc
          · exact h3 c hc
          · rw [List.mem_singleton.mp hc]
            exact List.getElem_mem hd36
    · obtain ⟨s2, P2, l, h1, h2, h3⟩ := pv'
      have e1 : (l.map fun c => V.str (S [c])) = ((l.map fun c => [c]).map S).map V.str := by
        rw [List.map_map, List.map_map]
        rfl
      rw [e1] at h1
      have hl : l.length ≤ 12 := by omega
      refine ⟨S [], Dd, (l.map fun c => [c]).map S, ?_, rfl, .inl (SqL.of h1), ?_, ?_⟩
      · rw [← emp_S]
      · have e2 : (((l.map fun c => [c]).map S).map (·.length)).sum = l.length := by
          rw [List.map_map, List.map_map]
          clear h1 h2 h3 e1 hl
          induction l with
          | nil => rfl
          | cons a l ih =>
            rw [List.map_cons, List.sum_cons, ih, List.length_cons]
            show 1 + l.length = _
            omega
        have e3 : (S []).length = 0 := rfl
        rw [e2, e3]
        omega
      · rw [join_ones]
        exact q l _ hl h3 s2 P2
end
end K35


/-! lives, sayings, generations, signs of the law -/
namespace K35
open PySem PySem.Spec PyProof.Rows L2
open SX (S)
section
variable {P : Program} {w : World} {K : PySem.W.Frag} {mg : Str → Option Value} {base : Heap} {CS CI fI : Addr}
/-! ### _law_life -/
abbrev sLL : Stmt := top 39
def spLL : Sp := fun vs H Q _ => ∃ (p c : Addr), vs = [.ref p] ∧ Purse H p c ∧ ∀ (v : Nat) (H' : Hp), v < 10 ^ 60 → But p H H' → Purse H' p c → Q (.int v) H'
theorem sc_ll : FnScope ["_law_purse_here", "_law_way", "_law_digit"] ["_law_purse_here"] (defScope sLL) := ⟨rfl, rfl, rfl, by decide +kernel, rfl, by decide +kernel, by decide +kernel⟩
theorem pow60 : (10 : Int) ^ (60 : Int).toNat = 1000000000000000000000000000000000000000000000000000000000000 := by decide +kernel
theorem npow60 : (10 : Nat) ^ 60 = 1000000000000000000000000000000000000000000000000000000000000 := by decide +kernel
/-- a power of two literals, its value given -/
def rPowL (a b r : Int) : R2 := fun x y H Q => x = .int a ∧ y = .int b ∧ Q (.int r) H
theorem op_powL {X : Cx} {a b r : Int} (hC : CPow a b) (e : a ^ b.toNat = r) : OpR X (binaryOp .Pow) (rPowL a b r) := fun pins s σ H x y v u Q I rx ry h => op_pow pins s σ H x y v u Q I rx ry ⟨a, b, h.1, h.2.1, hC, by rw [← e] at h; exact h.2.2⟩
abbrev k60 : Int := 1000000000000000000000000000000000000000000000000000000000000
theorem c60 : CPow 10 60 := ⟨by decide, by decide, by decide⟩
theorem ok_ll (D : Dk K mg "_law_life" sLL) (T : Txt P K mg) (d1 : Df P w K mg base 2 "_law_draw" spDraw) : Df P w K mg base 3 "_law_life" spLL := by
  refine df_of D sc_ll (fun _ _ _ _ _ _ us hl => match us, hl with | [_], _ => rfl) (fun vs H Q E h => ?_) (fun f cdv A outer s H vs Q E hr h => ?_)
  · obtain ⟨v, _, rfl, _⟩ := h
    rfl
  · obtain ⟨p, c, rfl, hP, q⟩ := h
    refine ⟨_, pss_cons (ps_set (i := 1) sc_ll.nd rfl (Or.inl rfl) (pe_d d1 hr (by decide) (by rfl) (pa_cons (pv 0) (pa_cons pe_int pa_nil))))
      (pss_cons (ps_if (pt_cmpR op_eq (pv 1) pe_int (nomark _)) (pss_one (ps_ret (pe_d d1 hr (by decide) (by rfl) (pa_cons (pv 0) (pa_cons (pe_op (op_powL (r := k60) c60 pow60) pe_int pe_int) pa_nil))))) pss_nil)
      (pss_cons (ps_if (pt_cmpR op_eq (pv 1) pe_int (nomark _)) (pss_one (ps_ret (pe_op op_sub (pe_op op_sub (pe_op (op_powL (r := k60) c60 pow60) pe_int pe_int) pe_int) (pe_d d1 hr (by decide) (by rfl) (pa_cons (pv 0) (pa_cons pe_int pa_nil)))))) pss_nil)
      (pss_cons (ps_if (pt_cmpR op_eq (pv 1) pe_int (nomark _))
        (pss_cons (ps_set (i := 2) sc_ll.nd rfl (Or.inl rfl) (pe_callTy call_str_int (by rfl) T.str (by decide +kernel) (pa_cons (pe_op op_add pe_int (pe_d d1 hr (by decide) (by rfl) (pa_cons (pv 0) (pa_cons pe_int pa_nil)))) pa_nil)))
        (pss_one (ps_ret (pe_callTy call_int_str (by rfl) T.int (by decide +kernel) (pa_cons (pe_op op_mul_sign (pv 2) (pe_op op_add pe_int (pe_d d1 hr (by decide) (by rfl) (pa_cons (pv 0) (pa_cons pe_int pa_nil))))) pa_nil))))) pss_nil)
      (pss_one (ps_ret (pe_d d1 hr (by decide) (by rfl) (pa_cons (pv 0) (pa_cons pe_int pa_nil)))))))), ?_⟩
    refine ⟨_, rfl, p, c, 5, rfl, by decide, hP, fun way H1 hway s1 P1 => ?_⟩
    refine ⟨_, rfl, rfl, _, rfl, ?_⟩
    refine ifE ?_ ?_
    · refine ⟨_, rfl, rfl, rfl, ?_⟩
      refine ⟨p, c, _, rfl, by decide, P1, fun d H2 hd s2 P2 => q d H2 ?_ (s1.trans s2) P2⟩
      have hd : (d : Int) < 1000000000000000000000000000000000000000000000000000000000000 ∨ d = 0 := hd
      rw [npow60]
      omega
    refine ⟨_, rfl, rfl, _, rfl, ?_⟩
    refine ifE ?_ ?_
    · refine ⟨rfl, rfl, ?_⟩
      refine ⟨_, _, rfl, rfl, _, rfl, p, c, 2, rfl, by decide, P1, fun d H2 hd s2 P2 => ⟨_, _, rfl, rfl, ?_⟩⟩
      have hd2 : d < 2 := by omega
      have e : (1000000000000000000000000000000000000000000000000000000000000 : Int) - 1 - (d : Int) = ((1000000000000000000000000000000000000000000000000000000000000 - 1 - d : Nat) : Int) := by omega
      show Q (.int ((1000000000000000000000000000000000000000000000000000000000000 : Int) - 1 - (d : Int))) H2
      rw [e]
      refine q _ H2 ?_ (s1.trans s2) P2
      rw [npow60]
      omega
    refine ⟨_, rfl, rfl, _, rfl, ?_⟩
    refine ifE ?_ ?_
    · refine ⟨_, rfl, p, c, 9, rfl, by decide, P1, fun d H2 hd s2 P2 => ⟨_, _, rfl, rfl, _, rfl, ?_, ?_⟩⟩
      · show ((1 : Int) + (d : Int)).natAbs.log2 < 1920
        have : ((1 : Int) + (d : Int)).natAbs < 2 ^ 5 := by omega
        exact Nat.lt_trans (PySem.Flt.log2_lt_of (by decide) this) (by decide)
      · have e1 : (1 : Int) + (d : Int) = ((1 + d : Nat) : Int) := by omega
        have e2 : Str.ofString (toString ((1 : Int) + (d : Int))) = S [48 + (1 + d)] := by
          rw [e1, str_num, dg_lt (by omega)]
        show tSeq _ _ _ [some (.ref p), some (.int way), some (.str (Str.ofString (toString ((1 : Int) + (d : Int)))))] H2
        rw [e2]
        refine ⟨_, rfl, _, rfl, p, c, 60, rfl, by decide, P2, fun m H3 hm s3 P3 => ⟨_, _, rfl, rfl, 48 + (1 + d), 1 + m, rfl, ?_, by omega, ?_⟩⟩
        · congr 1
        · have hdig : Digs (List.replicate (1 + m) (48 + (1 + d))) := by
            intro z hz
            rw [List.eq_of_mem_replicate hz]
            omega
          have hlt := dval_lt hdig
          rw [List.length_replicate] at hlt
          refine ⟨_, ((dval (List.replicate (1 + m) (48 + (1 + d))) : Nat) : Int), rfl, ?_, ?_, ?_⟩
          · refine SX.int_S (List.all_eq_true.mpr fun z hz => ?_) (by simp) (by rw [List.length_replicate]; omega)
            rw [Bool.and_eq_true, decide_eq_true_eq, decide_eq_true_eq]
            exact hdig z hz
          · rw [SX.S_len, List.length_replicate]
            omega
          · exact q _ H3 (Nat.lt_of_lt_of_le hlt (Nat.pow_le_pow_right (by decide) (by omega))) ((s1.trans s2).trans s3) P3
    · refine ⟨_, rfl, p, c, 3, rfl, by decide, P1, fun d H2 hd s2 P2 => q d H2 ?_ (s1.trans s2) P2⟩
      rw [npow60]
      omega
end
end K35


/-! sayings, generations, signs of the law -/
namespace K35
open PySem PySem.Spec PyProof.Rows L2
open SX (S)
section
variable {P : Program} {w : World} {K : PySem.W.Frag} {mg : Str → Option Value} {base : Heap} {CS CI fI : Addr}
/-! ### _law_saying -/
abbrev sLS : Stmt := top 40
def spLS : Sp := fun vs H Q _ => ∃ (p c : Addr) (N : Nat), vs = [.ref p, .int N] ∧ 2 ≤ N ∧ N ≤ 256 ∧ Purse H p c ∧
  ∀ (T : Addr) (s v : Nat) (m wd : List Nat) (H' : Hp), s < N → v < 10 ^ 60 → m ∈ marks → wd.length ≤ 12 → (∀ c ∈ wd, c ∈ wsigns) → But p H H' → Purse H' p c → H' T = some (.tup [.int s, .int v, .str (S m), .str (S wd)]) → Q (.ref T) H'
abbrev nLS : List Str := ["_law_purse_here", "_law_ring_here", "_law_way", "_law_seat", "_law_mark"]
theorem sc_ls : FnScope nLS ["_law_purse_here", "_law_ring_here"] (defScope sLS) := ⟨rfl, rfl, rfl, by decide +kernel, rfl, by decide +kernel, by decide +kernel⟩
theorem ok_ls (D : Dk K mg "_law_saying" sLS) (T : Txt P K mg) (d1 : Df P w K mg base 2 "_law_draw" spDraw) (d2 : Df P w K mg base 3 "_law_life" spLL) (d3 : Df P w K mg base 3 "_law_worth" spLW) : Df P w K mg base 4 "_law_saying" spLS := by
  refine df_of D sc_ls (fun _ _ _ _ _ _ us hl => match us, hl with | [_, _], _ => rfl) (fun vs H Q E h => ?_) (fun f cdv A outer s H vs Q E hr h => ?_)
  · obtain ⟨v, _, _, rfl, _⟩ := h
    rfl
  · obtain ⟨p, c, N, rfl, hN2, hN, hP, q⟩ := h
    refine ⟨_, pss_cons (ps_set (i := 2) sc_ls.nd rfl (Or.inl rfl) (pe_d d1 hr (by decide) (by rfl) (pa_cons (pv 0) (pa_cons pe_int pa_nil))))
      (pss_cons (ps_set (i := 3) sc_ls.nd rfl (Or.inl rfl) (pe_d d1 hr (by decide) (by rfl) (pa_cons (pv 0) (pa_cons (pe_callB (call_min2 rfl) (by rfl) T.min (by decide +kernel) (pa_cons (pv 1) (pa_cons pe_int pa_nil))) pa_nil))))
      (Evl.pss_cut (ps_if (pt_cmpR op_eq (pv 2) pe_int (nomark _)) (pss_one (ps_set (i := 3) sc_ls.nd rfl (Or.inl rfl) (pe_op op_sub (pe_op op_sub (pv 1) pe_int) (pv 3)))) pss_nil)
      (Evl.pss_cut (ps_if (pt_cmpR op_eq (pv 2) pe_int (nomark _)) (pss_one (ps_set (i := 3) sc_ls.nd rfl (Or.inl rfl) (pe_d d1 hr (by decide) (by rfl) (pa_cons (pv 0) (pa_cons (pv 1) pa_nil))))) pss_nil)
      (pss_cons (ps_set (i := 4) sc_ls.nd rfl (Or.inl rfl) (pe_ix ix_tup (pe_tup (pa_cons pe_str (pa_cons pe_str (pa_cons pe_str (pa_cons pe_str pa_nil))))) (pe_d d1 hr (by decide) (by rfl) (pa_cons (pv 0) (pa_cons pe_int pa_nil))) (fun _ _ => rfl)))
      (pss_one (ps_ret (pe_tup (pa_cons (pv 3) (pa_cons (pe_d d2 hr (by decide) (by rfl) (pa_cons (pv 0) pa_nil)) (pa_cons (pv 4) (pa_cons (pe_d d3 hr (by decide) (by rfl) (pa_cons (pv 0) pa_nil)) pa_nil))))))))))), ?_⟩
    refine ⟨_, rfl, p, c, 3, rfl, by decide, hP, fun way H1 hway s1 P1 => ?_⟩
    refine ⟨_, rfl, _, rfl, _, _, rfl, p, c, _, rfl, ?_, P1, fun seat H2 hseat s2 P2 => ?_⟩
    · show (if (3 : Int) < (N : Int) then (3 : Int) else (N : Int)) ≤ 10 ^ 61
      have : (256 : Int) ≤ 10 ^ 61 := by decide
      split <;> omega
    have hsN : seat < N := by
      have hs : (seat : Int) < (if (3 : Int) < (N : Int) then (3 : Int) else (N : Int)) ∨ seat = 0 := hseat
      rcases hs with hs | hs
      · split at hs <;> omega
      · omega
    have s12 := s1.trans s2
    let Mid : L2.St → Hp → Prop := fun σ' H' => ∃ (way seat : Nat), σ' = [some (.ref p), some (.int N), some (.int way), some (.int seat), none] ∧ seat < N ∧ But p H H' ∧ Purse H' p c
    refine ⟨Mid, ?_, ?_⟩
    · refine ⟨_, rfl, rfl, _, rfl, ?_⟩
      refine ifE ?_ ?_
      · refine ⟨_, rfl, _, _, rfl, rfl, _, rfl, _, _, rfl, rfl, ?_⟩
        have e : (N : Int) - 1 - (seat : Int) = ((N - 1 - seat : Nat) : Int) := by omega
        refine ⟨way, N - 1 - seat, ?_, by omega, s12, P2⟩
        rw [← e]
        rfl
      · exact ⟨way, seat, rfl, hsN, s12, P2⟩
    rintro σ' H' ⟨way, seat, rfl, hsN, s3, P3⟩
    refine ⟨Mid, ?_, ?_⟩
    · refine ⟨_, rfl, rfl, _, rfl, ?_⟩
      refine ifE ?_ ?_
      · refine ⟨_, rfl, _, rfl, p, c, N, rfl, ?_, P3, fun seat2 H4 hs2 s4 P4 => ?_⟩
        · have : (256 : Int) ≤ 10 ^ 61 := by decide
          omega
        · exact ⟨way, seat2, rfl, by omega, s3.trans s4, P4⟩
      · exact ⟨way, seat, rfl, hsN, s3, P3⟩
    rintro σ' H' ⟨way, seat, rfl, hsN, s3, P3⟩
    refine ⟨by show 4 ≤ sizeLine; decide, fun t ht => ?_⟩
    have P4 := P3.keep (same_new (o := .tup [.str "alive", .str "suspect", .str "dead", .str "left"]) ht)
    refine ⟨_, rfl, p, c, 4, rfl, by decide, P4, fun d H5 hd s5 P5 => ?_⟩
    have hd4 : d < marks.length := by
      show d < 4
      omega
    have hT5 := s5 t _ (P3.ne ht) upd_same
    have hTup : ([.str "alive", .str "suspect", .str "dead", .str "left"] : List V) = (marks.map S).map V.str := by rw [← marks_eq]; rfl
    rw [hTup] at hT5
    have hat : atI ((marks.map S).map V.str) (d : Int) = some (.str (S marks[d])) := atI_nat (by rw [List.getElem?_map, List.getElem?_map, List.getElem?_eq_getElem hd4]; rfl)
    refine ⟨t, _, (d : Int), _, rfl, rfl, SqT.of hT5, hat, ?_⟩
    have s15 := (s3.trans (Same.but (same_new ht))).trans s5
    refine ⟨_, rfl, _, rfl, p, c, rfl, P5, fun v H6 hv s6 P6 => ⟨_, rfl, _, rfl, p, c, rfl, P6, fun wd H7 hw1 hw2 s7 P7 => ⟨by show 4 ≤ sizeLine; decide, fun T7 hT7 => ?_⟩⟩⟩
    exact q T7 seat v marks[d] wd _ hsN hv (List.getElem_mem hd4) hw1 hw2 (((s15.trans s6).trans s7).trans (Same.but (same_new hT7))) (P7.keep (same_new hT7)) upd_same

/-! ### _law_generation -/
abbrev sLG : Stmt := top 41
def spLG : Sp := fun vs H Q _ => ∃ (p c : Addr), vs = [.ref p] ∧ Purse H p c ∧ ∀ (v : Nat) (H' : Hp), v < 10 ^ 9 → But p H H' → Purse H' p c → Q (.int v) H'
theorem sc_lg : FnScope ["_law_purse_here", "_law_way"] ["_law_purse_here"] (defScope sLG) := ⟨rfl, rfl, rfl, by decide +kernel, rfl, by decide +kernel, by decide +kernel⟩
theorem pow9 : (10 : Int) ^ (9 : Int).toNat = 1000000000 := by decide +kernel
theorem npow9 : (10 : Nat) ^ 9 = 1000000000 := by decide +kernel
theorem c9 : CPow 10 9 := ⟨by decide, by decide, by decide⟩
theorem one_S : ("1" : Str) = S [49] := by decide +kernel
theorem zero_S : ("0" : Str) = S [48] := by decide +kernel
theorem ok_lg (D : Dk K mg "_law_generation" sLG) (T : Txt P K mg) (d1 : Df P w K mg base 2 "_law_draw" spDraw) : Df P w K mg base 3 "_law_generation" spLG := by
  refine df_of D sc_lg (fun _ _ _ _ _ _ us hl => match us, hl with | [_], _ => rfl) (fun vs H Q E h => ?_) (fun f cdv A outer s H vs Q E hr h => ?_)
  · obtain ⟨v, _, rfl, _⟩ := h
    rfl
  · obtain ⟨p, c, rfl, hP, q⟩ := h
    refine ⟨_, pss_cons (ps_set (i := 1) sc_lg.nd rfl (Or.inl rfl) (pe_d d1 hr (by decide) (by rfl) (pa_cons (pv 0) (pa_cons pe_int pa_nil))))
      (pss_cons (ps_if (pt_cmpR op_eq (pv 1) pe_int (nomark _)) (pss_one (ps_ret (pe_d d1 hr (by decide) (by rfl) (pa_cons (pv 0) (pa_cons (pe_op (op_powL (r := 1000000000) c9 pow9) pe_int pe_int) pa_nil))))) pss_nil)
      (pss_cons (ps_if (pt_cmpR op_eq (pv 1) pe_int (nomark _)) (pss_one (ps_ret (pe_callTy call_int_str (by rfl) T.int (by decide +kernel) (pa_cons (pe_op op_add_str pe_str (pe_op op_mul_sign pe_str (pe_d d1 hr (by decide) (by rfl) (pa_cons (pv 0) (pa_cons pe_int pa_nil))))) pa_nil)))) pss_nil)
      (pss_cons (ps_if (pt_cmpR op_eq (pv 1) pe_int (nomark _)) (pss_one (ps_ret (pe_op op_sub (pe_op op_sub (pe_op (op_powL (r := 1000000000) c9 pow9) pe_int pe_int) pe_int) (pe_d d1 hr (by decide) (by rfl) (pa_cons (pv 0) (pa_cons pe_int pa_nil)))))) pss_nil)
      (pss_one (ps_ret (pe_d d1 hr (by decide) (by rfl) (pa_cons (pv 0) (pa_cons pe_int pa_nil)))))))), ?_⟩
    refine ⟨_, rfl, p, c, 4, rfl, by decide, hP, fun way H1 hway s1 P1 => ?_⟩
    refine ⟨_, rfl, rfl, _, rfl, ?_⟩
    refine ifE ?_ ?_
    · refine ⟨_, rfl, rfl, rfl, p, c, _, rfl, by decide, P1, fun d H2 hd s2 P2 => q d H2 ?_ (s1.trans s2) P2⟩
      rw [npow9]
      omega
    refine ⟨_, rfl, rfl, _, rfl, ?_⟩
    refine ifE ?_ ?_
    · refine ⟨_, rfl, p, c, 9, rfl, by decide, P1, fun d H2 hd s2 P2 => ⟨48, d, ?_, rfl, by omega, S [49], _, ?_, rfl, ?_, ?_⟩⟩
      · rw [← zero_S]
      · rw [← one_S]
      · rw [SX.S_len, SX.S_len, List.length_replicate, sizeLine_eq]
        show 1 + d ≤ _
        omega
      · rw [SX.S_cat]
        have hdig : Digs ([49] ++ List.replicate d 48) := by
          intro z hz
          rcases List.mem_append.mp hz with hz | hz
          · rw [List.mem_singleton.mp hz]
            omega
          · rw [List.eq_of_mem_replicate hz]
            omega
        have hlt := dval_lt hdig
        have hlen : ([49] ++ List.replicate d 48).length = 1 + d := by
          rw [List.length_append, List.length_replicate]
          rfl
        rw [hlen] at hlt
        refine ⟨_, ((dval ([49] ++ List.replicate d 48) : Nat) : Int), rfl, ?_, ?_, ?_⟩
        · refine SX.int_S (List.all_eq_true.mpr fun z hz => ?_) (by simp) (by rw [hlen]; omega)
          rw [Bool.and_eq_true, decide_eq_true_eq, decide_eq_true_eq]
          exact hdig z hz
        · rw [SX.S_len, hlen]
          omega
        · exact q _ H2 (Nat.lt_of_lt_of_le hlt (Nat.pow_le_pow_right (by decide) (by omega))) (s1.trans s2) P2
    refine ⟨_, rfl, rfl, _, rfl, ?_⟩
    refine ifE ?_ ?_
    · refine ⟨rfl, rfl, ?_⟩
      refine ⟨_, _, rfl, rfl, _, rfl, p, c, 2, rfl, by decide, P1, fun d H2 hd s2 P2 => ⟨_, _, rfl, rfl, ?_⟩⟩
      have hd2 : d < 2 := by omega
      have e : (1000000000 : Int) - 1 - (d : Int) = ((1000000000 - 1 - d : Nat) : Int) := by omega
      show Q (.int ((1000000000 : Int) - 1 - (d : Int))) H2
      rw [e]
      refine q _ H2 ?_ (s1.trans s2) P2
      rw [npow9]
      omega
    · refine ⟨_, rfl, p, c, 12, rfl, by decide, P1, fun d H2 hd s2 P2 => q d H2 ?_ (s1.trans s2) P2⟩
      rw [npow9]
      omega

/-! ### _law_sign -/
abbrev sLN : Stmt := top 42
def spLN : Sp := fun vs H Q _ => ∃ (p c : Addr), vs = [.ref p] ∧ Purse H p c ∧ ∀ (z : Nat) (H' : Hp), z < 128 → But p H H' → Purse H' p c → Q (.str (S [z])) H'
theorem sc_ln : FnScope ["_law_purse_here", "_law_signs"] ["_law_purse_here"] (defScope sLN) := ⟨rfl, rfl, rfl, by decide +kernel, rfl, by decide +kernel, by decide +kernel⟩
abbrev tA : Str := "0123456789 \n"
abbrev tB1 : Str := " !\"#$&'()*+,-./0123456789:;<=>?@ABCDEFGHIJKLMNOPQRSTUVWXYZ[\\]^_`"
abbrev tB2 : Str := "abcdefghijklmnopqrstuvwxyz{|}~\n"
theorem tA_ok : tA.cps.toList.length = 12 ∧ ∀ c ∈ tA.cps.toList, c < 128 := by decide +kernel
theorem tB_ok : (tB1 ++ tB2).cps.toList.length = 95 ∧ ∀ c ∈ (tB1 ++ tB2).cps.toList, c < 128 := by decide +kernel
theorem ok_ln (D : Dk K mg "_law_sign" sLN) (T : Txt P K mg) (d1 : Df P w K mg base 2 "_law_draw" spDraw) : Df P w K mg base 3 "_law_sign" spLN := by
  refine df_of D sc_ln (fun _ _ _ _ _ _ us hl => match us, hl with | [_], _ => rfl) (fun vs H Q E h => ?_) (fun f cdv A outer s H vs Q E hr h => ?_)
  · obtain ⟨v, _, rfl, _⟩ := h
    rfl
  · obtain ⟨p, c, rfl, hP, q⟩ := h
    refine ⟨_, pss_cons (ps_if (pt_cmpR op_eq (pe_d d1 hr (by decide) (by rfl) (pa_cons (pv 0) (pa_cons pe_int pa_nil))) pe_int (nomark _)) (pss_one (ps_ret (pe_ix ix_str pe_str (pe_d d1 hr (by decide) (by rfl) (pa_cons (pv 0) (pa_cons pe_int pa_nil))) (fun _ _ => rfl)))) pss_nil)
      (pss_cons (ps_set (i := 1) sc_ln.nd rfl (Or.inl rfl) pe_str)
      (pss_cons (ps_set (i := 1) sc_ln.nd rfl (Or.inl rfl) (pe_op op_add_str (pv 1) pe_str))
      (pss_one (ps_ret (pe_ix ix_str (pv 1) (pe_d d1 hr (by decide) (by rfl) (pa_cons (pv 0) (pa_cons pe_int pa_nil))) (fun _ _ => rfl)))))), ?_⟩
    refine ⟨_, rfl, p, c, 3, rfl, by decide, hP, fun way H1 hway s1 P1 => ⟨rfl, _, rfl, ?_⟩⟩
    refine ifE ?_ ?_
    · refine ⟨_, rfl, p, c, 12, rfl, by decide, P1, fun d H2 hd s2 P2 => ?_⟩
      have hd2 : d < tA.cps.toList.length := by
        rw [tA_ok.1]
        omega
      exact ⟨tA, d, _, rfl, rfl, by decide +kernel, atI_nat (List.getElem?_eq_getElem hd2), q _ _ (tA_ok.2 _ (List.getElem_mem hd2)) (s1.trans s2) P2⟩
    · refine ⟨_, rfl, _, _, rfl, rfl, by decide +kernel, ?_⟩
      refine ⟨_, rfl, _, rfl, p, c, 95, rfl, by decide, P1, fun d H2 hd s2 P2 => ?_⟩
      have hd2 : d < (tB1 ++ tB2).cps.toList.length := by
        rw [tB_ok.1]
        omega
      exact ⟨tB1 ++ tB2, d, _, rfl, rfl, by decide +kernel, atI_nat (List.getElem?_eq_getElem hd2), q _ _ (tB_ok.2 _ (List.getElem_mem hd2)) (s1.trans s2) P2⟩
end
end K35


/-! words, lines -/
namespace K35
open PySem PySem.Spec PyProof.Rows L2
open SX (S)
section
variable {P : Program} {w : World} {K : PySem.W.Frag} {mg : Str → Option Value} {base : Heap} {CS CI fI : Addr}
/-! ### _law_words -/
abbrev sLWd : Stmt := top 43
def spLWd : Sp := fun vs H Q _ => ∃ (t : Addr) (s v : Nat) (m wd : List Nat), vs = [.ref t] ∧ H t = some (.tup [.int s, .int v, .str (S m), .str (S wd)]) ∧ s < 10 ^ 60 ∧ v < 10 ^ 60 ∧ m.length ≤ 10 ∧ wd.length ≤ 12 ∧ Q (.str (S (sayB s v m wd))) H
theorem sc_lwd : FnScope ["_law_saying_here"] ["_law_saying_here"] (defScope sLWd) := ⟨rfl, rfl, rfl, by decide +kernel, rfl, by decide +kernel, by decide +kernel⟩
theorem log60 {v : Nat} (h : v < 10 ^ 60) : ((v : Nat) : Int).natAbs.log2 < 1920 := by
  have h2 : v < 2 ^ 200 := Nat.lt_trans h (by decide +kernel)
  have e : ((v : Nat) : Int).natAbs = v := by omega
  rw [e]
  exact Nat.lt_trans (PySem.Flt.log2_lt_of (by decide) h2) (by decide)
theorem toStr (v : Nat) : Str.ofString (toString ((v : Nat) : Int)) = S (dg v) := str_num v
theorem ok_lwd (D : Dk K mg "_law_words" sLWd) (T : Txt P K mg) : Df P w K mg base 1 "_law_words" spLWd := by
  refine df_of D sc_lwd (fun _ _ _ _ _ _ us hl => match us, hl with | [_], _ => rfl) (fun vs H Q E h => ?_) (fun f cdv A outer s H vs Q E hr h => ?_)
  · obtain ⟨v, _, _, _, _, rfl, _⟩ := h
    rfl
  · obtain ⟨t, s0, v, m, wd, rfl, ht, hs, hv, hm, hw, q⟩ := h
    refine ⟨_, pss_one (ps_ret (pe_op op_add_str (pe_op op_add_str (pe_op op_add_str (pe_op op_add_str (pe_op op_add_str (pe_op op_add_str
      (pe_callTy call_str_int (by rfl) T.str (by decide +kernel) (pa_cons (pe_ix ix_tup (pv 0) pe_int (fun _ _ => rfl)) pa_nil)) pe_str)
      (pe_callTy call_str_int (by rfl) T.str (by decide +kernel) (pa_cons (pe_ix ix_tup (pv 0) pe_int (fun _ _ => rfl)) pa_nil))) pe_str)
      (pe_ix ix_tup (pv 0) pe_int (fun _ _ => rfl))) pe_str)
      (pe_orT (pe_ix ix_tup (pv 0) pe_int (fun _ _ => rfl)) (pe_one pe_str)))), ?_⟩
    have l1 : (dg s0).length ≤ 60 := dg_len (by decide) hs
    have l2 : (dg v).length ≤ 60 := dg_len (by decide) hv
    have l3 : (shown wd).length ≤ 12 := by
      unfold shown
      split
      · decide
      · exact hw
    refine ⟨_, rfl, t, _, 0, _, rfl, rfl, SqT.of ht, rfl, _, rfl, log60 hs, ?_⟩
    rw [toStr, blank_S]
    refine ⟨_, _, rfl, rfl, by rw [SX.S_len, SX.S_len, sizeLine_eq]; simp; omega, ?_⟩
    rw [SX.S_cat]
    refine ⟨_, rfl, t, _, 1, _, rfl, rfl, SqT.of ht, rfl, _, rfl, log60 hv, ?_⟩
    rw [toStr]
    refine ⟨_, _, rfl, rfl, by rw [SX.S_len, SX.S_len, sizeLine_eq]; simp; omega, ?_⟩
    rw [SX.S_cat]
    refine ⟨_, _, rfl, rfl, by rw [SX.S_len, SX.S_len, sizeLine_eq]; simp; omega, ?_⟩
    rw [SX.S_cat]
    refine ⟨_, rfl, t, _, 2, _, rfl, rfl, SqT.of ht, rfl, ?_⟩
    refine ⟨_, _, rfl, rfl, by rw [SX.S_len, SX.S_len, sizeLine_eq]; simp; omega, ?_⟩
    rw [SX.S_cat]
    refine ⟨_, _, rfl, rfl, by rw [SX.S_len, SX.S_len, sizeLine_eq]; simp; omega, ?_⟩
    rw [SX.S_cat]
    refine ⟨_, rfl, t, _, 3, _, rfl, rfl, SqT.of ht, rfl, _, ⟨by rw [SX.S_len, sizeLine_eq]; omega, rfl⟩, ?_⟩
    have key : ∀ x, x = shown wd → Q (.str (S (dg s0 ++ [32] ++ dg v ++ [32] ++ m ++ [32]) ++ S x)) H := by
      intro x hx
      subst hx
      rw [SX.S_cat]
      have e : dg s0 ++ [32] ++ dg v ++ [32] ++ m ++ [32] ++ shown wd = sayB s0 v m wd := by
        unfold sayB
        simp
      rw [e]
      exact q
    rw [SX.S_len]
    by_cases hw0 : wd = []
    · refine ifF (by rw [hw0]; rfl) ?_
      refine ⟨_, _, rfl, rfl, ?_, ?_⟩
      · rw [dash_S, SX.S_len, SX.S_len, sizeLine_eq]
        simp
        omega
      · rw [dash_S]
        exact key [45] (by unfold shown; rw [if_pos hw0])
    · refine ifT (by
        have : wd.length ≠ 0 := fun z => hw0 (List.length_eq_zero_iff.mp z)
        simpa using this) ?_
      refine ⟨_, _, rfl, rfl, ?_, ?_⟩
      · rw [SX.S_len, SX.S_len, sizeLine_eq]
        simp
        omega
      · exact key wd (by unfold shown; rw [if_neg hw0])

/-! ### _law_line -/
abbrev sLLn : Stmt := top 44
def spLLn : Sp := fun vs H Q _ => ∃ (b : List Nat), vs = [.str (S b)] ∧ b.length ≤ 1000000 ∧ cods b ∧ Q (.str (S (dline b))) H
theorem sc_lln : FnScope ["_law_body", "_law_total", "_law_k", "_law_digits"] ["_law_body"] (defScope sLLn) := ⟨rfl, rfl, rfl, by decide +kernel, rfl, by decide +kernel, by decide +kernel⟩
theorem cut4 (l : List Nat) : cutS (S l) (some (-4)) none = S (l.drop (l.length - 4)) := by
  unfold cutS
  show S ((l.drop (if (-4 : Int) < 0 then ((-4 : Int) + ((S l).length : Int)).toNat else min (-4 : Int).toNat (S l).length)).take ((S l).length - (if (-4 : Int) < 0 then ((-4 : Int) + ((S l).length : Int)).toNat else min (-4 : Int).toNat (S l).length))) = _
  rw [if_pos (by decide), SX.S_len]
  have e : ((-4 : Int) + (l.length : Int)).toNat = l.length - 4 := by omega
  rw [e, List.take_of_length_le (by rw [List.length_drop] <;> omega)]
theorem zeros_S : ("000" : Str) = S [48, 48, 48] := by decide +kernel
theorem wsum_step {b : List Nat} {i c : Nat} (h : b[i]? = some c) : wsum 0 (b.take (i + 1)) = wsum 0 (b.take i) + (i + 1) * c := by
  have hi : i < b.length := by
    obtain ⟨h1, _⟩ := List.getElem?_eq_some_iff.mp h
    exact h1
  rw [take_at h, wsum_app, List.length_take, Nat.min_eq_left (by omega)]
  show wsum 0 (b.take i) + ((0 + i + 1) * c + 0) = _
  rw [Nat.zero_add, Nat.add_zero]
theorem ok_lln (D : Dk K mg "_law_line" sLLn) (T : Txt P K mg) : Df P w K mg base 1 "_law_line" spLLn := by
  refine df_of D sc_lln (fun _ _ _ _ _ _ us hl => match us, hl with | [_], _ => rfl) (fun vs H Q E h => ?_) (fun f cdv A outer s H vs Q E hr h => ?_)
  · obtain ⟨v, rfl, _⟩ := h
    rfl
  · obtain ⟨b, rfl, hz, hcod, q⟩ := h
    have hlen : (S b).length ≤ sizeLine := by rw [SX.S_len, sizeLine_eq]; omega
    refine ⟨_, pss_cons (ps_set (i := 1) sc_lln.nd rfl (Or.inl rfl) pe_int)
      (pss_cons (ps_for PassesOwn.never rfl (pi_range1 (by rfl) T.range (pa_cons (pe_callB call_len_str (by rfl) T.len PySem.boot_len (pa_cons (pv 0) pa_nil)) pa_nil)) (pg_name (i := 2) sc_lln.nd rfl (Or.inl rfl))
        (pss_one (ps_set (i := 1) sc_lln.nd rfl (Or.inl rfl) (pe_op op_add (pv 1) (pe_op op_mul (pe_op op_add (pv 2) pe_int) (pe_callB call_ord (by rfl) T.ord (by decide +kernel) (pa_cons (pe_ix ix_str (pv 0) (pv 2) (fun _ _ => rfl)) pa_nil)))))))
      (pss_cons (ps_set (i := 3) sc_lln.nd rfl (Or.inl rfl) (pe_op op_add_str pe_str (pe_callTy call_str_int (by rfl) T.str (by decide +kernel) (pa_cons (pe_op op_mod (pe_callTy call_int1 (by rfl) T.int (by decide +kernel) (pa_cons (pv 1) pa_nil)) pe_int) pa_nil))))
      (pss_one (ps_ret (pe_op op_add_str (pe_op op_add_str (pe_op op_add_str (pv 0) pe_str) (pe_slice sl_str (pv 3) (po_some (pe_un un_neg pe_int)) po_none)) pe_str))))), ?_⟩
    refine ⟨_, rfl, _, rfl, hlen, _, rfl, by omega, by rw [SX.S_len]; omega, ?_⟩
    rw [SX.S_len, Int.toNat_natCast]
    refine for_range (g := gName 2) (fun i σ' H' => ∃ u, σ' = [some (.str (S b)), some (.int ((wsum 0 (b.take i) : Nat) : Int)), u, none] ∧ H' = H) ⟨none, rfl, rfl⟩ (fun i σ' H' hi pv' => ?_) (fun σ' H' pv' => ?_)
    · obtain ⟨u, rfl, rfl⟩ := pv'
      have hat : b[i]? = some b[i] := List.getElem?_eq_getElem hi
      have hc : b[i] < 1114112 := hcod _ (List.getElem_mem hi)
      generalize b[i] = c at hat hc
      refine ⟨_, rfl, _, rfl, _, _, rfl, rfl, _, rfl, _, rfl, S b, _, c, rfl, rfl, hlen, ?_, ⟨#[c]⟩, rfl, rfl, _, _, rfl, rfl, .inr ⟨?_, ?_⟩, ?_⟩
      · rw [Int.zero_add]
        exact atI_nat hat
      · show -(2 ^ 64) < ((c : Nat) : Int)
        omega
      · show ((c : Nat) : Int) < 2 ^ 64
        omega
      · refine ⟨_, _, rfl, rfl, some (.int (0 + (i : Int))), ?_, rfl⟩
        rw [wsum_step hat]
        have e : ((wsum 0 (b.take i) : Nat) : Int) + ((0 + (i : Int)) + 1) * (c : Int) = ((wsum 0 (b.take i) + (i + 1) * c : Nat) : Int) := by
          rw [Int.zero_add, Int.natCast_add, Int.natCast_mul]
          rfl
        rw [← e]
        rfl
    · obtain ⟨u, rfl, rfl⟩ := pv'
      rw [List.take_length]
      have hck : chk b < 10000 := Nat.lt_trans (chk_lt b) (by decide)
      refine ⟨_, rfl, .inl ⟨_, rfl, _, _, rfl, rfl, (by show (0 : Int) < 9973; decide), _, rfl, ?_, ?_⟩⟩
      · show (((wsum 0 b : Nat) : Int) % 9973).natAbs.log2 < 1920
        have : (((wsum 0 b : Nat) : Int) % 9973).natAbs < 2 ^ 20 := by omega
        exact Nat.lt_trans (PySem.Flt.log2_lt_of (by decide) this) (by decide)
      · have e1 : Str.ofString (toString (((wsum 0 b : Nat) : Int) % 9973)) = S (dg (chk b)) := toStr (chk b)
        have hdl : (dg (chk b)).length ≤ 4 := dg_len (by decide) hck
        refine ⟨"000", _, rfl, rfl, ?_, ?_⟩
        · rw [zeros_S]
          show (S [48, 48, 48]).length + (Str.ofString (toString (((wsum 0 b : Nat) : Int) % 9973))).length ≤ _
          rw [e1, SX.S_len, SX.S_len, sizeLine_eq]
          simp
          omega
        · rw [e1, zeros_S, SX.S_cat]
          refine ⟨_, rfl, _, _, rfl, rfl, ?_, _, rfl, 4, rfl, _, rfl, S ([48, 48, 48] ++ dg (chk b)), rfl, ?_, ?_⟩
          · rw [blank_S, SX.S_len, SX.S_len, sizeLine_eq]
            simp
            omega
          · rw [SX.S_len, sizeLine_eq]
            simp
            omega
          · rw [cut4, tail_dg hck]
            refine ⟨_, _, rfl, rfl, ?_, _, _, rfl, rfl, ?_, ?_⟩
            · rw [blank_S, SX.S_cat, SX.S_len, SX.S_len, sizeLine_eq]
              simp [pad4_len]
              omega
            · rw [blank_S, nl_S, SX.S_cat, SX.S_cat, SX.S_len, SX.S_len, sizeLine_eq]
              simp [pad4_len]
              omega
            · show Q (.str (((S b ++ " ") ++ S (pad4 (chk b))) ++ "\n")) H'
              rw [blank_S, nl_S, SX.S_cat, SX.S_cat, SX.S_cat]
              have e2 : ((b ++ [32]) ++ pad4 (chk b)) ++ [10] = dline b := by
                unfold dline gline
                simp
              rw [e2]
              exact q
end
end K35


/-! lines, areas -/
namespace K35
open PySem PySem.Spec PyProof.Rows L2
open SX (S)
theorem cods_of {b : List Nat} (h : ∀ c ∈ b, c < 128) : cods b := fun c hc => Nat.lt_trans (h c hc) (by decide)
theorem mark_len : ∀ m ∈ marks, m.length ≤ 10 := by decide +kernel
theorem dline_rb {b : List Nat} (h : RB b) : (dline b).length ≤ 130 ∧ ∀ c ∈ dline b, c < 128 := by
  refine ⟨by rw [dline_len]; have := h.len; omega, fun c hc => ?_⟩
  unfold dline gline at hc
  rcases List.mem_append.mp hc with hc | hc
  · rcases List.mem_append.mp hc with hc | hc
    · exact h.cod c hc
    · rcases List.mem_cons.mp hc with hc | hc
      · rw [hc]; decide
      · have := pad4_no (chk_lt b) hc
        omega
  · rw [List.mem_singleton.mp hc]; decide
section
variable {P : Program} {w : World} {K : PySem.W.Frag} {mg : Str → Option Value} {base : Heap} {CS CI fI : Addr}
/-! ### _law_lines -/
abbrev sLLs : Stmt := top 45
abbrev ln_ (bs : List (List Nat)) : List V := bs.map fun b => V.str (S (dline b))
theorem ln_add (a b : List (List Nat)) : ln_ (a ++ b) = ln_ a ++ ln_ b := List.map_append
def spLLs : Sp := fun vs H Q _ => ∃ (p c : Addr) (N many : Nat), vs = [.ref p, .int N, .int many] ∧ 2 ≤ N ∧ N ≤ 256 ∧ many ≤ 1000 ∧ Purse H p c ∧
  ∀ (r : Addr) (bs : List (List Nat)) (H' : Hp), bs.length = many → (∀ b ∈ bs, SayB N b) → But p H H' → Purse H' p c → H' r = some (.lst (ln_ bs)) → H r = none → Q (.ref r) H'
abbrev nLLs : List Str := ["_law_purse_here", "_law_ring_here", "_law_many", "_law_k"]
theorem sc_lls : FnScope nLLs ["_law_purse_here", "_law_ring_here", "_law_many"] (defScope sLLs) := ⟨rfl, rfl, rfl, by decide +kernel, rfl, by decide +kernel, by decide +kernel⟩
theorem ok_lls (D : Dk K mg "_law_lines" sLLs) (T : Txt P K mg) (d1 : Df P w K mg base 4 "_law_saying" spLS) (d2 : Df P w K mg base 1 "_law_words" spLWd) (d3 : Df P w K mg base 1 "_law_line" spLLn) : Df P w K mg base 5 "_law_lines" spLLs := by
  refine df_of D sc_lls (fun _ _ _ _ _ _ us hl => match us, hl with | [_, _, _], _ => rfl) (fun vs H Q E h => ?_) (fun f cdv A outer s H vs Q E hr h => ?_)
  · obtain ⟨v, _, _, _, rfl, _⟩ := h
    rfl
  · obtain ⟨p, c, N, many, rfl, hN2, hN, hm, hP, q⟩ := h
    refine ⟨_, pss_one (ps_ret (pe_lc (own := [("_law_k", 3)]) (g := gName 3) (tt := tYes) rfl sc_lls.nd (pi_range1 (by rfl) T.range (pa_cons (pv 2) pa_nil)) (blkOk_by (own := [("_law_k", 3)]) (N := nLLs) (sc := defScope sLLs) (by decide +kernel))
        (fun _ _ _ _ _ => pg_name (i := 3) sc_lls.nd rfl (Or.inl rfl)) (fun _ _ _ _ _ => pts_nil)
        (fun _ _ _ _ _ => pe_d d3 hr (by decide) (by rfl) (pa_cons (pe_d d2 hr (by decide) (by rfl) (pa_cons (pe_d d1 hr (by decide) (by rfl) (pa_cons (pv 0) (pa_cons (pv 1) pa_nil))) pa_nil)) pa_nil)))), ?_⟩
    refine ⟨_, rfl, many, rfl, by omega, by omega, fun Dd hD => ?_⟩
    have hDp : Dd ≠ p := hP.ne hD
    have hDc : Dd ≠ c := hP.nec hD
    rw [Int.toNat_natCast]
    refine lc_gen (n := many) (fun i H' => But p H H' ∧ Purse H' p c ∧ ∃ bs : List (List Nat), H' Dd = some (.lst (ln_ bs)) ∧ bs.length = i ∧ ∀ b ∈ bs, SayB N b) ⟨Same.but (same_new hD), hP.keep (same_new hD), [], upd_same, rfl, by simp⟩ (fun i H' hi _ => hi) (fun H' _ => Nat.le_refl _) (fun i x H' H'' hi pv' y => ?_) (fun H' pv' => ?_)
    · obtain ⟨e, ex⟩ := y
      subst e ex
      obtain ⟨s2, P2, bs, h1, h2, h3⟩ := pv'
      refine ⟨rfl, _, rfl, _, rfl, p, c, N, rfl, hN2, hN, P2, fun t s0 v m wd H3 hs hv hmk hw1 hw2 s3 P3 ht3 => ?_⟩
      have hN60 : (256 : Nat) ≤ 10 ^ 60 := by decide +kernel
      have hsb : SayB N (sayB s0 v m wd) := ⟨s0, v, m, wd, rfl, hs, hv, hmk, hw1, hw2⟩
      have hrb := say_rb (seats := N) (by omega) hsb
      refine ⟨t, s0, v, m, wd, rfl, ht3, by omega, hv, mark_len m hmk, hw1, ?_⟩
      refine ⟨_, rfl, by have := hrb.len; omega, cods_of hrb.cod, ?_⟩
      refine ⟨_, s3 _ _ hDp h1, ?_, (s2.trans s3).upd hD, P3.upd hDp hDc, bs ++ [sayB s0 v m wd], ?_, ?_, ?_⟩
      · rw [List.length_map, h2, sizeLine_eq]
        omega
      · rw [upd_same, ln_add]
        rfl
      · rw [List.length_append, h2]
        rfl
      · intro b hb
        rcases List.mem_append.mp hb with hb | hb
        · exact h3 b hb
        · rw [List.mem_singleton.mp hb]
          exact hsb
    · obtain ⟨s2, P2, bs, h1, h2, h3⟩ := pv'
      exact q Dd bs H' h2 h3 s2 P2 h1 hD

theorem rep_ln (n : Nat) (l : List (List Nat)) : ln_ (List.replicate n l).flatten = (List.replicate n (ln_ l)).flatten := by
  induction n with
  | zero => rfl
  | succ n ih => rw [List.replicate_succ, List.flatten_cons, ln_add, ih, List.replicate_succ, List.flatten_cons]
theorem area1_S : ("area " : Str) = S (areaW ++ [32]) := by decide +kernel
theorem end1_S : ("end " : Str) = S (endW ++ [32]) := by decide +kernel
/-! ### _law_area -/
abbrev sLA : Stmt := top 46
def LinesOk (L : List (List Nat)) : Prop := L.length ≤ 200 ∧ ∀ l ∈ L, l.length ≤ 130 ∧ ∀ c ∈ l, c < 128
def spLA : Sp := fun vs H Q _ => ∃ (p c : Addr) (N : Nat), vs = [.ref p, .int N] ∧ 2 ≤ N ∧ N ≤ 256 ∧ Purse H p c ∧
  ∀ (t r : Addr) (L : List (List Nat)) (n : Nat) (H' : Hp), ArOk N L n → LinesOk L → But p H H' → Purse H' p c → H' t = some (.tup [.ref r, .int n]) → H' r = some (.lst (vs_ L)) → H r = none → Q (.ref t) H'
abbrev nLA : List Str := ["_law_purse_here", "_law_ring_here", "_law_many", "_law_size", "_law_lines_here"]
theorem sc_la : FnScope nLA ["_law_purse_here", "_law_ring_here"] (defScope sLA) := ⟨rfl, rfl, rfl, by decide +kernel, rfl, by decide +kernel, by decide +kernel⟩
theorem ok_la (D : Dk K mg "_law_area" sLA) (T : Txt P K mg) (d1 : Df P w K mg base 2 "_law_draw" spDraw) (d2 : Df P w K mg base 3 "_law_generation" spLG) (d3 : Df P w K mg base 1 "_law_line" spLLn) (d4 : Df P w K mg base 5 "_law_lines" spLLs) : Df P w K mg base 6 "_law_area" spLA := by
  refine df_of D sc_la (fun _ _ _ _ _ _ us hl => match us, hl with | [_, _], _ => rfl) (fun vs H Q E h => ?_) (fun f cdv A outer s H vs Q E hr h => ?_)
  · obtain ⟨v, _, _, rfl, _⟩ := h
    rfl
  · obtain ⟨p, c, N, rfl, hN2, hN, hP, q⟩ := h
    refine ⟨_, pss_cons (ps_if (pt_cmpR op_eq (pe_d d1 hr (by decide) (by rfl) (pa_cons (pv 0) (pa_cons pe_int pa_nil))) pe_int (nomark _)) (pss_one (ps_ret (pe_tup (pa_cons (pe_lst pa_nil) (pa_cons pe_int pa_nil))))) pss_nil)
      (pss_cons (ps_set (i := 2) sc_la.nd rfl (Or.inl rfl) (pe_d d1 hr (by decide) (by rfl) (pa_cons (pv 0) (pa_cons pe_int pa_nil))))
      (pss_cons (ps_set (i := 3) sc_la.nd rfl (Or.inl rfl) (pe_d d1 hr (by decide) (by rfl) (pa_cons (pv 0) (pa_cons pe_int pa_nil))))
      (Evl.pss_cut (ps_if (PW.pt (pw_or (pt_cmpR op_eq (pv 3) pe_int (nomark _)) (pw_or1 (pt_cmpR op_eq (pv 3) pe_int (nomark _))))) (pss_one (ps_set (i := 2) sc_la.nd rfl (Or.inl rfl) (pe_op op_add pe_int (pv 2)))) pss_nil)
      (pss_cons (ps_set (i := 4) sc_la.nd rfl (Or.inl rfl) (pe_lst (pa_cons (pe_d d3 hr (by decide) (by rfl) (pa_cons (pe_op op_add_str pe_str (pe_callTy call_str_int (by rfl) T.str (by decide +kernel) (pa_cons (pe_d d2 hr (by decide) (by rfl) (pa_cons (pv 0) pa_nil)) pa_nil))) pa_nil)) pa_nil)))
      (pss_cons (ps_expr (pe_bm PySem.F.plainAttrs_list PySem.F.slot_list_extend PySem.F.type_list_extend mt_extend (pv 4) (pa_cons (pe_d d4 hr (by decide) (by rfl) (pa_cons (pv 0) (pa_cons (pv 1) (pa_cons (pv 2) pa_nil)))) pa_nil)))
      (Evl.pss_cut (ps_if (pt_cmpR op_eq (pv 3) pe_int (nomark _))
        (pss_cons (ps_expr (pe_bm PySem.F.plainAttrs_list PySem.F.slot_list_extend PySem.F.type_list_extend mt_extend (pv 4) (pa_cons (pe_op op_rep (pe_d d4 hr (by decide) (by rfl) (pa_cons (pv 0) (pa_cons (pv 1) (pa_cons pe_int pa_nil)))) pe_int) pa_nil)))
        (pss_one (ps_set (i := 2) sc_la.nd rfl (Or.inl rfl) (pe_op op_add (pv 2) pe_int)))) pss_nil)
      (pss_cons (ps_expr (pe_bm PySem.F.plainAttrs_list PySem.F.slot_list_append PySem.F.type_list_append mt_append (pv 4) (pa_cons (pe_d d3 hr (by decide) (by rfl) (pa_cons (pe_op op_add_str pe_str (pe_callTy call_str_int (by rfl) T.str (by decide +kernel) (pa_cons (pv 2) pa_nil))) pa_nil)) pa_nil)))
      (pss_cons (ps_expr (pe_bm PySem.F.plainAttrs_list PySem.F.slot_list_extend PySem.F.type_list_extend mt_extend (pv 4) (pa_cons (pe_d d4 hr (by decide) (by rfl) (pa_cons (pv 0) (pa_cons (pv 1) (pa_cons (pe_d d1 hr (by decide) (by rfl) (pa_cons (pv 0) (pa_cons pe_int pa_nil))) pa_nil)))) pa_nil)))
      (pss_one (ps_ret (pe_tup (pa_cons (pv 4) (pa_cons (pe_op op_add (pv 2) pe_int) pa_nil))))))))))))), ?_⟩
    refine ⟨_, rfl, p, c, 5, rfl, by decide, hP, fun w0 H1 _ s1 P1 => ⟨rfl, _, rfl, ?_⟩⟩
    refine ifE ?_ ?_
    · refine ⟨by show 0 ≤ sizeLine; decide, fun r hr1 => ⟨by show 2 ≤ sizeLine; decide, fun t ht => ?_⟩⟩
      have n1 : t ≠ r := fun z => by rw [z, upd_same] at ht; cases ht
      refine q t r [] 2 _ (.inl ⟨rfl, rfl⟩) ⟨by decide, by simp⟩ ((s1.trans (Same.but (same_new hr1))).trans (Same.but (same_new ht))) ((P1.keep (same_new hr1)).keep (same_new ht)) upd_same ?_ (s1.none hr1 (P1.ne hr1))
      rw [upd_ne (Ne.symm n1), upd_same]
      rfl
    refine ⟨_, rfl, p, c, 4, rfl, by decide, P1, fun many H2 hmany s2 P2 => ?_⟩
    refine ⟨_, rfl, p, c, 9, rfl, by decide, P2, fun size H3 _ s3 P3 => ?_⟩
    have s13 := (s1.trans s2).trans s3
    have hm4 : many ≤ 3 := by omega
    refine ⟨fun σ' H' => ∃ many : Nat, σ' = [some (.ref p), some (.int N), some (.int many), some (.int size), none] ∧ many ≤ 12 ∧ But p H H' ∧ Purse H' p c, ?_, ?_⟩
    · have up : tAsg (tOp (rI0 fun i j => V.int (i + j)) (tC (V.int 9)) (tVar 2)) (gName 2) { nx := fun σ' H' => ∃ many : Nat, σ' = [some (.ref p), some (.int N), some (.int many), some (.int size), none] ∧ many ≤ 12 ∧ But p H H' ∧ Purse H' p c, rt := Q }
          [some (.ref p), some (.int N), some (.int many), some (.int size), none] H3 := by
        refine ⟨_, rfl, _, _, rfl, rfl, 9 + many, ?_, by omega, s13, P3⟩
        have e : (9 : Int) + (many : Int) = ((9 + many : Nat) : Int) := by omega
        rw [← e]
        rfl
      refine ⟨_, rfl, rfl, _, rfl, ?_⟩
      refine ifE ?_ ?_
      · exact up
      · refine ⟨_, rfl, rfl, _, rfl, ?_⟩
        refine ifE ?_ ?_
        · exact up
        · exact ⟨many, rfl, by omega, s13, P3⟩
    clear hm4 s13 hmany s1 P1 s2 P2 s3 P3
    rintro σ' H4 ⟨many, rfl, hm12, s4, P4⟩
    refine ⟨_, rfl, p, c, rfl, P4, fun g H5 hg s5 P5 => ⟨_, rfl, ?_, ?_⟩⟩
    · exact log60 (Nat.lt_trans hg (by decide +kernel))
    rw [toStr, area1_S]
    have hgl : (dg g).length ≤ 9 := dg_len (by decide) hg
    have hrA := area_rb hg
    refine ⟨_, _, rfl, rfl, by rw [SX.S_len, SX.S_len, sizeLine_eq]; simp [areaW]; omega, ?_⟩
    rw [SX.S_cat, show (areaW ++ [32]) ++ dg g = areaB g by unfold areaB; simp]
    refine ⟨areaB g, rfl, by have := hrA.len; omega, cods_of hrA.cod, by show 1 ≤ sizeLine; decide, fun r hr1 => ?_⟩
    have hrp : r ≠ p := P5.ne hr1
    have hrc : r ≠ c := P5.nec hr1
    have s15 := s4.trans s5
    have hrH : H r = none := s15.none hr1 hrp
    have s6 := s15.trans (Same.but (same_new (o := .lst [.str (S (dline (areaB g)))]) hr1))
    have P6 := P5.keep (same_new (o := .lst [.str (S (dline (areaB g)))]) hr1)
    have h6 : upd H5 r (.lst [.str (S (dline (areaB g)))]) r = some (.lst (ln_ [areaB g])) := upd_same
    generalize upd H5 r (.lst [.str (S (dline (areaB g)))]) = H6 at s6 P6 h6 ⊢
    refine ⟨_, rfl, .inl ⟨rfl, _, SqL.of h6⟩, _, rfl, _, rfl, _, rfl, p, c, N, many, rfl, hN2, hN, by omega, P6, fun r1 sn H7 hsl hsb s7 P7 hr7 hn7 => ?_⟩
    have h7 := s7 _ _ hrp h6
    refine ⟨r, r1, _, _, rfl, rfl, h7, hr7, ?_, ?_⟩
    · rw [List.length_map, List.length_map, hsl, sizeLine_eq]
      simp
      omega
    refine ⟨fun σ' H' => ∃ sn : List (List Nat), σ' = [some (.ref p), some (.int N), some (.int (sn.length : Nat)), some (.int size), some (.ref r)] ∧ sn.length ≤ 110 ∧ (∀ b ∈ sn, SayB N b) ∧ But p H H' ∧ Purse H' p c ∧ H' r = some (.lst (ln_ (areaB g :: sn))), ?_, ?_⟩
    · have s8 : But p H (upd H7 r (.lst (ln_ [areaB g] ++ ln_ sn))) := (s6.trans s7).upd hrH
      have P8 : Purse (upd H7 r (.lst (ln_ [areaB g] ++ ln_ sn))) p c := P7.upd hrp hrc
      have h8 : upd H7 r (.lst (ln_ [areaB g] ++ ln_ sn)) r = some (.lst (ln_ (areaB g :: sn))) := upd_same
      generalize upd H7 r (.lst (ln_ [areaB g] ++ ln_ sn)) = H8 at s8 P8 h8 ⊢
      refine ⟨_, rfl, rfl, _, rfl, ?_⟩
      refine ifE ?_ ?_
      · refine ⟨_, rfl, .inl ⟨rfl, _, SqL.of h8⟩, _, rfl, _, rfl, p, c, N, 1, rfl, hN2, hN, by omega, P8, fun r2 s1' H9 hl9 hb9 s9 P9 hr9 hn9 => ?_⟩
        refine ⟨r2, 97, _, rfl, rfl, hr9, by decide, by decide, ?_, fun r3 hr3 => ?_⟩
        · rw [List.length_map, hl9, sizeLine_eq]
          decide
        · have e97 : (List.replicate (97 : Int).toNat (ln_ s1')).flatten = ln_ (List.replicate 97 s1').flatten := by
            show (List.replicate 97 (ln_ s1')).flatten = _
            rw [← rep_ln]
          rw [e97]
          have h9 := s9 _ _ hrp h8
          have h10 := same_new (o := .lst (ln_ (List.replicate 97 s1').flatten)) hr3 _ _ h9
          have hfl : (List.replicate 97 s1').flatten.length = 97 := by
            rw [List.length_flatten, List.map_replicate, hl9]
            rfl
          refine ⟨r, r3, _, _, rfl, rfl, h10, upd_same, ?_, ?_⟩
          · rw [List.length_map, List.length_map, hfl, List.length_cons, sizeLine_eq]
            omega
          · refine ⟨_, rfl, _, _, rfl, rfl, sn ++ (List.replicate 97 s1').flatten, ?_, ?_, ?_, ?_, ?_, ?_⟩
            · rw [List.length_append, hfl, hsl]
              have e : ((many + 97 : Nat) : Int) = (many : Int) + 97 := by omega
              rw [e]
              rfl
            · rw [List.length_append, hfl]
              omega
            · intro b hb
              rcases List.mem_append.mp hb with hb | hb
              · exact hsb b hb
              · obtain ⟨l, hl1, hl2⟩ := List.mem_flatten.mp hb
                rw [List.eq_of_mem_replicate hl1] at hl2
                exact hb9 b hl2
            · exact ((s8.trans s9).trans (Same.but (same_new hr3))).upd hrH
            · exact (P9.keep (same_new hr3)).upd hrp hrc
            · rw [upd_same, ← ln_add]
              rfl
      · exact ⟨sn, by rw [hsl]; rfl, by omega, hsb, s8, P8, h8⟩
    · clear hsl hsb s7 P7 hr7 hn7 h7 s6 P6 h6
      rintro σ' H9 ⟨sn, rfl, hsl, hsb, s9, P9, h9⟩
      refine ⟨_, rfl, .inl ⟨rfl, _, SqL.of h9⟩, _, rfl, _, rfl, ?_, ?_⟩
      · exact log60 (Nat.lt_of_le_of_lt hsl (by decide +kernel))
      rw [toStr, end1_S]
      have hsn9 : sn.length < 10 ^ 9 := by omega
      have hel : (dg sn.length).length ≤ 9 := dg_len (by decide) hsn9
      have hrE := end_rb hsn9
      refine ⟨_, _, rfl, rfl, by rw [SX.S_len, SX.S_len, sizeLine_eq]; simp [endW]; omega, ?_⟩
      rw [SX.S_cat, show (endW ++ [32]) ++ dg sn.length = endB sn.length by unfold endB; simp]
      refine ⟨endB sn.length, rfl, by have := hrE.len; omega, cods_of hrE.cod, r, _, _, rfl, rfl, h9, ?_, ?_⟩
      · rw [List.length_map, List.length_cons, sizeLine_eq]
        omega
      have s10 : But p H (upd H9 r (.lst (ln_ (areaB g :: sn) ++ [.str (S (dline (endB sn.length)))]))) := s9.upd hrH
      have P10 : Purse (upd H9 r (.lst (ln_ (areaB g :: sn) ++ [.str (S (dline (endB sn.length)))]))) p c := P9.upd hrp hrc
      have h10 : upd H9 r (.lst (ln_ (areaB g :: sn) ++ [.str (S (dline (endB sn.length)))])) r = some (.lst (ln_ ((areaB g :: sn) ++ [endB sn.length]))) := by
        rw [upd_same, ln_add]
        rfl
      generalize upd H9 r (.lst (ln_ (areaB g :: sn) ++ [.str (S (dline (endB sn.length)))])) = H10 at s10 P10 h10 ⊢
      refine ⟨_, rfl, .inl ⟨rfl, _, SqL.of h10⟩, _, rfl, _, rfl, _, rfl, p, c, 5, rfl, by decide, P10, fun k H11 hk s11 P11 => ?_⟩
      have hk5 : k < 5 := by omega
      have h11 := s11 _ _ hrp h10
      refine ⟨p, c, N, k, rfl, hN2, hN, by omega, P11, fun r2 lg H12 hll hlb s12 P12 hr12 hn12 => ?_⟩
      have h12 := s12 _ _ hrp h11
      refine ⟨r, r2, _, _, rfl, rfl, h12, hr12, ?_, ?_⟩
      · rw [List.length_map, List.length_map, hll, List.length_append, List.length_cons, sizeLine_eq]
        simp
        omega
      have s13 : But p H (upd H12 r (.lst (ln_ ((areaB g :: sn) ++ [endB sn.length]) ++ ln_ lg))) := ((s10.trans s11).trans s12).upd hrH
      have P13 : Purse (upd H12 r (.lst (ln_ ((areaB g :: sn) ++ [endB sn.length]) ++ ln_ lg))) p c := P12.upd hrp hrc
      have eL : ln_ ((areaB g :: sn) ++ [endB sn.length]) ++ ln_ lg = vs_ ((areaB g :: (sn ++ endB sn.length :: lg)).map dline) := by
        rw [← ln_add]
        unfold ln_ vs_
        rw [List.map_map]
        simp [Function.comp_def]
      have h13 : upd H12 r (.lst (ln_ ((areaB g :: sn) ++ [endB sn.length]) ++ ln_ lg)) r = some (.lst (vs_ ((areaB g :: (sn ++ endB sn.length :: lg)).map dline))) := by
        rw [upd_same, eL]
      generalize upd H12 r (.lst (ln_ ((areaB g :: sn) ++ [endB sn.length]) ++ ln_ lg)) = H13 at s13 P13 h13 ⊢
      refine ⟨_, rfl, _, rfl, _, _, rfl, rfl, by show 2 ≤ sizeLine; decide, fun t ht => ?_⟩
      refine q t r _ (sn.length + 2) _ (.inr ⟨g, sn, lg, hg, hsn9, rfl, hsb, hlb, rfl⟩) ⟨?_, ?_⟩ (s13.trans (Same.but (same_new ht))) (P13.keep (same_new ht)) upd_same (same_new ht _ _ h13) hrH
      · rw [List.length_map, List.length_cons, List.length_append, List.length_cons]
        omega
      · intro l hl
        obtain ⟨b, hb, rfl⟩ := List.mem_map.mp hl
        refine dline_rb ?_
        rcases List.mem_cons.mp hb with hb | hb
        · rw [hb]; exact hrA
        · rcases List.mem_append.mp hb with hb | hb
          · exact say_rb (seats := N) (by omega) (hsb b hb)
          · rcases List.mem_cons.mp hb with hb | hb
            · rw [hb]; exact hrE
            · exact say_rb (seats := N) (by omega) (hlb b hb)
end
end K35


/-! whole, place, changed, longer -/
namespace K35
open PySem PySem.Spec PyProof.Rows L2
open SX (S)
theorem flat_le : ∀ (L : List (List Nat)) (n : Nat), (∀ l ∈ L, l.length ≤ n) → L.flatten.length ≤ L.length * n
  | [], _, _ => by simp
  | l :: L, n, h => by
    have h1 := h l (List.mem_cons_self ..)
    have h2 := flat_le L n fun x hx => h x (List.mem_cons_of_mem _ hx)
    rw [List.flatten_cons, List.length_append, List.length_cons, Nat.succ_mul]
    omega
theorem LinesOk.len {L : List (List Nat)} (h : LinesOk L) : L.flatten.length ≤ 26000 := by
  have h1 := flat_le L 130 fun l hl => (h.2 l hl).1
  have h2 := h.1
  omega
theorem LinesOk.take {L : List (List Nat)} (h : LinesOk L) (k : Nat) : LinesOk (L.take k) := ⟨by rw [List.length_take]; have := h.1; omega, fun l hl => h.2 l (List.mem_of_mem_take hl)⟩
theorem LinesOk.cod {L : List (List Nat)} (h : LinesOk L) : ∀ c ∈ L.flatten, c < 128 := fun c hc => by
  obtain ⟨l, hl, hcl⟩ := List.mem_flatten.mp hc
  exact (h.2 l hl).2 c hcl
theorem join_all (L : List (List Nat)) : Txt.join (S []) (L.map S) = S L.flatten := by rw [SX.join_S, joinE]
theorem sum_S (L : List (List Nat)) : ((L.map S).map (·.length)).sum = L.flatten.length := by
  induction L with
  | nil => rfl
  | cons l L ih =>
    rw [List.map_cons, List.map_cons, List.sum_cons, ih, SX.S_len, List.flatten_cons, List.length_append]
theorem vs_map (L : List (List Nat)) : vs_ L = (L.map S).map V.str := by rw [List.map_map]; rfl
theorem cutS_to (l : List Nat) (k : Nat) : cutS (S l) none (some (k : Int)) = S (l.take k) := by
  unfold cutS
  rw [HT.sIx_nat, HT.sIx_none, SX.S_len]
  show S ((l.drop 0).take (min k l.length - 0)) = _
  rw [List.drop_zero, Nat.sub_zero]
  by_cases h : k ≤ l.length
  · rw [Nat.min_eq_left h]
  · rw [Nat.min_eq_right (by omega), List.take_length, List.take_of_length_le (by omega)]
theorem cutS_from (l : List Nat) (k : Nat) : cutS (S l) (some (k : Int)) none = S (l.drop k) := by
  unfold cutS
  rw [HT.sIx_nat, HT.sIx_none, SX.S_len]
  show S ((l.drop (min k l.length)).take (l.length - min k l.length)) = _
  by_cases h : k ≤ l.length
  · rw [Nat.min_eq_left h, List.take_of_length_le (by rw [List.length_drop] <;> omega)]
  · rw [Nat.min_eq_right (by omega), List.drop_length, List.drop_eq_nil_of_le (by omega)]
    simp
section
variable {P : Program} {w : World} {K : PySem.W.Frag} {mg : Str → Option Value} {base : Heap} {CS CI fI : Addr}
/-! ### _law_whole -/
abbrev sLH : Stmt := top 47
def spLH : Sp := fun vs H Q _ => ∃ (r : Addr) (z : Nat) (L : List (List Nat)), vs = [.ref r, .int z] ∧ H r = some (.lst (vs_ L)) ∧ LinesOk L ∧ Q (.int (wholeC L 0 z : Nat)) H
abbrev nLH : List Str := ["_law_lines_here", "_law_place_here", "_law_size", "_law_many", "_law_line_here"]
theorem sc_lh : FnScope nLH ["_law_lines_here", "_law_place_here"] (defScope sLH) := ⟨rfl, rfl, rfl, by decide +kernel, rfl, by decide +kernel, by decide +kernel⟩
theorem whole_step (L : List (List Nat)) (i z p : Nat) (h : i < L.length) : wholeC (L.drop i) z p = if z + L[i].length > p then 0 else wholeC (L.drop (i + 1)) (z + L[i].length) p + 1 := by
  rw [List.drop_eq_getElem_cons h, wholeC]
theorem ok_lh (D : Dk K mg "_law_whole" sLH) (T : Txt P K mg) : Df P w K mg base 1 "_law_whole" spLH := by
  refine df_of D sc_lh (fun _ _ _ _ _ _ us hl => match us, hl with | [_, _], _ => rfl) (fun vs H Q E h => ?_) (fun f cdv A outer s H vs Q E hr h => ?_)
  · obtain ⟨v, _, _, rfl, _⟩ := h
    rfl
  · obtain ⟨r, z, L, rfl, hr1, hL, q⟩ := h
    refine ⟨_, pss_cons (ps_set (i := 2) sc_lh.nd rfl (Or.inl rfl) pe_int)
      (pss_cons (ps_set (i := 3) sc_lh.nd rfl (Or.inl rfl) pe_int)
      (pss_cons (ps_for PassesOwn.never rfl (pi_list (pv 0)) (pg_name (i := 4) sc_lh.nd rfl (Or.inl rfl))
        (pss_cons (ps_set (i := 2) sc_lh.nd rfl (Or.inl rfl) (pe_op op_add (pv 2) (pe_callB call_len_str (by rfl) T.len PySem.boot_len (pa_cons (pv 4) pa_nil))))
        (pss_cons (ps_if (pt_cmpR op_gt (pv 2) (pv 1) (nomark _)) (pss_one (ps_ret (pv 3))) pss_nil)
        (pss_one (ps_set (i := 3) sc_lh.nd rfl (Or.inl rfl) (pe_op op_add (pv 3) pe_int))))))
      (pss_one (ps_ret (pv 3))))), ?_⟩
    refine ⟨_, rfl, r, rfl, ⟨_, SqL.of hr1⟩, ?_⟩
    refine for_list (g := gName 4) (xs := vs_ L) (fun i σ' H' => ∃ (u : Option V) (sz : Nat), σ' = [some (.ref r), some (.int z), some (.int sz), some (.int i), u] ∧ H' = H ∧ sz ≤ i * 130 ∧ wholeC L 0 z = i + wholeC (L.drop i) sz z) ⟨none, 0, rfl, rfl, by simp, by simp⟩ (fun i σ' H' _ pv' => ?_) (fun i x σ' H' hx pv' => ?_) (fun σ' H' pv' => ?_)
    · obtain ⟨_, _, _, rfl, _⟩ := pv'
      exact SqL.of hr1
    · obtain ⟨u, sz, rfl, rfl, hsz, hwc⟩ := pv'
      rw [List.getElem?_map] at hx
      cases hLi : L[i]? with
      | none => rw [hLi] at hx; cases hx
      | some b =>
        rw [hLi] at hx
        cases hx
        obtain ⟨hi, hb⟩ := List.getElem?_eq_some_iff.mp hLi
        have hst := whole_step L i sz z hi
        rw [hb] at hst
        have hbl := (hL.2 b (List.mem_of_getElem? hLi)).1
        refine ⟨_, rfl, _, rfl, S b, rfl, by rw [SX.S_len, sizeLine_eq]; omega, _, _, rfl, rfl, ?_⟩
        refine ⟨_, rfl, _, rfl, _, _, rfl, rfl, _, rfl, ?_⟩
        rw [SX.S_len]
        by_cases hc : sz + b.length > z
        · refine ifT (decide_eq_true (by omega)) ?_
          rw [if_pos hc] at hst
          refine ⟨_, rfl, ?_⟩
          rw [hst, Nat.add_zero] at hwc
          rw [hwc] at q
          exact q
        · refine ifF (decide_eq_false (by omega)) ?_
          rw [if_neg hc] at hst
          refine ⟨_, rfl, _, _, rfl, rfl, _, sz + b.length, rfl, rfl, ?_, ?_⟩
          · rw [Nat.succ_mul]
            omega
          · rw [hwc, hst]
            omega
    · obtain ⟨u, sz, rfl, rfl, hsz, hwc⟩ := pv'
      rw [vs_len] at hwc ⊢
      rw [List.drop_length] at hwc
      have e : wholeC [] sz z = 0 := rfl
      rw [e, Nat.add_zero] at hwc
      rw [hwc] at q
      exact ⟨_, rfl, q⟩

/-! ### _law_place -/
abbrev sLP : Stmt := top 48
def spLP : Sp := fun vs H Q _ => ∃ (r p c : Addr) (L : List (List Nat)), vs = [.ref r, .ref p] ∧ H r = some (.lst (vs_ L)) ∧ LinesOk L ∧ r ≠ p ∧ Purse H p c ∧ ∀ (z : Nat) (H' : Hp), z ≤ L.flatten.length → But p H H' → Purse H' p c → Q (.int z) H'
abbrev nLP : List Str := ["_law_lines_here", "_law_purse_here", "_law_size", "_law_border"]
theorem sc_lp : FnScope nLP ["_law_lines_here", "_law_purse_here"] (defScope sLP) := ⟨rfl, rfl, rfl, by decide +kernel, rfl, by decide +kernel, by decide +kernel⟩
theorem ok_lp (D : Dk K mg "_law_place" sLP) (T : Txt P K mg) (d1 : Df P w K mg base 2 "_law_draw" spDraw) : Df P w K mg base 3 "_law_place" spLP := by
  refine df_of D sc_lp (fun _ _ _ _ _ _ us hl => match us, hl with | [_, _], _ => rfl) (fun vs H Q E h => ?_) (fun f cdv A outer s H vs Q E hr h => ?_)
  · obtain ⟨v, _, _, _, rfl, _⟩ := h
    rfl
  · obtain ⟨r, p, c, L, rfl, hr1, hL, hrp, hP, q⟩ := h
    refine ⟨_, pss_cons (ps_set (i := 2) sc_lp.nd rfl (Or.inl rfl) (pe_callB call_len_str (by rfl) T.len PySem.boot_len (pa_cons (pe_join pe_str (pv 0)) pa_nil)))
      (pss_cons (ps_if (pt_cmpR op_eq (pe_d d1 hr (by decide) (by rfl) (pa_cons (pv 1) (pa_cons pe_int pa_nil))) pe_int (nomark _))
        (pss_cons (ps_set (i := 3) sc_lp.nd rfl (Or.inl rfl) (pe_callB call_len_str (by rfl) T.len PySem.boot_len (pa_cons (pe_join pe_str (pe_slice sl_list (pv 0) po_none (po_some (pe_d d1 hr (by decide) (by rfl) (pa_cons (pv 1) (pa_cons (pe_op op_add (pe_callB call_len_seq (by rfl) T.len PySem.boot_len (pa_cons (pv 0) pa_nil)) pe_int) pa_nil)))))) pa_nil)))
        (pss_one (ps_ret (pe_callB (call_max2 rfl) (by rfl) T.max (by decide +kernel) (pa_cons pe_int (pa_cons (pe_op op_sub (pv 3) (pe_d d1 hr (by decide) (by rfl) (pa_cons (pv 1) (pa_cons pe_int pa_nil)))) pa_nil)))))) pss_nil)
      (pss_one (ps_ret (pe_d d1 hr (by decide) (by rfl) (pa_cons (pv 1) (pa_cons (pe_op op_add (pv 2) pe_int) pa_nil)))))), ?_⟩
    have hfl := hL.len
    have hll := hL.1
    rw [vs_map] at hr1
    refine ⟨⟨_, rfl⟩, _, rfl, S [], r, L.map S, by rw [← emp_S], rfl, .inl (SqL.of hr1), ?_, S L.flatten, ?_, by rw [SX.S_len, sizeLine_eq]; omega, ?_⟩
    · rw [sum_S]
      have e : (S []).length = 0 := rfl
      rw [e]
      omega
    · rw [join_all]
    rw [SX.S_len]
    refine ⟨_, rfl, p, c, 2, rfl, by decide, hP, fun w0 H1 _ s1 P1 => ⟨rfl, _, rfl, ?_⟩⟩
    have h61 : (100000 : Int) ≤ 10 ^ 61 := by decide
    have hr2 := s1 _ _ hrp hr1
    refine ifE ?_ ?_
    · refine ⟨⟨_, rfl⟩, _, rfl, _, rfl, _, rfl, r, _, rfl, .inl (SqL.of hr2), _, _, rfl, rfl, p, c, _, rfl, ?_, P1, fun k H2 hk s2 P2 => ?_⟩
      · show (((((L.map S).map V.str).length : Nat) : Int) + 1) ≤ 10 ^ 61
        rw [List.length_map, List.length_map]
        omega
      have hr3 := s2 _ _ hrp hr2
      refine ⟨_, rfl, r, _, rfl, SqL.of hr3, fun l hl => ?_⟩
      rw [cut_to]
      have eL : ((L.map S).map V.str).take k = ((L.take k).map S).map V.str := by rw [List.map_take, List.map_take]
      rw [eL]
      have P3 := P2.keep (same_new (o := .lst (((L.take k).map S).map V.str)) hl)
      have hLk := (hL.take k).len
      have hlk : (L.take k).flatten.length ≤ L.flatten.length := by
        rw [← List.take_append_drop k L, List.flatten_append, List.length_append]
        simp
      refine ⟨S [], l, (L.take k).map S, by rw [← emp_S], rfl, .inl (SqL.of upd_same), ?_, S (L.take k).flatten, ?_, by rw [SX.S_len, sizeLine_eq]; omega, ?_⟩
      · rw [sum_S]
        have e : (S []).length = 0 := rfl
        rw [e]
        omega
      · rw [join_all]
      rw [SX.S_len]
      refine ⟨_, rfl, _, rfl, p, c, 2, rfl, by decide, P3, fun d H4 hd s4 P4 => ⟨_, _, rfl, rfl, _, _, rfl, ?_⟩⟩
      have e : (if ((L.take k).flatten.length : Int) - (d : Int) > 0 then ((L.take k).flatten.length : Int) - (d : Int) else 0) = (((L.take k).flatten.length - d : Nat) : Int) := by
        split <;> omega
      show Q (.int (if ((L.take k).flatten.length : Int) - (d : Int) > 0 then ((L.take k).flatten.length : Int) - (d : Int) else 0)) H4
      rw [e]
      exact q _ _ (by omega) (((s1.trans s2).trans (Same.but (same_new hl))).trans s4) P4
    · refine ⟨_, rfl, _, rfl, _, _, rfl, rfl, p, c, _, rfl, ?_, P1, fun k H2 hk s2 P2 => ?_⟩
      · show ((L.flatten.length : Int) + 1) ≤ 10 ^ 61
        omega
      · have hk : (k : Int) < (L.flatten.length : Int) + 1 ∨ k = 0 := hk
        exact q _ _ (by omega) (s1.trans s2) P2
end
end K35


/-! changed, longer -/
namespace K35
open PySem PySem.Spec PyProof.Rows L2
open SX (S)
section
variable {P : Program} {w : World} {K : PySem.W.Frag} {mg : Str → Option Value} {base : Heap} {CS CI fI : Addr}
/-! ### _law_changed -/
abbrev sLC : Stmt := top 49
def spLC : Sp := fun vs H Q _ => ∃ (t r p c : Addr) (L : List (List Nat)) (n : Nat), vs = [.ref t, .ref p] ∧ H t = some (.tup [.ref r, .int n]) ∧ H r = some (.lst (vs_ L)) ∧ LinesOk L ∧ r ≠ p ∧ t ≠ p ∧ Purse H p c ∧
  ∀ (T : Addr) (tx : List Nat) (wc : Nat) (H' : Hp), Chg L tx wc → But p H H' → Purse H' p c → H' T = some (.tup [.str (S tx), .str (S (due L n wc))]) → T ≠ p → Q (.ref T) H'
abbrev nLC : List Str := ["_law_area_here", "_law_purse_here", "_law_lines_here", "_law_text", "_law_whole_here", "_law_way", "_law_place_here", "_law_spot", "_law_sign_here"]
theorem sc_lc : FnScope nLC ["_law_area_here", "_law_purse_here"] (defScope sLC) := ⟨rfl, rfl, rfl, by decide +kernel, rfl, by decide +kernel, by decide +kernel⟩
theorem cut_len {L : List (List Nat)} {t : List Nat} {wc : Nat} (h : Cut L t wc) : t.length ≤ L.flatten.length := by
  rcases h with ⟨h1, _⟩ | ⟨p, _, h1, _⟩
  · rw [h1]; exact Nat.le_refl _
  · rw [h1, List.length_take]
    omega
theorem ok_lc (D : Dk K mg "_law_changed" sLC) (T : Txt P K mg) (d1 : Df P w K mg base 2 "_law_draw" spDraw) (d2 : Df P w K mg base 3 "_law_place" spLP) (d3 : Df P w K mg base 1 "_law_whole" spLH) (d4 : Df P w K mg base 3 "_law_sign" spLN) : Df P w K mg base 4 "_law_changed" spLC := by
  refine df_of D sc_lc (fun _ _ _ _ _ _ us hl => match us, hl with | [_, _], _ => rfl) (fun vs H Q E h => ?_) (fun f cdv A outer s H vs Q E hr h => ?_)
  · obtain ⟨v, _, _, _, _, _, rfl, _⟩ := h
    rfl
  · obtain ⟨t, r, p, c, L, n, rfl, ht1, hr1, hL, hrp, htp, hP, q⟩ := h
    refine ⟨_, pss_cons (ps_set (i := 2) sc_lc.nd rfl (Or.inl rfl) (pe_ix ix_tup (pv 0) pe_int (fun _ _ => rfl)))
      (pss_cons (ps_set (i := 3) sc_lc.nd rfl (Or.inl rfl) (pe_join pe_str (pv 2)))
      (pss_cons (ps_set (i := 4) sc_lc.nd rfl (Or.inl rfl) (pe_callB call_len_seq (by rfl) T.len PySem.boot_len (pa_cons (pv 2) pa_nil)))
      (pss_cons (ps_set (i := 5) sc_lc.nd rfl (Or.inl rfl) (pe_d d1 hr (by decide) (by rfl) (pa_cons (pv 1) (pa_cons pe_int pa_nil))))
      (Evl.pss_cut (ps_if (PW.pt (pw_or (pt_cmpR op_eq (pv 5) pe_int (nomark _)) (pw_or1 (pt_cmpR op_eq (pv 5) pe_int (nomark _)))))
        (pss_cons (ps_set (i := 6) sc_lc.nd rfl (Or.inl rfl) (pe_d d2 hr (by decide) (by rfl) (pa_cons (pv 2) (pa_cons (pv 1) pa_nil))))
        (pss_cons (ps_set (i := 3) sc_lc.nd rfl (Or.inl rfl) (pe_slice sl_str (pv 3) po_none (po_some (pv 6))))
        (pss_one (ps_set (i := 4) sc_lc.nd rfl (Or.inl rfl) (pe_d d3 hr (by decide) (by rfl) (pa_cons (pv 2) (pa_cons (pv 6) pa_nil))))))) pss_nil)
      (Evl.pss_cut (ps_if (PW.pt (pw_and (pt_cmpR op_gt (pv 5) pe_int (nomark _)) (pw_and1 (pt_cmpR op_ne (pv 3) pe_str (nomark _)))))
        (pss_cons (ps_set (i := 7) sc_lc.nd rfl (Or.inl rfl) (pe_d d1 hr (by decide) (by rfl) (pa_cons (pv 1) (pa_cons (pe_callB call_len_str (by rfl) T.len PySem.boot_len (pa_cons (pv 3) pa_nil)) pa_nil))))
        (pss_cons (ps_set (i := 8) sc_lc.nd rfl (Or.inl rfl) (pe_d d4 hr (by decide) (by rfl) (pa_cons (pv 1) pa_nil)))
        (pss_one (ps_if (pt_cmpR op_ne (pv 8) (pe_ix ix_str (pv 3) (pv 7) (fun _ _ => rfl)) (nomark _))
          (pss_cons (ps_set (i := 3) sc_lc.nd rfl (Or.inl rfl) (pe_op op_add_str (pe_op op_add_str (pe_slice sl_str (pv 3) po_none (po_some (pv 7))) (pv 8)) (pe_slice sl_str (pv 3) (po_some (pe_op op_add (pv 7) pe_int)) po_none)))
          (pss_one (ps_set (i := 4) sc_lc.nd rfl (Or.inl rfl) (pe_callB (call_min2 rfl) (by rfl) T.min (by decide +kernel) (pa_cons (pv 4) (pa_cons (pe_d d3 hr (by decide) (by rfl) (pa_cons (pv 2) (pa_cons (pv 7) pa_nil))) pa_nil)))))) pss_nil)))) pss_nil)
      (pss_cons (ps_if (pt_cmpR op_lt (pv 4) (pe_ix ix_tup (pv 0) pe_int (fun _ _ => rfl)) (nomark _)) (pss_one (ps_ret (pe_tup (pa_cons (pv 3) (pa_cons pe_str pa_nil))))) pss_nil)
      (pss_one (ps_ret (pe_tup (pa_cons (pv 3) (pa_cons (pe_join pe_str (pe_slice sl_list (pv 2) po_none (po_some (pv 4)))) pa_nil))))))))))), ?_⟩
    have hfl := hL.len
    have hll := hL.1
    have h61 : (100000 : Int) ≤ 10 ^ 61 := by decide
    have hrm : H r = some (.lst ((L.map S).map V.str)) := by rw [← vs_map]; exact hr1
    refine ⟨_, rfl, t, _, 0, _, rfl, rfl, SqT.of ht1, rfl, ⟨_, rfl⟩, _, rfl, S [], r, L.map S, by rw [← emp_S], rfl, .inl (SqL.of hrm), ?_, ?_⟩
    · rw [sum_S]
      have e : (S []).length = 0 := rfl
      rw [e]
      omega
    rw [join_all]
    refine ⟨_, rfl, r, _, rfl, .inl (SqL.of hr1), ?_⟩
    rw [vs_len]
    refine ⟨_, rfl, p, c, 4, rfl, by decide, hP, fun way H1 _ s1 P1 => ?_⟩
    refine ⟨fun σ' H' => ∃ (u : Option V) (t0 : List Nat) (w0 : Nat), σ' = [some (.ref t), some (.ref p), some (.ref r), some (.str (S t0)), some (.int w0), some (.int way), u, none, none] ∧ Cut L t0 w0 ∧ But p H H' ∧ Purse H' p c, ?_, ?_⟩
    · have hr2 := s1 _ _ hrp hr1
      refine ⟨_, rfl, rfl, _, rfl, ?_⟩
      refine ifE ?_ ?_
      · refine ⟨_, rfl, _, rfl, r, p, c, L, rfl, hr2, hL, hrp, P1, fun z H2 hz s2 P2 => ?_⟩
        refine ⟨_, rfl, _, rfl, _, rfl, S L.flatten, rfl, by rw [SX.S_len, sizeLine_eq]; omega, ?_⟩
        rw [cutS_to]
        refine ⟨_, rfl, _, rfl, r, z, L, rfl, s2 _ _ hrp hr2, hL, ?_⟩
        exact ⟨_, L.flatten.take z, wholeC L 0 z, rfl, .inr ⟨z, hz, rfl, rfl⟩, s1.trans s2, P2⟩
      · refine ⟨_, rfl, rfl, _, rfl, ?_⟩
        refine ifE ?_ ?_
        · refine ⟨_, rfl, _, rfl, r, p, c, L, rfl, hr2, hL, hrp, P1, fun z H2 hz s2 P2 => ?_⟩
          refine ⟨_, rfl, _, rfl, _, rfl, S L.flatten, rfl, by rw [SX.S_len, sizeLine_eq]; omega, ?_⟩
          rw [cutS_to]
          refine ⟨_, rfl, _, rfl, r, z, L, rfl, s2 _ _ hrp hr2, hL, ?_⟩
          exact ⟨_, L.flatten.take z, wholeC L 0 z, rfl, .inr ⟨z, hz, rfl, rfl⟩, s1.trans s2, P2⟩
        · exact ⟨_, L.flatten, L.length, rfl, .inl ⟨rfl, rfl⟩, s1, P1⟩
    · clear s1 P1
      rintro σ' H1 ⟨u, t0, w0, rfl, hC, s1, P1⟩
      have ht0 : t0.length ≤ 26000 := Nat.le_trans (cut_len hC) hfl
      have hz0 : (S t0).length ≤ sizeLine := by rw [SX.S_len, sizeLine_eq]; omega
      refine ⟨fun σ' H' => ∃ (u6 u7 u8 : Option V) (tx : List Nat) (wc : Nat), σ' = [some (.ref t), some (.ref p), some (.ref r), some (.str (S tx)), some (.int wc), some (.int way), u6, u7, u8] ∧ Chg L tx wc ∧ But p H H' ∧ Purse H' p c, ?_, ?_⟩
      · have stay : ∀ (H2 : Hp) (u7 u8 : Option V), But p H H2 → Purse H2 p c → ∃ (u6 u7' u8' : Option V) (tx : List Nat) (wc : Nat), [some (V.ref t), some (.ref p), some (.ref r), some (.str (S t0)), some (.int w0), some (.int way), u, u7, u8] = [some (.ref t), some (.ref p), some (.ref r), some (.str (S tx)), some (.int wc), some (.int way), u6, u7', u8'] ∧ Chg L tx wc ∧ But p H H2 ∧ Purse H2 p c :=
          fun H2 u7 u8 s2 P2 => ⟨u, u7, u8, t0, w0, rfl, ⟨t0, w0, hC, .inl ⟨rfl, rfl⟩⟩, s2, P2⟩
        refine ⟨_, rfl, _, _, rfl, rfl, _, rfl, ?_⟩
        refine ifE ?_ ?_
        · refine ⟨_, rfl, rfl, _, rfl, ?_⟩
          by_cases h0 : t0 = []
          · refine ifF (by rw [emp_S, decide_eq_true (S_eq.mpr h0)]; rfl) ?_
            exact stay H1 none none s1 P1
          · refine ifT (by rw [emp_S, decide_eq_false (fun z => h0 (S_eq.mp z))]; rfl) ?_
            have hpos : 0 < t0.length := List.length_pos_iff.mpr h0
            refine ⟨_, rfl, _, rfl, S t0, rfl, hz0, p, c, _, rfl, by rw [SX.S_len]; omega, P1, fun spot H2 hspot s2 P2 => ?_⟩
            rw [SX.S_len] at hspot
            have hsp : spot < t0.length := by omega
            refine ⟨_, rfl, p, c, rfl, P2, fun z H3 hz s3 P3 => ?_⟩
            have hat : t0[spot]? = some t0[spot] := List.getElem?_eq_getElem hsp
            generalize t0[spot] = ch at hat
            have s13 := (s1.trans s2).trans s3
            refine ⟨_, rfl, _, rfl, _, rfl, S t0, (spot : Int), ch, rfl, rfl, hz0, atI_nat hat, rfl, _, rfl, ?_⟩
            have ech : (V.str ⟨#[ch]⟩) = V.str (S [ch]) := rfl
            rw [ech]
            by_cases hzc : z = ch
            · refine ifF (by rw [hzc, decide_eq_true rfl]; rfl) ?_
              exact stay H3 _ _ s13 P3
            · refine ifT (by rw [decide_eq_false (fun y => hzc (List.singleton_inj.mp (S_eq.mp y)))]; rfl) ?_
              refine ⟨_, rfl, _, rfl, _, rfl, S t0, rfl, hz0, ?_⟩
              rw [cutS_to]
              refine ⟨_, rfl, _, _, rfl, rfl, ?_, ?_⟩
              · rw [SX.S_len, SX.S_len, List.length_take, sizeLine_eq]
                simp
                omega
              rw [SX.S_cat]
              have e1 : ((spot : Nat) : Int) + 1 = ((spot + 1 : Nat) : Int) := by omega
              refine ⟨_, rfl, _, rfl, _, _, rfl, rfl, _, rfl, S t0, rfl, hz0, ?_⟩
              rw [e1, cutS_from]
              refine ⟨_, _, rfl, rfl, ?_, ?_⟩
              · rw [SX.S_len, SX.S_len, List.length_append, List.length_take, List.length_drop, sizeLine_eq]
                simp
                omega
              rw [SX.S_cat]
              refine ⟨_, rfl, _, rfl, _, rfl, r, spot, L, rfl, s13 _ _ hrp hr1, hL, _, _, rfl, ?_⟩
              have e2 : (if ((wholeC L 0 spot : Nat) : Int) < ((w0 : Nat) : Int) then ((wholeC L 0 spot : Nat) : Int) else ((w0 : Nat) : Int)) = ((min w0 (wholeC L 0 spot) : Nat) : Int) := by
                split <;> omega
              rw [e2]
              refine ⟨_, _, _, t0.take spot ++ [z] ++ t0.drop (spot + 1), min w0 (wholeC L 0 spot), rfl, ⟨t0, w0, hC, .inr ⟨spot, z, hsp, hz, ?_, by simp, rfl⟩⟩, s13, P3⟩
              rw [hat]
              intro y
              exact hzc (Option.some.inj y).symm
        · refine iteF ?_
          exact stay H1 none none s1 P1
      · clear hz0 ht0 hC s1 P1
        rintro σ' H1 ⟨u6, u7, u8, tx, wc, rfl, hC, s1, P1⟩
        have ht2 := s1 _ _ htp ht1
        have hr2 := s1 _ _ hrp hr1
        refine ⟨_, rfl, _, rfl, t, _, 1, _, rfl, rfl, SqT.of ht2, rfl, _, _, rfl, rfl, _, rfl, ?_⟩
        by_cases hw : wc < n
        · refine ifT (decide_eq_true (by omega)) ?_
          refine ⟨_, rfl, by show 2 ≤ sizeLine; decide, fun T5 hT5 => q T5 tx wc _ hC (s1.trans (Same.but (same_new hT5))) (P1.keep (same_new hT5)) ?_ (P1.ne hT5)⟩
          rw [upd_same]
          unfold due
          rw [if_pos hw, emp_S]
        · refine ifF (decide_eq_false (by omega)) ?_
          refine ⟨_, rfl, ⟨_, rfl⟩, _, rfl, _, rfl, _, rfl, r, _, rfl, SqL.of hr2, fun l hl => ?_⟩
          rw [cut_to, vs_map]
          have eL : ((L.map S).map V.str).take wc = ((L.take wc).map S).map V.str := by rw [List.map_take, List.map_take]
          rw [eL]
          have hLk := (hL.take wc).len
          have P2 := P1.keep (same_new (o := .lst (((L.take wc).map S).map V.str)) hl)
          refine ⟨S [], l, (L.take wc).map S, by rw [← emp_S], rfl, .inl (SqL.of upd_same), ?_, ?_⟩
          · rw [sum_S]
            have e : (S []).length = 0 := rfl
            rw [e]
            omega
          rw [join_all]
          refine ⟨by show 2 ≤ sizeLine; decide, fun T5 hT5 => q T5 tx wc _ hC ((s1.trans (Same.but (same_new hl))).trans (Same.but (same_new hT5))) (P2.keep (same_new hT5)) ?_ (P2.ne hT5)⟩
          rw [upd_same]
          unfold due
          rw [if_neg hw]

/-! ### _law_longer -/
abbrev sLO : Stmt := top 50
def spLO : Sp := fun vs H Q _ => ∃ (d tl : List Nat), vs = [.str (S d), .str (S tl)] ∧ d.length ≤ 100000 ∧ tl.length ≤ 100000 ∧ Q (.str (S (if d = [] then [] else d ++ tl))) H
theorem sc_lo : FnScope ["_law_due", "_law_tail"] ["_law_due", "_law_tail"] (defScope sLO) := ⟨rfl, rfl, rfl, by decide +kernel, rfl, by decide +kernel, by decide +kernel⟩
theorem ok_lo (D : Dk K mg "_law_longer" sLO) (T : Txt P K mg) : Df P w K mg base 1 "_law_longer" spLO := by
  refine df_of D sc_lo (fun _ _ _ _ _ _ us hl => match us, hl with | [_, _], _ => rfl) (fun vs H Q E h => ?_) (fun f cdv A outer s H vs Q E hr h => ?_)
  · obtain ⟨v, _, rfl, _⟩ := h
    rfl
  · obtain ⟨d, tl, rfl, hd, ht, q⟩ := h
    refine ⟨_, pss_cons (ps_if (pt_cmpR op_eq (pv 0) pe_str (nomark _)) (pss_one (ps_ret pe_str)) pss_nil) (pss_one (ps_ret (pe_op op_add_str (pv 0) (pv 1)))), ?_⟩
    refine ⟨_, rfl, rfl, _, rfl, ?_⟩
    rw [emp_S]
    by_cases h0 : d = []
    · refine ifT (decide_eq_true (S_eq.mpr h0)) ?_
      rw [if_pos h0] at q
      exact q
    · refine ifF (decide_eq_false fun z => h0 (S_eq.mp z)) ?_
      rw [if_neg h0] at q
      refine ⟨_, rfl, _, rfl, _, _, rfl, rfl, by rw [SX.S_len, SX.S_len, sizeLine_eq]; omega, ?_⟩
      rw [SX.S_cat]
      exact q
end
end K35


/-! the law -/
namespace K35
open PySem PySem.Spec PyProof.Rows L2
open SX (S)
theorem Purse.tup {H : Hp} {p c t : Addr} {xs : List V} (h : Purse H p c) (ht : H t = some (.tup xs)) : t ≠ p := fun z => by
  obtain ⟨cells, i, pot, seed, turn, h1, _⟩ := h
  rw [← z, ht] at h1
  cases h1
theorem SetAt.but {C p s : Addr} {H H' : Hp} {bits : Nat} (h : SetAt C H s bits) (k : But p H H') (hs : s ≠ p) : SetAt C H' s bits := by
  obtain ⟨dx, fs, h1, h2⟩ := h
  exact ⟨dx, fs, k _ _ hs h1, h2⟩
theorem chg_len {L : List (List Nat)} {t : List Nat} {w : Nat} (h : Chg L t w) : t.length ≤ L.flatten.length := by
  obtain ⟨t0, w0, hc, h⟩ := h
  have h1 := cut_len hc
  rcases h with ⟨rfl, _⟩ | ⟨q, c, h2, _, _, rfl, _⟩
  · exact h1
  · rw [List.length_append, List.length_cons, List.length_take, List.length_drop]
    omega
theorem cut_mem {L : List (List Nat)} {t : List Nat} {w : Nat} (h : Cut L t w) : ∀ c ∈ t, c ∈ L.flatten := by
  rcases h with ⟨rfl, _⟩ | ⟨p, _, rfl, _⟩
  · exact fun c hc => hc
  · exact fun c hc => List.mem_of_mem_take hc
theorem chg_cod {L : List (List Nat)} {t : List Nat} {w : Nat} (hL : LinesOk L) (h : Chg L t w) : cods t := by
  obtain ⟨t0, w0, hc, h⟩ := h
  have h1 : ∀ c ∈ t0, c < 128 := fun c hcm => hL.cod c (cut_mem hc c hcm)
  rcases h with ⟨rfl, _⟩ | ⟨q, c, h2, h3, _, rfl, _⟩
  · exact cods_of h1
  · refine cods_of fun x hx => ?_
    rcases List.mem_append.mp hx with hx | hx
    · exact h1 x (List.mem_of_mem_take hx)
    · rcases List.mem_cons.mp hx with hx | hx
      · rw [hx]; exact h3
      · exact h1 x (List.mem_of_mem_drop hx)
theorem due_ok {L : List (List Nat)} (hL : LinesOk L) (n w : Nat) : (due L n w).length ≤ 26000 ∧ ∀ c ∈ due L n w, c < 128 := by
  unfold due
  split
  · exact ⟨by simp, by simp⟩
  · exact ⟨(hL.take w).len, (hL.take w).cod⟩
theorem ln_vs (bs : List (List Nat)) : ln_ bs = vs_ (bs.map dline) := by
  unfold ln_ vs_
  rw [List.map_map]
  rfl
theorem say_lines {N : Nat} {bs : List (List Nat)} (hN : N ≤ 1000) (hb : bs.length ≤ 200) (h : ∀ b ∈ bs, SayB N b) : LinesOk (bs.map dline) := by
  refine ⟨by rw [List.length_map]; exact hb, fun l hl => ?_⟩
  obtain ⟨b, hbm, rfl⟩ := List.mem_map.mp hl
  exact dline_rb (say_rb hN (h b hbm))
abbrev two (a b : List Nat) : PyData := .tuple [.str (S a), .str (S b)]
theorem str_ok {a : List Nat} (h : cods a) : PyData.strOk (S a) = true := by
  show (S a).cps.all _ = true
  rw [← Array.all_toList]
  exact List.all_eq_true.mpr fun c hc => decide_eq_true (h c hc)
theorem two_lay {a b : List Nat} (ha : cods a) (hb : cods b) : (two a b).canLay0 = true := by
  simp [two, PyData.canLay0, PyData.canLayAll0, str_ok ha, str_ok hb]
theorem two_sh {a b : List Nat} (ha : cods a) (hb : cods b) : SeqAt.shaped (two a b) = true := by
  show ((two a b).canLay0 && decide ((two a b).depth ≤ 64)) = true
  rw [two_lay ha hb]
  simp [two, PyData.depth, PyData.depthAll]
theorem two_eq {a b : List Nat} (ha : cods a) (hb : cods b) : PyData.eqv (two a b) (two a b) = true := SeqAt.eqv_refl _ (two_lay ha hb)
theorem op_addNat {X : Cx} : OpR X (binaryOp .Add) (fun x y H Q => ∃ n m : Nat, x = .int (n : Int) ∧ y = .int (m : Int) ∧ Q (.int ((n + m : Nat) : Int)) H) := fun pins s σ H x y v u Q I rx ry h => by
  obtain ⟨n, m, h1, h2, q⟩ := h
  refine op_add pins s σ H x y v u Q I rx ry ⟨n, m, h1, h2, ?_⟩
  show Q (.int ((n : Int) + (m : Int))) H
  rw [← Int.natCast_add]
  exact q
theorem dp_two {K : PySem.W.Frag} {H : Hp} {t : Addr} {a b : List Nat} (h : H t = some (.tup [.str (S a), .str (S b)])) : Dp K H (.ref t) (two a b) := .tup (SqT.of h) (.cons (.str _) (.cons (.str _) .nil))
section
variable {P : Program} {w : World} {K : PySem.W.Frag} {mg : Str → Option Value} {base : Heap} {CS CI fI : Addr}
abbrev sLaw : Stmt := top 51
def spLaw (K : PySem.W.Frag) : Sp := fun vs H Q _ => ∃ (a : Addr) (ns : List Int), vs = [.ref a] ∧ SqL K H a (ns.map V.int) ∧ ∀ H', Q (.bl true) H'
abbrev nLaw : List Str := ["_law_script", "_law_purse_here", "_law_bits", "_law_ring_here", "_law_setting_here", "_law_first", "_law_second", "_law_actual", "_law_again", "_law_tail", "_law_other"]
theorem sc_law : FnScope nLaw ["_law_script"] (defScope sLaw) := ⟨rfl, rfl, rfl, by decide +kernel, rfl, by decide +kernel, by decide +kernel⟩
theorem ok_law {f : Addr} {fd : FuncData} (F : Fun K "law" "law" sLaw f fd) (T : Txt P K mg) (dP : Df P w K mg base 1 "_law_purse" (spPurse K)) (dD : Df P w K mg base 2 "_law_draw" spDraw) (dR : Df P w K mg base 1 "_law_ring" spRing) (dS : Df P w K mg base 4 "_law_setting" (spSetting CS))
    (dA : Df P w K mg base 6 "_law_area" spLA) (dC : Df P w K mg base 4 "_law_changed" spLC) (dM : Df P w K mg base 8 "mended" (spMended CS)) (dL : Df P w K mg base 5 "_law_lines" spLLs) (dO : Df P w K mg base 1 "_law_longer" spLO) : FnOk P w K mg base CX0 9 f fd ["_law_script"] (spLaw K) := by
  refine F.ok sc_law (fun vs H Q E h => ?_) (fun cdv A outer s H vs Q E hr h => ?_)
  · obtain ⟨v, _, rfl, _⟩ := h
    rfl
  · obtain ⟨a, ns, rfl, ha, q⟩ := h
    refine ⟨_, pss_cons (ps_set (i := 1) sc_law.nd rfl (Or.inl rfl) (pe_d dP hr (by decide) (by rfl) (pa_cons (pv 0) pa_nil)))
      (pss_cons (ps_set (i := 2) sc_law.nd rfl (Or.inl rfl) (pe_op op_addNat pe_int (pe_d dD hr (by decide) (by rfl) (pa_cons (pv 1) (pa_cons pe_int pa_nil)))))
      (pss_cons (ps_set (i := 3) sc_law.nd rfl (Or.inl rfl) (pe_d dR hr (by decide) (by rfl) (pa_cons (pv 2) pa_nil)))
      (pss_cons (ps_set (i := 4) sc_law.nd rfl (Or.inl rfl) (pe_d dS hr (by decide) (by rfl) (pa_cons (pv 2) (pa_cons (pv 1) pa_nil))))
      (pss_cons (ps_set (i := 5) sc_law.nd rfl (Or.inl rfl) (pe_d dC hr (by decide) (by rfl) (pa_cons (pe_d dA hr (by decide) (by rfl) (pa_cons (pv 1) (pa_cons (pv 3) pa_nil))) (pa_cons (pv 1) pa_nil))))
      (pss_cons (ps_set (i := 6) sc_law.nd rfl (Or.inl rfl) (pe_d dC hr (by decide) (by rfl) (pa_cons (pe_d dA hr (by decide) (by rfl) (pa_cons (pv 1) (pa_cons (pv 3) pa_nil))) (pa_cons (pv 1) pa_nil))))
      (pss_cons (ps_set (i := 7) sc_law.nd rfl (Or.inl rfl) (pe_d dM hr (by decide) (by rfl) (pa_cons (pv 4) (pa_cons (pe_tup (pa_cons (pe_ix ix_tup (pv 5) pe_int (fun _ _ => rfl)) (pa_cons (pe_ix ix_tup (pv 6) pe_int (fun _ _ => rfl)) pa_nil))) pa_nil))))
      (pss_cons (ps_if (PW.pt (pw_or (pt_not (pt_val (pe_callB call_isi (by rfl) T.isi (by decide +kernel) (pa_cons (pv 7) (pa_cons (pe_bltn (by rfl) T.tuple (by decide +kernel) (v := .ty "tuple") rfl) pa_nil)))))
          (pw_or (pt_cmpR op_ne (pe_callB call_len_seq (by rfl) T.len PySem.boot_len (pa_cons (pv 7) pa_nil)) pe_int (nomark _))
          (pw_or1 (pt_cmpR (op_neD hr.units) (pv 7) (pe_tup (pa_cons (pe_ix ix_tup (pv 5) pe_int (fun _ _ => rfl)) (pa_cons (pe_ix ix_tup (pv 6) pe_int (fun _ _ => rfl)) pa_nil))) (nomark _)))))) (pss_one (ps_ret pe_bl)) pss_nil)
      (pss_cons (ps_set (i := 8) sc_law.nd rfl (Or.inl rfl) (pe_d dM hr (by decide) (by rfl) (pa_cons (pv 4) (pa_cons (pe_tup (pa_cons (pe_ix ix_tup (pv 7) pe_int (fun _ _ => rfl)) (pa_cons (pe_ix ix_tup (pv 7) pe_int (fun _ _ => rfl)) pa_nil))) pa_nil))))
      (pss_cons (ps_if (PW.pt (pw_or (pt_not (pt_val (pe_callB call_isi (by rfl) T.isi (by decide +kernel) (pa_cons (pv 8) (pa_cons (pe_bltn (by rfl) T.tuple (by decide +kernel) (v := .ty "tuple") rfl) pa_nil)))))
          (pw_or1 (pt_cmpR (op_neD hr.units) (pv 8) (pe_tup (pa_cons (pe_ix ix_tup (pv 5) pe_int (fun _ _ => rfl)) (pa_cons (pe_ix ix_tup (pv 6) pe_int (fun _ _ => rfl)) pa_nil))) (nomark _))))) (pss_one (ps_ret pe_bl)) pss_nil)
      (pss_cons (ps_set (i := 9) sc_law.nd rfl (Or.inl rfl) (pe_join pe_str (pe_d dL hr (by decide) (by rfl) (pa_cons (pv 1) (pa_cons (pv 3) (pa_cons (pe_op op_addNat pe_int (pe_d dD hr (by decide) (by rfl) (pa_cons (pv 1) (pa_cons pe_int pa_nil)))) pa_nil))))))
      (pss_cons (ps_set (i := 10) sc_law.nd rfl (Or.inl rfl) (pe_join pe_str (pe_d dL hr (by decide) (by rfl) (pa_cons (pv 1) (pa_cons (pv 3) (pa_cons (pe_op op_addNat pe_int (pe_d dD hr (by decide) (by rfl) (pa_cons (pv 1) (pa_cons pe_int pa_nil)))) pa_nil))))))
      (pss_cons (ps_set (i := 7) sc_law.nd rfl (Or.inl rfl) (pe_d dM hr (by decide) (by rfl) (pa_cons (pv 4) (pa_cons (pe_tup (pa_cons (pe_op op_add_str (pe_ix ix_tup (pv 5) pe_int (fun _ _ => rfl)) (pv 9)) (pa_cons (pe_op op_add_str (pe_ix ix_tup (pv 6) pe_int (fun _ _ => rfl)) (pv 10)) pa_nil))) pa_nil))))
      (pss_one (ps_ret (pe_cmpR (op_eqD hr.units) (pv 7) (pe_tup (pa_cons (pe_d dO hr (by decide) (by rfl) (pa_cons (pe_ix ix_tup (pv 5) pe_int (fun _ _ => rfl)) (pa_cons (pv 9) pa_nil))) (pa_cons (pe_d dO hr (by decide) (by rfl) (pa_cons (pe_ix ix_tup (pv 6) pe_int (fun _ _ => rfl)) (pa_cons (pv 10) pa_nil))) pa_nil))) (nomark _)))))))))))))))), ?_⟩
    refine ⟨_, rfl, a, ns, rfl, ha, fun p c H1 _ _ P1 => ?_⟩
    refine ⟨_, rfl, p, c, 8, rfl, by decide, P1, fun d H2 hd s2 P2 => ⟨1, d, rfl, rfl, ?_⟩⟩
    have hb1 : 1 ≤ 1 + d := by omega
    have hb8 : 1 + d ≤ 8 := by omega
    generalize 1 + d = bits at hb1 hb8 ⊢
    clear hd s2 P1
    refine ⟨_, rfl, bits, rfl, hb8, ?_⟩
    have hN2 : 2 ≤ 2 ^ bits := Nat.pow_le_pow_right (n := 2) (by decide) hb1
    have hN : 2 ^ bits ≤ 256 := Nat.pow_le_pow_right (n := 2) (by decide) hb8
    have hN1000 : 2 ^ bits ≤ 1000 := by omega
    refine ⟨_, rfl, _, rfl, p, c, bits, rfl, hb1, hb8, P2, fun s0 H3 s3 P3 hs3 hsp => ?_⟩
    -- first
    refine ⟨_, rfl, _, rfl, p, c, 2 ^ bits, rfl, hN2, hN, P3, fun t4 r4 L1 n1 H4 hA1 hL1 s4 P4 ht4 hr4 hn4 => ?_⟩
    refine ⟨_, rfl, t4, r4, p, c, L1, n1, rfl, ht4, hr4, hL1, P3.ne hn4, P4.tup ht4, P4, fun T1 tx1 w1 H5 hC1 s5 P5 hT1 hT1p => ?_⟩
    -- second
    refine ⟨_, rfl, _, rfl, p, c, 2 ^ bits, rfl, hN2, hN, P5, fun t6 r6 L2 n2 H6 hA2 hL2 s6 P6 ht6 hr6 hn6 => ?_⟩
    refine ⟨_, rfl, t6, r6, p, c, L2, n2, rfl, ht6, hr6, hL2, P5.ne hn6, P6.tup ht6, P6, fun T2 tx2 w2 H7 hC2 s7 P7 hT2 hT2p => ?_⟩
    have hT1' := s7 _ _ hT1p (s6 _ _ hT1p hT1)
    have hs7 : SetAt CS H7 s0 bits := ((((hs3.but s4 hsp).but s5 hsp).but s6 hsp).but s7 hsp)
    have f1 := law_first hN1000 hA1 hC1
    have f2 := law_first hN1000 hA2 hC2
    have g1 := law_again (w := w1) hN1000 hA1
    have g2 := law_again (w := w2) hN1000 hA2
    have k1 := fun tl (h : ∀ b ∈ tl, SayB (2 ^ bits) b) => law_longer (w := w1) (tl := tl) hN1000 hA1 h
    have k2 := fun tl (h : ∀ b ∈ tl, SayB (2 ^ bits) b) => law_longer (w := w2) (tl := tl) hN1000 hA2 h
    have c1 := chg_cod hL1 hC1
    have c2 := chg_cod hL2 hC2
    have e1 : tx1.length ≤ 26000 := Nat.le_trans (chg_len hC1) hL1.len
    have e2 : tx2.length ≤ 26000 := Nat.le_trans (chg_len hC2) hL2.len
    obtain ⟨l1, m1⟩ := due_ok hL1 n1 w1
    obtain ⟨l2, m2⟩ := due_ok hL2 n2 w2
    generalize due L1 n1 w1 = u1 at hT1' f1 g1 k1 l1 m1
    generalize due L2 n2 w2 = u2 at hT2 f2 g2 k2 l2 m2
    clear hT1 hC1 hC2 hA1 hA2 hL1 hL2 ht4 hr4 ht6 hr6 hn4 hn6 s4 s5 s6 s7 s3 hs3 P2 P3 P4 P5 P6
    -- the first mending
    refine ⟨_, rfl, _, rfl, T1, _, 0, _, rfl, rfl, SqT.of hT1', rfl, _, rfl, T2, _, 0, _, rfl, rfl, SqT.of hT2, rfl, by show 2 ≤ sizeLine; decide, fun A8 hA8 => ?_⟩
    refine ⟨s0, A8, bits, tx1, tx2, rfl, hs7.keep (same_new hA8), hb8, upd_same, by omega, c1, by omega, c2, fun R1 H8 s8 hR1 => ?_⟩
    rw [f1, f2] at hR1
    have S8 : Same H7 H8 := (same_new hA8).trans s8
    refine ⟨_, rfl, .ref R1, .ty "tuple", _, _, true, rfl, .ty _, .base (.tup hR1), kit_tt, true, rfl, ?_⟩
    refine ⟨_, rfl, R1, _, rfl, .inr (SqT.of hR1), rfl, _, rfl, ?_⟩
    refine iteF ?_
    have hT1a := S8 _ _ hT1'
    have hT2a := S8 _ _ hT2
    refine ⟨_, rfl, _, rfl, T1, _, 1, _, rfl, rfl, SqT.of hT1a, rfl, _, rfl, T2, _, 1, _, rfl, rfl, SqT.of hT2a, rfl, by show 2 ≤ sizeLine; decide, fun A9 hA9 => ?_⟩
    have n9 := same_new (o := .tup [.str (S u1), .str (S u2)]) hA9
    refine ⟨two u1 u2, two u1 u2, dp_two (n9 _ _ hR1), dp_two upd_same, two_sh (cods_of m1) (cods_of m2), two_sh (cods_of m1) (cods_of m2), _, rfl, ?_⟩
    rw [two_eq (cods_of m1) (cods_of m2)]
    refine iteF ?_
    -- the second mending
    have hR1b := n9 _ _ hR1
    have S9 := S8.trans n9
    refine ⟨_, rfl, _, rfl, R1, _, 0, _, rfl, rfl, SqT.of hR1b, rfl, _, rfl, R1, _, 1, _, rfl, rfl, SqT.of hR1b, rfl, by show 2 ≤ sizeLine; decide, fun A10 hA10 => ?_⟩
    refine ⟨s0, A10, bits, u1, u2, rfl, (hs7.keep S9).keep (same_new hA10), hb8, upd_same, by omega, cods_of m1, by omega, cods_of m2, fun R2 H10 s10 hR2 => ?_⟩
    rw [g1, g2] at hR2
    have S10 := (S9.trans (same_new hA10)).trans s10
    refine ⟨_, rfl, .ref R2, .ty "tuple", _, _, true, rfl, .ty _, .base (.tup hR2), kit_tt, true, rfl, ?_⟩
    have hT1b := S10 _ _ hT1'
    have hT2b := S10 _ _ hT2
    refine ⟨_, rfl, _, rfl, T1, _, 1, _, rfl, rfl, SqT.of hT1b, rfl, _, rfl, T2, _, 1, _, rfl, rfl, SqT.of hT2b, rfl, by show 2 ≤ sizeLine; decide, fun A11 hA11 => ?_⟩
    have n11 := same_new (o := .tup [.str (S u1), .str (S u2)]) hA11
    refine ⟨two u1 u2, two u1 u2, dp_two (n11 _ _ hR2), dp_two upd_same, two_sh (cods_of m1) (cods_of m2), two_sh (cods_of m1) (cods_of m2), _, rfl, ?_⟩
    rw [two_eq (cods_of m1) (cods_of m2)]
    refine iteF ?_
    have S11 := S10.trans n11
    have P11 := P7.keep S11
    have hs11 := hs7.keep S11
    have hT1c := S11 _ _ hT1'
    have hT2c := S11 _ _ hT2
    generalize upd H10 A11 (.tup [.str (S u1), .str (S u2)]) = H11 at P11 hs11 hT1c hT2c ⊢
    clear n11 hA11 hT1b hT2b S10 hR2 s10 hA10 S9 hR1b n9 hA9 hT1a hT2a S8 hR1 s8 hA8 hT1' hT2 hs7 P7 S11
    -- the tails
    refine ⟨⟨_, rfl⟩, _, rfl, _, rfl, _, rfl, p, c, 4, rfl, by decide, P11, fun k12 H12 hk12 s12 P12 => ⟨1, k12, rfl, rfl, ?_⟩⟩
    refine ⟨p, c, 2 ^ bits, 1 + k12, rfl, hN2, hN, by omega, P12, fun r13 b1 H13 hb13 hs13 s13 P13 hr13 _ => ?_⟩
    have o1 := say_lines hN1000 (by omega) hs13
    rw [ln_vs, vs_map] at hr13
    have q1 := o1.len
    refine ⟨S [], r13, (b1.map dline).map S, by rw [← emp_S], rfl, .inl (SqL.of hr13), ?_, ?_⟩
    · rw [sum_S]
      have e : (S []).length = 0 := rfl
      rw [e]
      omega
    rw [join_all]
    refine ⟨⟨_, rfl⟩, _, rfl, _, rfl, _, rfl, p, c, 4, rfl, by decide, P13, fun k14 H14 hk14 s14 P14 => ⟨1, k14, rfl, rfl, ?_⟩⟩
    refine ⟨p, c, 2 ^ bits, 1 + k14, rfl, hN2, hN, by omega, P14, fun r15 b2 H15 hb15 hs15 s15 P15 hr15 _ => ?_⟩
    have o2 := say_lines hN1000 (by omega) hs15
    rw [ln_vs, vs_map] at hr15
    have q2 := o2.len
    refine ⟨S [], r15, (b2.map dline).map S, by rw [← emp_S], rfl, .inl (SqL.of hr15), ?_, ?_⟩
    · rw [sum_S]
      have e : (S []).length = 0 := rfl
      rw [e]
      omega
    rw [join_all]
    have hT1d := s15 _ _ hT1p (s14 _ _ hT1p (s13 _ _ hT1p (s12 _ _ hT1p hT1c)))
    have hT2d := s15 _ _ hT2p (s14 _ _ hT2p (s13 _ _ hT2p (s12 _ _ hT2p hT2c)))
    have hs15' : SetAt CS H15 s0 bits := ((((hs11.but s12 hsp).but s13 hsp).but s14 hsp).but s15 hsp)
    have k1' := k1 b1 hs13
    have k2' := k2 b2 hs15
    have v1 := o1.cod
    have v2 := o2.cod
    generalize (b1.map dline).flatten = x1 at k1' q1 v1 ⊢
    generalize (b2.map dline).flatten = x2 at k2' q2 v2 ⊢
    have d1 : ∀ z ∈ u1 ++ x1, z < 128 := fun z hz => (List.mem_append.mp hz).elim (m1 z) (v1 z)
    have d2 : ∀ z ∈ u2 ++ x2, z < 128 := fun z hz => (List.mem_append.mp hz).elim (m2 z) (v2 z)
    have y1 : (u1 ++ x1).length ≤ 52000 := by rw [List.length_append]; omega
    have y2 : (u2 ++ x2).length ≤ 52000 := by rw [List.length_append]; omega
    -- the third mending
    refine ⟨_, rfl, _, rfl, T1, _, 1, _, rfl, rfl, SqT.of hT1d, rfl, _, rfl, _, _, rfl, rfl, by rw [SX.S_len, SX.S_len, sizeLine_eq]; omega, ?_⟩
    rw [SX.S_cat]
    refine ⟨_, rfl, T2, _, 1, _, rfl, rfl, SqT.of hT2d, rfl, _, rfl, _, _, rfl, rfl, by rw [SX.S_len, SX.S_len, sizeLine_eq]; omega, ?_⟩
    rw [SX.S_cat]
    refine ⟨by show 2 ≤ sizeLine; decide, fun A16 hA16 => ?_⟩
    refine ⟨s0, A16, bits, u1 ++ x1, u2 ++ x2, rfl, hs15'.keep (same_new hA16), hb8, upd_same, by omega, cods_of d1, by omega, cods_of d2, fun R3 H17 s17 hR3 => ?_⟩
    rw [k1', k2'] at hR3
    have S17 := (same_new (o := .tup [.str (S (u1 ++ x1)), .str (S (u2 ++ x2))]) hA16).trans s17
    have hT1e := S17 _ _ hT1d
    have hT2e := S17 _ _ hT2d
    refine ⟨_, rfl, _, rfl, T1, _, 1, _, rfl, rfl, SqT.of hT1e, rfl, _, rfl, u1, x1, rfl, by omega, by omega, ?_⟩
    refine ⟨_, rfl, T2, _, 1, _, rfl, rfl, SqT.of hT2e, rfl, _, rfl, u2, x2, rfl, by omega, by omega, ?_⟩
    refine ⟨by show 2 ≤ sizeLine; decide, fun A18 hA18 => ?_⟩
    have j1 : ∀ z ∈ (if u1 = [] then [] else u1 ++ x1), z < 128 := by
      split
      · simp
      · exact d1
    have j2 : ∀ z ∈ (if u2 = [] then [] else u2 ++ x2), z < 128 := by
      split
      · simp
      · exact d2
    generalize (if u1 = [] then [] else u1 ++ x1) = z1 at hR3 hA18 j1 ⊢
    generalize (if u2 = [] then [] else u2 ++ x2) = z2 at hR3 hA18 j2 ⊢
    refine ⟨two z1 z2, two z1 z2, dp_two (same_new hA18 _ _ hR3), dp_two upd_same, two_sh (cods_of j1) (cods_of j2), two_sh (cods_of j1) (cods_of j2), ?_⟩
    rw [two_eq (cods_of j1) (cods_of j2)]
    exact q _
end
end K35


/-! the end: the facts together -/
namespace K35
open PySem PySem.Spec PyProof.Rows L2
open SX (S)
theorem exm_self {K : PySem.W.Frag} {C : Addr} (h1 : PySem.W.subIn K (.ref C) (.type "BaseException") = some true) (h2 : PySem.W.isClsIn K C = true) (h3 : PySem.W.typeIn K (.ref C) = some (.type "type")) (h4 : PySem.W.subIn K (.ref C) (.ref C) = some true) :
    PySem.W.exmOne K (.ref C) (.ref C) = some true := by
  have e1 : (PySem.W.subIn K (.ref C) (.type "BaseException") == some true) = true := by rw [h1] <;> rfl
  have e2 : ((PySem.W.clsIn K C).isSome && PySem.W.typeIn K (.ref C) == some (.type "type")) = true := by
    have h2' : (PySem.W.clsIn K C).isSome = true := h2
    rw [h2', h3] <;> rfl
  show (if (PySem.W.subIn K (.ref C) (.type "BaseException") == some true) = true then (if ((PySem.W.clsIn K C).isSome && PySem.W.typeIn K (.ref C) == some (.type "type")) = true then PySem.W.subIn K (.ref C) (.ref C) else none) else none) = some true
  rw [if_pos e1, if_pos e2]
  exact h4
theorem use {A B : Prop} (a : A) (f : A → B) : B := f a
section
variable {P : Program} {w : World} {K : PySem.W.Frag} {h : Heap} {mg : Str → Option Value}
theorem dk_mk {x : Str} {st : Stmt} {f : Addr} {oc : Value} {od an : Option Addr} {osl : Array (Option Value)} {kV doc pm cdv ct : Value} (X : K.In h) (G : h.Ns mainGlobals mg) (a : PySem.W.nsIn K mainGlobals x = some (some (.ref f)))
    (l : K.lookup f = some ⟨oc, od, .func (PySem.W.fnOf x x (defArgs st) (defBody st) (defScope st) .none kV doc pm an cdv ct), osl⟩) (c : PySem.W.codeIn K cdv x = true) (k : PySem.W.keepIn K (.ref f) = true) : Dk K mg x st :=
  ⟨f, _, fun_mk l c k, PySem.W.mg_of X G a⟩
theorem val_mk {x : Str} {v : V} {u : Value} (X : K.In h) (G : h.Ns mainGlobals mg) (a : PySem.W.nsIn K mainGlobals x = some (some u)) (r : RelV v u) : ∃ u, mg x = some u ∧ RelV v u := ⟨u, PySem.W.mg_of X G a, r⟩
theorem marks_mk {a : Addr} {od : Option Addr} {n : Nat} {sl : Array (Option Value)} {u1 u2 u3 u4 : Value} (X : K.In h) (G : h.Ns mainGlobals mg) (e : PySem.W.nsIn K mainGlobals "MARKS" = some (some (.ref a)))
    (l : K.lookup a = some ⟨.type "tuple", od, .seq #[u1, u2, u3, u4] n, sl⟩) (r1 : RelV (.str "alive") u1) (r2 : RelV (.str "suspect") u2) (r3 : RelV (.str "dead") u3) (r4 : RelV (.str "left") u4) :
    ∃ a, mg "MARKS" = some (.ref a) ∧ ∀ H, SqT K H a [.str "alive", .str "suspect", .str "dead", .str "left"] :=
  ⟨a, PySem.W.mg_of X G e, fun H => .inr ⟨_, _, _, l, rfl, rfl, by show 4 ≤ sizeLine; decide, .cons r1 (.cons r2 (.cons r3 (.cons r4 .nil)))⟩⟩
theorem say_mk {C fI g : Addr} {nm q : Str} {N : Addr} {bs : List Value} {sn : List Str} {sub : List Value} {ab : Bool} {col : Option Bool} {dd : Option Addr} {m0 m1 m2 m3 m5 : Option Value}
    {oc : Value} {od : Option Addr} {doc pm : Value} {an : Option Addr} {cda cc : Addr} {ct : Value} {osl : Array (Option Value)} {ccl : Value} {cdd : Option Addr} {vs : Array Value} {ccs : Array (Option Value)} {file : Str} {tf : Tok}
    {cl : Value} {cld : Option Addr} {csl : Array (Option Value)}
    (X : K.In h) (G : h.Ns mainGlobals mg) (aC : PySem.W.nsIn K mainGlobals "InvalidSaying" = some (some (.ref C))) (aS : PySem.W.nsIn K mainGlobals "super" = some none)
    (xL : K.lookup C = some (excClassObj nm q C N bs [.ref g, .type "ValueError", .type "Exception", .type "BaseException", .type "object"] true sn sub ab col dd m0 m1 m2 m3 m5 "ValueError.__new__"))
    (sa : PySem.W.findIn K (.ref C) "__setattr__" = some (some (.builtin "object.__setattr__"))) (noN : PySem.W.findIn K (.ref C) "saying" = some none) (iC : PySem.W.findIn K (.ref C) "__init__" = some (some (.ref fI)))
    (tC : PySem.W.typeIn K (.ref fI) = some (.type "function")) (kC : PySem.W.keepIn K (.ref C) = true) (exC : PySem.W.subIn K (.ref C) (.type "BaseException") = some true) (veC : PySem.W.subIn K (.ref C) (.type "ValueError") = some true)
    (meC : PySem.W.mroIn K C (.ref C) = some true) (tyC : PySem.W.typeIn K (.ref C) = some (.type "type")) (isC : PySem.W.isClsIn K C = true) (suC : PySem.W.subIn K (.ref C) (.ref C) = some true)
    (up : PySem.W.ks_superIn K C C "__init__" = some (some (.builtin "ValueError.__init__"))) (op : PySem.W.nsIn K cStatics "thirdparty.any" = some none) (tp : (P.main.scope.names.lookup ("super" : Str)).isSome = false)
    (l : K.lookup fI = some ⟨oc, od, .func (PySem.W.fnX "__init__" "InvalidSaying.__init__" PySem.SayX.iA PySem.SayX.iB PySem.SayX.iS [("__class__", cc)] .none .none doc pm an (.ref cda) ct), osl⟩) (cd : PySem.W.codeIn K (.ref cda) "InvalidSaying.__init__" = true)
    (lc : K.lookup cda = some ⟨ccl, cdd, .fields vs, ccs⟩) (lv : vs[2]? = some (.str file tf)) (lf : ((P.main.file : Str) == file) = true) (le : K.lookup cc = some ⟨cl, cld, .cell (some (.ref C)), csl⟩) : ∃ fI, PySem.SayX.SayTxt P K mg C fI :=
  ⟨fI, { gC := PySem.W.mg_of X G aC, gS := PySem.W.mg_none_of X G aS, cls := ⟨nm, q, N, bs, _, sn, sub, ab, col, dd, m0, m1, m2, m3, m5, xL, rfl⟩, sa := sa, noN := noN, iC := iC, tC := tC, kC := kC, exC := exC, veC := veC, meC := meC, tyC := tyC, te := exm_self exC isC tyC suC, up := up, op := op, top := tp, fn := ⟨_, _, _, _, _, _, _, _, _, _, _, _, _, _, _, _, _, _, l, cd, lc, lv, lf, le⟩ }⟩
theorem say_use {Goal : Prop} {C fI g : Addr} {nm q : Str} {N : Addr} {bs : List Value} {sn : List Str} {sub : List Value} {ab : Bool} {col : Option Bool} {dd : Option Addr} {m0 m1 m2 m3 m5 : Option Value}
    {oc : Value} {od : Option Addr} {doc pm : Value} {an : Option Addr} {cda cc : Addr} {ct : Value} {osl : Array (Option Value)} {ccl : Value} {cdd : Option Addr} {vs : Array Value} {ccs : Array (Option Value)} {file : Str} {tf : Tok}
    {cl : Value} {cld : Option Addr} {csl : Array (Option Value)}
    (X : K.In h) (G : h.Ns mainGlobals mg) (aC : PySem.W.nsIn K mainGlobals "InvalidSaying" = some (some (.ref C))) (aS : PySem.W.nsIn K mainGlobals "super" = some none)
    (xL : K.lookup C = some (excClassObj nm q C N bs [.ref g, .type "ValueError", .type "Exception", .type "BaseException", .type "object"] true sn sub ab col dd m0 m1 m2 m3 m5 "ValueError.__new__"))
    (sa : PySem.W.findIn K (.ref C) "__setattr__" = some (some (.builtin "object.__setattr__"))) (noN : PySem.W.findIn K (.ref C) "saying" = some none) (iC : PySem.W.findIn K (.ref C) "__init__" = some (some (.ref fI)))
    (tC : PySem.W.typeIn K (.ref fI) = some (.type "function")) (kC : PySem.W.keepIn K (.ref C) = true) (exC : PySem.W.subIn K (.ref C) (.type "BaseException") = some true) (veC : PySem.W.subIn K (.ref C) (.type "ValueError") = some true)
    (meC : PySem.W.mroIn K C (.ref C) = some true) (tyC : PySem.W.typeIn K (.ref C) = some (.type "type")) (isC : PySem.W.isClsIn K C = true) (suC : PySem.W.subIn K (.ref C) (.ref C) = some true)
    (up : PySem.W.ks_superIn K C C "__init__" = some (some (.builtin "ValueError.__init__"))) (op : PySem.W.nsIn K cStatics "thirdparty.any" = some none) (tp : (P.main.scope.names.lookup ("super" : Str)).isSome = false)
    (l : K.lookup fI = some ⟨oc, od, .func (PySem.W.fnX "__init__" "InvalidSaying.__init__" PySem.SayX.iA PySem.SayX.iB PySem.SayX.iS [("__class__", cc)] .none .none doc pm an (.ref cda) ct), osl⟩) (cd : PySem.W.codeIn K (.ref cda) "InvalidSaying.__init__" = true)
    (lc : K.lookup cda = some ⟨ccl, cdd, .fields vs, ccs⟩) (lv : vs[2]? = some (.str file tf)) (lf : ((P.main.file : Str) == file) = true) (le : K.lookup cc = some ⟨cl, cld, .cell (some (.ref C)), csl⟩) (n : (∃ fI, PySem.SayX.SayTxt P K mg C fI) → Goal) : Goal :=
  n (say_mk X G aC aS xL sa noN iC tC kC exC veC meC tyC isC suC up op tp l cd lc lv lf le)
theorem dgl_mk {Goal : Prop} (X : K.In h) (a : PySem.W.nsIn K cStatics "sys.int_max_str_digits" = some none) (n : PySem.W.nsIn K cStatics "sys.int_max_str_digits" = some none → Goal) : Goal := n a
theorem set_use {Goal : Prop} {C : Addr} (X : K.In h) (G : h.Ns mainGlobals mg) (aC : PySem.W.nsIn K mainGlobals "Setting" = some (some (.ref C))) (pg : PySem.W.plainGet K C Str.empty = true) (hd : PySem.W.hasDictIn K C = true) (po : PySem.W.plainOver K C = true)
    (sa : PySem.W.findIn K (.ref C) "__setattr__" = some (some (.builtin "object.__setattr__"))) (n : mg "Setting" = some (.ref C) → Cls K C → Goal) : Goal := n (PySem.W.mg_of X G aC) ⟨pg, hd, po, sa⟩
theorem no_mk {C : Addr} {f : Str} (cl : Cls K C) (a : PySem.W.findIn K (.ref C) f = some none) : NoAttr K C f := a
theorem con_mk {C : Addr} {f : Str} {v : V} {u : Value} (a : PySem.W.findIn K (.ref C) f = some (some u)) (r : RelV v u) (g : PySem.W.specialIn K u "__get__" = some none) (c : PySem.W.copiedNames.contains f = false) : ∃ u, Con K C f v u := ⟨u, a, r, g, c⟩
theorem init_mk {C f D : Addr} {oc : Value} {od : Option Addr} {doc pm : Value} {an : Option Addr} {cdv ct : Value} {osl : Array (Option Value)} {u1 u2 : Value} (mk : PySem.W.makesIn K C = true) (i : PySem.W.findIn K (.ref C) "__init__" = some (some (.ref f))) (n : PySem.W.isFn K (.ref f) = true) (kc : PySem.W.keepIn K (.ref C) = true)
    (l : K.lookup f = some ⟨oc, od, .func (PySem.W.fnOf "__init__" "Setting.__init__" (defArgs sInit) (defBody sInit) (defScope sInit) .none (.ref D) doc pm an cdv ct), osl⟩) (c : PySem.W.codeIn K cdv "Setting.__init__" = true) (kf : PySem.W.keepIn K (.ref f) = true)
    (g1 : PySem.W.nsIn K D "grace" = some (some u1)) (r1 : RelV (.int 6) u1) (g2 : PySem.W.nsIn K D "helpers" = some (some u2)) (r2 : RelV (.int 1) u2) :
    ∃ f fd, Mk K C f ∧ FunD K "__init__" "Setting.__init__" (defArgs sInit) (defBody sInit) (defScope sInit) [] initKw f fd :=
  ⟨f, _, ⟨mk, i, n, kc⟩, ⟨⟨oc, od, .none, .ref D, doc, pm, an, cdv, ct, osl, rfl, l, c, .inl ⟨rfl, rfl⟩, .inr ⟨D, rfl, fun q hq => by
    rcases List.mem_cons.mp hq with rfl | hq
    · exact ⟨u1, g1, r1⟩
    · rw [List.mem_singleton.mp hq]
      exact ⟨u2, g2, r2⟩⟩⟩, kf⟩⟩
theorem seats_mk {C p f : Addr} {rest : List Value} {oc : Value} {od : Option Addr} {kV doc pm : Value} {an : Option Addr} {cdv ct : Value} {osl : Array (Option Value)} (a : PySem.W.findIn K (.ref C) "seats" = some (some (.ref p))) (g : PySem.W.specialIn K (.ref p) "__get__" = some (some (.builtin "property.__get__")))
    (t : PySem.W.takesIn K (.ref p) = some true) (r : PySem.W.recIn K p "property" = some (.ref f :: rest)) (l : K.lookup f = some ⟨oc, od, .func (PySem.W.fnOf "seats" "Setting.seats" (defArgs sSeats) (defBody sSeats) (defScope sSeats) .none kV doc pm an cdv ct), osl⟩)
    (c : PySem.W.codeIn K cdv "Setting.seats" = true) (k : PySem.W.keepIn K (.ref f) = true) : ∃ p g fd, PropOf K C "seats" p g ∧ Fun K "seats" "Setting.seats" sSeats g fd := ⟨p, f, _, ⟨a, g, t, rest, r⟩, fun_mk l c k⟩
theorem con_of {C : Addr} {f : Str} {v : V} {u : Value} (cl : Cls K C) (a : PySem.W.findIn K (.ref C) f = some (some u)) (r : RelV v u) (g : PySem.W.specialIn K u "__get__" = some none) (c : PySem.W.copiedNames.contains f = false) : ∃ u, Con K C f v u := con_mk a r g c
theorem init_of {C f D : Addr} {oc : Value} {od : Option Addr} {doc pm : Value} {an : Option Addr} {cdv ct : Value} {osl : Array (Option Value)} {u1 u2 : Value} (cl : Cls K C) (mk : PySem.W.makesIn K C = true) (i : PySem.W.findIn K (.ref C) "__init__" = some (some (.ref f))) (n : PySem.W.isFn K (.ref f) = true) (kc : PySem.W.keepIn K (.ref C) = true)
    (l : K.lookup f = some ⟨oc, od, .func (PySem.W.fnOf "__init__" "Setting.__init__" (defArgs sInit) (defBody sInit) (defScope sInit) .none (.ref D) doc pm an cdv ct), osl⟩) (c : PySem.W.codeIn K cdv "Setting.__init__" = true) (kf : PySem.W.keepIn K (.ref f) = true)
    (g1 : PySem.W.nsIn K D "grace" = some (some u1)) (r1 : RelV (.int 6) u1) (g2 : PySem.W.nsIn K D "helpers" = some (some u2)) (r2 : RelV (.int 1) u2) :
    ∃ f fd, Mk K C f ∧ FunD K "__init__" "Setting.__init__" (defArgs sInit) (defBody sInit) (defScope sInit) [] initKw f fd := init_mk mk i n kc l c kf g1 r1 g2 r2
theorem seats_of {C p f : Addr} {rest : List Value} {oc : Value} {od : Option Addr} {kV doc pm : Value} {an : Option Addr} {cdv ct : Value} {osl : Array (Option Value)} (cl : Cls K C) (a : PySem.W.findIn K (.ref C) "seats" = some (some (.ref p))) (g : PySem.W.specialIn K (.ref p) "__get__" = some (some (.builtin "property.__get__")))
    (t : PySem.W.takesIn K (.ref p) = some true) (r : PySem.W.recIn K p "property" = some (.ref f :: rest)) (l : K.lookup f = some ⟨oc, od, .func (PySem.W.fnOf "seats" "Setting.seats" (defArgs sSeats) (defBody sSeats) (defScope sSeats) .none kV doc pm an cdv ct), osl⟩)
    (c : PySem.W.codeIn K cdv "Setting.seats" = true) (k : PySem.W.keepIn K (.ref f) = true) : ∃ p g fd, PropOf K C "seats" p g ∧ Fun K "seats" "Setting.seats" sSeats g fd := seats_mk a g t r l c k
/-- all together -/
theorem all_mk {fa f CS CI fI : Addr} {oc : Value} {od an : Option Addr} {osl : Array (Option Value)} {kV doc pm cdv ct : Value} (X : K.In h) (G : h.Ns mainGlobals mg) (hfa : mg "law" = some (.ref fa)) (T : Txt P K mg) (SM : SetM K mg CS) (SC : SetC K CS) (TE : PySem.SayX.SayTxt P K mg CI fI)
    (D6 : Dk K mg "whole" sWhole) (D7 : Dk K mg "plain_number" sNum) (D17 : Dk K mg "is_worth" sWorth) (D18 : Dk K mg "life_ok" sLife) (D19 : Dk K mg "is_saying" sIsS) (D20 : Dk K mg "parse_saying" sParse)
    (D25 : Dk K mg "disk_line" sDisk) (D26 : Dk K mg "good_lines" sGood) (D27 : Dk K mg "_number_behind" sBehind) (D28 : Dk K mg "_sayings_from" sFrom) (D29 : Dk K mg "area_parts" sParts) (D30 : Dk K mg "mend_area" sMend) (D31 : Dk K mg "mended" sMended)
    (D33 : Dk K mg "_law_purse" sPurse) (D34 : Dk K mg "_law_mixed" sMixed) (D35 : Dk K mg "_law_draw" sDraw) (D36 : Dk K mg "_law_ring" sRing) (D37 : Dk K mg "_law_setting" sSetting) (D38 : Dk K mg "_law_worth" sLW) (D39 : Dk K mg "_law_life" sLL)
    (D40 : Dk K mg "_law_saying" sLS) (D41 : Dk K mg "_law_generation" sLG) (D42 : Dk K mg "_law_sign" sLN) (D43 : Dk K mg "_law_words" sLWd) (D44 : Dk K mg "_law_line" sLLn) (D45 : Dk K mg "_law_lines" sLLs) (D46 : Dk K mg "_law_area" sLA)
    (D47 : Dk K mg "_law_whole" sLH) (D48 : Dk K mg "_law_place" sLP) (D49 : Dk K mg "_law_changed" sLC) (D50 : Dk K mg "_law_longer" sLO)
    (a : PySem.W.nsIn K mainGlobals "law" = some (some (.ref f))) (l : K.lookup f = some ⟨oc, od, .func (PySem.W.fnOf "law" "law" (defArgs sLaw) (defBody sLaw) (defScope sLaw) .none kV doc pm an cdv ct), osl⟩) (c : PySem.W.codeIn K cdv "law" = true) (k : PySem.W.keepIn K (.ref f) = true) :
    ∃ fd : FuncData, (∀ (s : Shared) (u : Value), BindsTo s fd ⟨[u], []⟩ [("_law_script", u)]) ∧ ∀ base : Heap, K.In base → base.Ns mainGlobals mg → FnOk P w K mg base CX0 9 fa fd ["_law_script"] (spLaw K) := by
  have e := hfa.symm.trans (PySem.W.mg_of X G a)
  cases e
  refine ⟨PySem.W.fnOf "law" "law" (defArgs sLaw) (defBody sLaw) (defScope sLaw) .none kV doc pm an cdv ct, fun s v => .of_eq rfl, fun base _ _ => ?_⟩
  have d6 := ok_whole (P := P) (w := w) (base := base) D6 T
  have d7 := ok_num (P := P) (w := w) (base := base) D7 T
  have d17 := ok_worth (P := P) (w := w) (base := base) D17 T
  have d18 := ok_life (P := P) (w := w) (base := base) D18 T d6
  have d19 := ok_isS (P := P) (w := w) (base := base) D19 T SC d6 d18 d17
  have d25 := ok_disk (P := P) (w := w) (base := base) D25 T
  have d26 := ok_good (P := P) (w := w) (base := base) D26 T d25
  have d27 := ok_behind (P := P) (w := w) (base := base) D27 T d7
  have d28 := ok_from (P := P) (w := w) (base := base) D28 D20 T SC TE d7 d19
  have d29 := ok_parts (P := P) (w := w) (base := base) D29 T d26 d27 d28
  have d30 := ok_mend (P := P) (w := w) (base := base) D30 T d29
  have d31 := ok_mended (P := P) (w := w) (base := base) D31 T d30
  have d33 := ok_purse (P := P) (w := w) (base := base) D33 T
  have d34 := ok_mixed (P := P) (w := w) (base := base) D34 T
  have d35 := ok_draw (P := P) (w := w) (base := base) D35 T d34
  have d36 := ok_ring (P := P) (w := w) (base := base) D36 T
  have d37 := ok_setting (P := P) (w := w) (base := base) D37 SM T d6 d35
  have d38 := ok_lw (P := P) (w := w) (base := base) D38 T d35
  have d39 := ok_ll (P := P) (w := w) (base := base) D39 T d35
  have d40 := ok_ls (P := P) (w := w) (base := base) D40 T d35 d39 d38
  have d41 := ok_lg (P := P) (w := w) (base := base) D41 T d35
  have d42 := ok_ln (P := P) (w := w) (base := base) D42 T d35
  have d43 := ok_lwd (P := P) (w := w) (base := base) D43 T
  have d44 := ok_lln (P := P) (w := w) (base := base) D44 T
  have d45 := ok_lls (P := P) (w := w) (base := base) D45 T d40 d43 d44
  have d46 := ok_la (P := P) (w := w) (base := base) D46 T d35 d41 d44 d45
  have d47 := ok_lh (P := P) (w := w) (base := base) D47 T
  have d48 := ok_lp (P := P) (w := w) (base := base) D48 T d35
  have d49 := ok_lc (P := P) (w := w) (base := base) D49 T d35 d48 d47 d42
  have d50 := ok_lo (P := P) (w := w) (base := base) D50 T
  exact ok_law (fun_mk l c k) T d33 d35 d36 d37 d46 d49 d31 d45 d50
end
theorem walk {l : PySem.W.OpenLaw} {q : Program} {loose : List Str} {XP : (Str → Option Value) → Heap → Prop} {YP : World → Heap → Prop} {d : DefRec} {K : Params → PySem.W.Frag} (hn : l.most = some 63) (hdf : d.params.defaults = [])
    (hY : ∀ (w : World) (h : Heap), YP w h → (K w.params).In h)
    (F : ∀ (w : World) (mg : Str → Option Value) (fa : Addr) (h : Heap), (K w.params).In h → h.Ns mainGlobals mg → mg d.name = some (.ref fa) →
      ∃ fd : FuncData, (∀ (s : Shared) (u : Value), BindsTo s fd ⟨[u], []⟩ [("_law_script", u)]) ∧ ∀ base : Heap, (K w.params).In base → base.Ns mainGlobals mg → FnOk l.prog w (K w.params) mg base CX0 9 fa fd ["_law_script"] (spLaw (K w.params))) :
    PySem.W.WalkO q loose XP YP l.row.toRowW d [] (fun f vs => PySem.call f vs) :=
  L2.walk_of (n := 63) (k := 9) (x := "_law_script") (CX := fun _ => CX0) (sp := fun w => spLaw (K w.params)) hn (by decide) hdf ⟨rfl, by decide, by decide⟩ hY F (fun _ _ a ns _ _ hS => ⟨a, ns, rfl, hS, fun _ => rfl⟩) fun _ _ _ _ _ z => z
end K35

open PySem PySem.W PyProof.Rows in
set_option maxRecDepth 100000 in
set_option maxHeartbeats 0 in
theorem PySem.Challenge.cw_livingroll_k35_whole_mended_twice_as_onc_holds : PySem.Challenge.rw_livingroll_k35_whole_mended_twice_as_onc.Holds := by
  w_on; o_law; k_head; (case hw => w_witness2)
  k_fill
  refine K35.walk (l := PySem.Challenge.rw_livingroll_k35_whole_mended_twice_as_onc) rfl rfl (fun w h Y => PySem.W.kIn_of Y) ?F
  case F =>
    intro w mg fa h KX G hmg
    refine' K35.use (PySem.W.mg_none_of (n := "isinstance") KX G ?a_1) ?n_1
    (case a_1 => k_is)
    intro b0
    refine' K35.use (PySem.W.mg_none_of (n := "int") KX G ?a_2) ?n_2
    (case a_2 => k_is)
    intro b1
    refine' K35.use (PySem.W.mg_none_of (n := "bool") KX G ?a_3) ?n_3
    (case a_3 => k_is)
    intro b2
    refine' K35.use (PySem.W.mg_none_of (n := "str") KX G ?a_4) ?n_4
    (case a_4 => k_is)
    intro b3
    refine' K35.use (PySem.W.mg_none_of (n := "tuple") KX G ?a_5) ?n_5
    (case a_5 => k_is)
    intro b4
    refine' K35.use (PySem.W.mg_none_of (n := "len") KX G ?a_6) ?n_6
    (case a_6 => k_is)
    intro b5
    refine' K35.use (PySem.W.mg_none_of (n := "all") KX G ?a_7) ?n_7
    (case a_7 => k_is)
    intro b6
    refine' K35.use (PySem.W.mg_none_of (n := "sum") KX G ?a_8) ?n_8
    (case a_8 => k_is)
    intro b7
    refine' K35.use (PySem.W.mg_none_of (n := "ord") KX G ?a_9) ?n_9
    (case a_9 => k_is)
    intro b8
    refine' K35.use (PySem.W.mg_none_of (n := "enumerate") KX G ?a_10) ?n_10
    (case a_10 => k_is)
    intro b9
    refine' K35.use (PySem.W.mg_none_of (n := "range") KX G ?a_11) ?n_11
    (case a_11 => k_is)
    intro b10
    refine' K35.use (PySem.W.mg_none_of (n := "abs") KX G ?a_12) ?n_12
    (case a_12 => k_is)
    intro b11
    refine' K35.use (PySem.W.mg_none_of (n := "min") KX G ?a_13) ?n_13
    (case a_13 => k_is)
    intro b12
    refine' K35.use (PySem.W.mg_none_of (n := "max") KX G ?a_14) ?n_14
    (case a_14 => k_is)
    intro b13
    refine' K35.use (K35.val_mk (x := "MOST_LIFE") (v := .int (10 ^ 60 - 1)) KX G ?a_15 ?r_15) ?n_15
    (case a_15 => k_is)
    (case r_15 => exact ⟨_, rfl⟩)
    intro v0
    refine' K35.use (K35.val_mk (x := "LIFE_DIGITS") (v := .int 60) KX G ?a_16 ?r_16) ?n_16
    (case a_16 => k_is)
    (case r_16 => exact ⟨_, rfl⟩)
    intro v1
    refine' K35.use (K35.val_mk (x := "SEAT_DIGITS") (v := .int 3) KX G ?a_17 ?r_17) ?n_17
    (case a_17 => k_is)
    (case r_17 => exact ⟨_, rfl⟩)
    intro v2
    refine' K35.use (K35.val_mk (x := "WORTH_LENGTH") (v := .int 12) KX G ?a_18 ?r_18) ?n_18
    (case a_18 => k_is)
    (case r_18 => exact ⟨_, rfl⟩)
    intro v3
    refine' K35.use (K35.val_mk (x := "WORTH_SIGNS") (v := .str "abcdefghijklmnopqrstuvwxyz0123456789") KX G ?a_19 ?r_19) ?n_19
    (case a_19 => k_is)
    (case r_19 => exact ⟨_, rfl⟩)
    intro v4
    refine' K35.use (K35.val_mk (x := "EMPTY_WORTH") (v := .str "-") KX G ?a_20 ?r_20) ?n_20
    (case a_20 => k_is)
    (case r_20 => exact ⟨_, rfl⟩)
    intro v5
    refine' K35.use (K35.val_mk (x := "CHECK_MODULUS") (v := .int 9973) KX G ?a_21 ?r_21) ?n_21
    (case a_21 => k_is)
    (case r_21 => exact ⟨_, rfl⟩)
    intro v6
    refine' K35.use (K35.val_mk (x := "CHECK_WIDTH") (v := .int 5) KX G ?a_22 ?r_22) ?n_22
    (case a_22 => k_is)
    (case r_22 => exact ⟨_, rfl⟩)
    intro v7
    refine' K35.use (K35.val_mk (x := "NUMBER_DIGITS") (v := .int 9) KX G ?a_23 ?r_23) ?n_23
    (case a_23 => k_is)
    (case r_23 => exact ⟨_, rfl⟩)
    intro v8
    refine' K35.use (K35.marks_mk KX G ?a_24 ?l_24 ?r1_24 ?r2_24 ?r3_24 ?r4_24) ?n_24
    (case a_24 => k_is)
    (case l_24 => k_is)
    (case r1_24 => exact ⟨_, rfl⟩)
    (case r2_24 => exact ⟨_, rfl⟩)
    (case r3_24 => exact ⟨_, rfl⟩)
    (case r4_24 => exact ⟨_, rfl⟩)
    intro vm
    refine' K35.dgl_mk KX ?a_25 ?n_25
    (case a_25 => k_is)
    intro dgl
    refine' K35.say_use (P := PySem.Challenge.rw_livingroll_k35_whole_mended_twice_as_onc.prog) KX G ?aC_26 ?aS_26 ?xL_26 ?sa_26 ?noN_26 ?iC_26 ?tC_26 ?kC_26 ?exC_26 ?veC_26 ?meC_26 ?tyC_26 ?isC_26 ?suC_26 ?up_26 ?op_26 ?tp_26 ?l_26 ?cd_26 ?lc_26 ?lv_26 ?lf_26 ?le_26 ?n_26
    (case aC_26 => k_is)
    (case aS_26 => k_is)
    (case xL_26 => k_is)
    (case sa_26 => k_is)
    (case noN_26 => k_is)
    (case iC_26 => k_is)
    (case tC_26 => k_is)
    (case kC_26 => k_is)
    (case exC_26 => k_is)
    (case veC_26 => k_is)
    (case meC_26 => k_is)
    (case tyC_26 => k_is)
    (case isC_26 => k_is)
    (case suC_26 => first | rfl | k_is)
    (case up_26 => first | rfl | k_is)
    (case op_26 => k_is)
    (case tp_26 => decide +kernel)
    (case l_26 => k_is)
    (case cd_26 => k_is)
    (case lc_26 => k_is)
    (case lv_26 => rfl)
    (case lf_26 => decide +kernel)
    (case le_26 => k_is)
    intro ⟨fI, TE⟩
    refine' K35.set_use KX G ?aC_27 ?pg_27 ?hd_27 ?po_27 ?sa_27 ?n_27
    (case aC_27 => k_is)
    (case pg_27 => k_is)
    (case hd_27 => k_is)
    (case po_27 => k_is)
    (case sa_27 => k_is)
    intro gS cl
    refine' K35.use (K35.no_mk (f := "bits") cl ?a_28) ?n_28
    (case a_28 => k_is)
    intro n0
    refine' K35.use (K35.no_mk (f := "patience") cl ?a_29) ?n_29
    (case a_29 => k_is)
    intro n1
    refine' K35.use (K35.no_mk (f := "room") cl ?a_30) ?n_30
    (case a_30 => k_is)
    intro n2
    refine' K35.use (K35.no_mk (f := "grace") cl ?a_31) ?n_31
    (case a_31 => k_is)
    intro n3
    refine' K35.use (K35.no_mk (f := "helpers") cl ?a_32) ?n_32
    (case a_32 => k_is)
    intro n4
    refine' K35.use (K35.con_of (f := "MOST_BITS") (v := .int 8) cl ?a_33 ?r_33 ?g_33 ?c_33) ?n_33
    (case a_33 => k_is)
    (case r_33 => exact ⟨_, rfl⟩)
    (case g_33 => k_is)
    (case c_33 => decide +kernel)
    intro c0
    refine' K35.use (K35.con_of (f := "MOST_PATIENCE") (v := .int 6) cl ?a_34 ?r_34 ?g_34 ?c_34) ?n_34
    (case a_34 => k_is)
    (case r_34 => exact ⟨_, rfl⟩)
    (case g_34 => k_is)
    (case c_34 => decide +kernel)
    intro c1
    refine' K35.use (K35.con_of (f := "MOST_ROOM") (v := .int 64) cl ?a_35 ?r_35 ?g_35 ?c_35) ?n_35
    (case a_35 => k_is)
    (case r_35 => exact ⟨_, rfl⟩)
    (case g_35 => k_is)
    (case c_35 => decide +kernel)
    intro c2
    refine' K35.use (K35.con_of (f := "MOST_GRACE") (v := .int 200) cl ?a_36 ?r_36 ?g_36 ?c_36) ?n_36
    (case a_36 => k_is)
    (case r_36 => exact ⟨_, rfl⟩)
    (case g_36 => k_is)
    (case c_36 => decide +kernel)
    intro c3
    refine' K35.use (K35.con_of (f := "MOST_HELPERS") (v := .int 3) cl ?a_37 ?r_37 ?g_37 ?c_37) ?n_37
    (case a_37 => k_is)
    (case r_37 => exact ⟨_, rfl⟩)
    (case g_37 => k_is)
    (case c_37 => decide +kernel)
    intro c4
    refine' K35.use (K35.init_of cl ?mk_38 ?i_38 ?nn_38 ?kc_38 ?l_38 ?c_38 ?kf_38 ?g1_38 ?r1_38 ?g2_38 ?r2_38) ?n_38
    (case mk_38 => k_is)
    (case i_38 => k_is)
    (case nn_38 => k_is)
    (case kc_38 => k_is)
    (case l_38 => k_is)
    (case c_38 => k_is)
    (case kf_38 => k_is)
    (case g1_38 => k_is)
    (case r1_38 => exact ⟨_, rfl⟩)
    (case g2_38 => k_is)
    (case r2_38 => exact ⟨_, rfl⟩)
    intro im
    refine' K35.use (K35.seats_of cl ?a_39 ?g_39 ?t_39 ?r_39 ?l_39 ?c_39 ?k_39) ?n_39
    (case a_39 => k_is)
    (case g_39 => k_is)
    (case t_39 => k_is)
    (case r_39 => k_is)
    (case l_39 => k_is)
    (case c_39 => k_is)
    (case k_39 => k_is)
    intro sm
    refine' K35.use (K35.dk_mk (x := "whole") (st := K35.sWhole) KX G ?a_40 ?l_40 ?c_40 ?k_40) ?n_40
    (case a_40 => k_is)
    (case l_40 => k_is)
    (case c_40 => k_is)
    (case k_40 => k_is)
    intro D6
    refine' K35.use (K35.dk_mk (x := "plain_number") (st := K35.sNum) KX G ?a_41 ?l_41 ?c_41 ?k_41) ?n_41
    (case a_41 => k_is)
    (case l_41 => k_is)
    (case c_41 => k_is)
    (case k_41 => k_is)
    intro D7
    refine' K35.use (K35.dk_mk (x := "is_worth") (st := K35.sWorth) KX G ?a_42 ?l_42 ?c_42 ?k_42) ?n_42
    (case a_42 => k_is)
    (case l_42 => k_is)
    (case c_42 => k_is)
    (case k_42 => k_is)
    intro D17
    refine' K35.use (K35.dk_mk (x := "life_ok") (st := K35.sLife) KX G ?a_43 ?l_43 ?c_43 ?k_43) ?n_43
    (case a_43 => k_is)
    (case l_43 => k_is)
    (case c_43 => k_is)
    (case k_43 => k_is)
    intro D18
    refine' K35.use (K35.dk_mk (x := "is_saying") (st := K35.sIsS) KX G ?a_44 ?l_44 ?c_44 ?k_44) ?n_44
    (case a_44 => k_is)
    (case l_44 => k_is)
    (case c_44 => k_is)
    (case k_44 => k_is)
    intro D19
    refine' K35.use (K35.dk_mk (x := "parse_saying") (st := K35.sParse) KX G ?a_45 ?l_45 ?c_45 ?k_45) ?n_45
    (case a_45 => k_is)
    (case l_45 => k_is)
    (case c_45 => k_is)
    (case k_45 => k_is)
    intro D20
    refine' K35.use (K35.dk_mk (x := "disk_line") (st := K35.sDisk) KX G ?a_46 ?l_46 ?c_46 ?k_46) ?n_46
    (case a_46 => k_is)
    (case l_46 => k_is)
    (case c_46 => k_is)
    (case k_46 => k_is)
    intro D25
    refine' K35.use (K35.dk_mk (x := "good_lines") (st := K35.sGood) KX G ?a_47 ?l_47 ?c_47 ?k_47) ?n_47
    (case a_47 => k_is)
    (case l_47 => k_is)
    (case c_47 => k_is)
    (case k_47 => k_is)
    intro D26
    refine' K35.use (K35.dk_mk (x := "_number_behind") (st := K35.sBehind) KX G ?a_48 ?l_48 ?c_48 ?k_48) ?n_48
    (case a_48 => k_is)
    (case l_48 => k_is)
    (case c_48 => k_is)
    (case k_48 => k_is)
    intro D27
    refine' K35.use (K35.dk_mk (x := "_sayings_from") (st := K35.sFrom) KX G ?a_49 ?l_49 ?c_49 ?k_49) ?n_49
    (case a_49 => k_is)
    (case l_49 => k_is)
    (case c_49 => k_is)
    (case k_49 => k_is)
    intro D28
    refine' K35.use (K35.dk_mk (x := "area_parts") (st := K35.sParts) KX G ?a_50 ?l_50 ?c_50 ?k_50) ?n_50
    (case a_50 => k_is)
    (case l_50 => k_is)
    (case c_50 => k_is)
    (case k_50 => k_is)
    intro D29
    refine' K35.use (K35.dk_mk (x := "mend_area") (st := K35.sMend) KX G ?a_51 ?l_51 ?c_51 ?k_51) ?n_51
    (case a_51 => k_is)
    (case l_51 => k_is)
    (case c_51 => k_is)
    (case k_51 => k_is)
    intro D30
    refine' K35.use (K35.dk_mk (x := "mended") (st := K35.sMended) KX G ?a_52 ?l_52 ?c_52 ?k_52) ?n_52
    (case a_52 => k_is)
    (case l_52 => k_is)
    (case c_52 => k_is)
    (case k_52 => k_is)
    intro D31
    refine' K35.use (K35.dk_mk (x := "_law_purse") (st := K35.sPurse) KX G ?a_53 ?l_53 ?c_53 ?k_53) ?n_53
    (case a_53 => k_is)
    (case l_53 => k_is)
    (case c_53 => k_is)
    (case k_53 => k_is)
    intro D33
    refine' K35.use (K35.dk_mk (x := "_law_mixed") (st := K35.sMixed) KX G ?a_54 ?l_54 ?c_54 ?k_54) ?n_54
    (case a_54 => k_is)
    (case l_54 => k_is)
    (case c_54 => k_is)
    (case k_54 => k_is)
    intro D34
    refine' K35.use (K35.dk_mk (x := "_law_draw") (st := K35.sDraw) KX G ?a_55 ?l_55 ?c_55 ?k_55) ?n_55
    (case a_55 => k_is)
    (case l_55 => k_is)
    (case c_55 => k_is)
    (case k_55 => k_is)
    intro D35
    refine' K35.use (K35.dk_mk (x := "_law_ring") (st := K35.sRing) KX G ?a_56 ?l_56 ?c_56 ?k_56) ?n_56
    (case a_56 => k_is)
    (case l_56 => k_is)
    (case c_56 => k_is)
    (case k_56 => k_is)
    intro D36
    refine' K35.use (K35.dk_mk (x := "_law_setting") (st := K35.sSetting) KX G ?a_57 ?l_57 ?c_57 ?k_57) ?n_57
    (case a_57 => k_is)
    (case l_57 => k_is)
    (case c_57 => k_is)
    (case k_57 => k_is)
    intro D37
    refine' K35.use (K35.dk_mk (x := "_law_worth") (st := K35.sLW) KX G ?a_58 ?l_58 ?c_58 ?k_58) ?n_58
    (case a_58 => k_is)
    (case l_58 => k_is)
    (case c_58 => k_is)
    (case k_58 => k_is)
    intro D38
    refine' K35.use (K35.dk_mk (x := "_law_life") (st := K35.sLL) KX G ?a_59 ?l_59 ?c_59 ?k_59) ?n_59
    (case a_59 => k_is)
    (case l_59 => k_is)
    (case c_59 => k_is)
    (case k_59 => k_is)
    intro D39
    refine' K35.use (K35.dk_mk (x := "_law_saying") (st := K35.sLS) KX G ?a_60 ?l_60 ?c_60 ?k_60) ?n_60
    (case a_60 => k_is)
    (case l_60 => k_is)
    (case c_60 => k_is)
    (case k_60 => k_is)
    intro D40
    refine' K35.use (K35.dk_mk (x := "_law_generation") (st := K35.sLG) KX G ?a_61 ?l_61 ?c_61 ?k_61) ?n_61
    (case a_61 => k_is)
    (case l_61 => k_is)
    (case c_61 => k_is)
    (case k_61 => k_is)
    intro D41
    refine' K35.use (K35.dk_mk (x := "_law_sign") (st := K35.sLN) KX G ?a_62 ?l_62 ?c_62 ?k_62) ?n_62
    (case a_62 => k_is)
    (case l_62 => k_is)
    (case c_62 => k_is)
    (case k_62 => k_is)
    intro D42
    refine' K35.use (K35.dk_mk (x := "_law_words") (st := K35.sLWd) KX G ?a_63 ?l_63 ?c_63 ?k_63) ?n_63
    (case a_63 => k_is)
    (case l_63 => k_is)
    (case c_63 => k_is)
    (case k_63 => k_is)
    intro D43
    refine' K35.use (K35.dk_mk (x := "_law_line") (st := K35.sLLn) KX G ?a_64 ?l_64 ?c_64 ?k_64) ?n_64
    (case a_64 => k_is)
    (case l_64 => k_is)
    (case c_64 => k_is)
    (case k_64 => k_is)
    intro D44
    refine' K35.use (K35.dk_mk (x := "_law_lines") (st := K35.sLLs) KX G ?a_65 ?l_65 ?c_65 ?k_65) ?n_65
    (case a_65 => k_is)
    (case l_65 => k_is)
    (case c_65 => k_is)
    (case k_65 => k_is)
    intro D45
    refine' K35.use (K35.dk_mk (x := "_law_area") (st := K35.sLA) KX G ?a_66 ?l_66 ?c_66 ?k_66) ?n_66
    (case a_66 => k_is)
    (case l_66 => k_is)
    (case c_66 => k_is)
    (case k_66 => k_is)
    intro D46
    refine' K35.use (K35.dk_mk (x := "_law_whole") (st := K35.sLH) KX G ?a_67 ?l_67 ?c_67 ?k_67) ?n_67
    (case a_67 => k_is)
    (case l_67 => k_is)
    (case c_67 => k_is)
    (case k_67 => k_is)
    intro D47
    refine' K35.use (K35.dk_mk (x := "_law_place") (st := K35.sLP) KX G ?a_68 ?l_68 ?c_68 ?k_68) ?n_68
    (case a_68 => k_is)
    (case l_68 => k_is)
    (case c_68 => k_is)
    (case k_68 => k_is)
    intro D48
    refine' K35.use (K35.dk_mk (x := "_law_changed") (st := K35.sLC) KX G ?a_69 ?l_69 ?c_69 ?k_69) ?n_69
    (case a_69 => k_is)
    (case l_69 => k_is)
    (case c_69 => k_is)
    (case k_69 => k_is)
    intro D49
    refine' K35.use (K35.dk_mk (x := "_law_longer") (st := K35.sLO) KX G ?a_70 ?l_70 ?c_70 ?k_70) ?n_70
    (case a_70 => k_is)
    (case l_70 => k_is)
    (case c_70 => k_is)
    (case k_70 => k_is)
    intro D50
    refine' K35.all_mk KX G hmg ⟨b0, b1, b2, b3, b4, b5, b6, b7, b8, b9, b10, b11, b12, b13, dgl, v0, v1, v2, v3, v4, v5, v6, v7, v8, vm⟩ ⟨gS, cl, n0, n1, n2, n3, n4, c0, c1, c2, c3, c4, im⟩ ⟨cl, n0, sm⟩ TE D6 D7 D17 D18 D19 D20 D25 D26 D27 D28 D29 D30 D31 D33 D34 D35 D36 D37 D38 D39 D40 D41 D42 D43 D44 D45 D46 D47 D48 D49 D50 ?a_71 ?l_71 ?c_71 ?k_71
    (case a_71 => k_is)
    (case l_71 => k_is)
    (case c_71 => k_is)
    (case k_71 => k_is)

