import PyProof.Rows.All
import Wide.All
import OpenK.AllK
import Wide.FinOn
import HandS.CallLocal
import HandS.Codes
import HandS.Defaults
import HandS.DictComp
import HandS.ForMost
import HandS.Head0
import HandS.Head1
import HandS.Head2
import HandS.HeadEnd
import HandS.HeadHook1
import HandS.HeadHook2
import HandS.IsInst
import HandS.Iter
import HandS.More
import HandS.Style
import HandS.TupAny
import HandS.Walk
import HandS.Wide
import KE.GoesEnum
import KE.KStateDown
import Lean
import PyProof.DictCopy
import PySem.Challenge.RW_oncekinds_k11_whole_deep_programs
set_option Elab.async false
set_option linter.all false
set_option maxRecDepth 100000
namespace K11
open PySem PySem.Spec PyProof.Rows L2
def top (i : Nat) : Stmt := PySem.Challenge.pw_oncekinds_k11_whole_deep_programs.main.body.getD i (.Pass ⟨0, 0, 0, 0⟩)
abbrev s_is_integer : Stmt := top 6
abbrev s_is_within : Stmt := top 7
abbrev s_is_name : Stmt := top 8
abbrev s_is_give : Stmt := top 11
abbrev s_is_take : Stmt := top 12
abbrev s_name_of : Stmt := top 13
abbrev s_is_word : Stmt := top 14
abbrev s_asked_by : Stmt := top 15
abbrev s_wrong_end : Stmt := top 16
abbrev s_wrong_second : Stmt := top 17
abbrev s_raw_ends : Stmt := top 18
abbrev s_uses : Stmt := top 19
abbrev s_taken : Stmt := top 20
abbrev s_wrong_take : Stmt := top 21
abbrev s_fault_in : Stmt := top 22
abbrev s_raw_open : Stmt := top 25
abbrev s_open_names : Stmt := top 26
abbrev s_givens : Stmt := top 27
abbrev s_takes : Stmt := top 28
abbrev s_ends : Stmt := top 29
abbrev s_check_place : Stmt := top 30
abbrev s_part : Stmt := top 31
abbrev s_letters_name : Stmt := top 34
abbrev s_word_renamed : Stmt := top 35
abbrev s_words_renamed : Stmt := top 36
abbrev s_raw_standard : Stmt := top 37
abbrev s_standard : Stmt := top 38
abbrev s_same : Stmt := top 39
abbrev s_apart : Stmt := top 40
abbrev s_applied : Stmt := top 41
abbrev s_law_pot : Stmt := top 43
abbrev s_law_draw : Stmt := top 44
abbrev s_law_letters : Stmt := top 45
abbrev s_law_fresh : Stmt := top 46
abbrev s_law_mixed : Stmt := top 47
abbrev s_law_ends : Stmt := top 48
abbrev s_law_open : Stmt := top 49
abbrev s_law_marked : Stmt := top 50
abbrev s_law_standard : Stmt := top 52
abbrev s_law_sides : Stmt := top 53
abbrev s_law_comb : Stmt := top 54
abbrev s_law_nested : Stmt := top 55
abbrev s_law_chain : Stmt := top 56
abbrev s_law : Stmt := top 57
abbrev s_Program_init : Stmt := inClass (top 23) 0
abbrev s_RawProgram_init : Stmt := inClass (top 24) 0
end K11

set_option linter.all false
/-! Words as lists of codes; the plain functions of the package. No library. -/
namespace K11
abbrev Wd := List Nat
def isGive (w : Wd) : Bool := decide (w = [64])
def isTake (w : Wd) : Bool := decide (w.take 1 = [47])
def nameOf (w : Wd) : Wd := if isTake w = true then w.drop 1 else w
def isLet (w : Wd) : Bool := decide (1 ≤ w.length) && decide (w.length ≤ 8) && w.all fun c => decide (97 ≤ c) && decide (c ≤ 122)
def isWd (w : Wd) : Bool := isGive w || isLet w || (isTake w && isLet (w.drop 1))
def arity (w : Wd) : Nat := if isGive w = true then 2 else if isTake w = true then 1 else 0
/-- a name that stands: neither a give nor a take -/
def isNm (w : Wd) : Bool := !isGive w && !isTake w
theorem arity_le (w : Wd) : arity w ≤ 2 := by unfold arity; split <;> (try split) <;> omega
theorem give_not_take {w : Wd} (h : isGive w = true) : isTake w = false := by
  have e : w = [64] := of_decide_eq_true h
  subst e; rfl
theorem take_not_give {w : Wd} (h : isTake w = true) : isGive w = false := by
  cases e : isGive w with
  | false => rfl
  | true => rw [give_not_take e] at h; cases h
theorem isTake_cons (n : Wd) : isTake (47 :: n) = true := by
  unfold isTake; exact decide_eq_true (by rfl)
theorem isTake_iff {w : Wd} : isTake w = true ↔ ∃ n, w = 47 :: n := by
  constructor
  · intro h
    have e : w.take 1 = [47] := of_decide_eq_true h
    cases w with
    | nil => cases e
    | cons c r =>
      have : c = 47 := by simpa using e
      exact ⟨r, by rw [this]⟩
  · rintro ⟨n, rfl⟩; exact isTake_cons n
theorem nameOf_take (n : Wd) : nameOf (47 :: n) = n := by unfold nameOf; rw [if_pos (isTake_cons n)]; rfl
theorem isLet_nm {w : Wd} (h : isLet w = true) : isGive w = false ∧ isTake w = false := by
  unfold isLet at h
  simp only [Bool.and_eq_true, decide_eq_true_eq] at h
  obtain ⟨⟨h1, h2⟩, h3⟩ := h
  constructor
  · cases e : isGive w with
    | false => rfl
    | true =>
      have e : w = [64] := of_decide_eq_true e
      subst e; exact absurd h3 (by decide)
  · cases e : isTake w with
    | false => rfl
    | true =>
      obtain ⟨n, rfl⟩ := isTake_iff.mp e
      simp at h3
theorem isLet_isNm {w : Wd} (h : isLet w = true) : isNm w = true := by
  unfold isNm; rw [(isLet_nm h).1, (isLet_nm h).2]; rfl
/-! ### letters -/
/-- the loop: left, found -/
def lett (m : Nat) (acc : Wd) : Wd := if h : m = 0 then acc else lett ((m - 1) / 26) ((97 + (m - 1) % 26) :: acc)
termination_by m
decreasing_by
  have : (m - 1) / 26 ≤ m - 1 := Nat.div_le_self _ _
  omega
def letters (n : Nat) : Wd := lett (n + 1) []
theorem lett_zero (acc : Wd) : lett 0 acc = acc := by unfold lett; simp
theorem lett_succ (m : Nat) (acc : Wd) : lett (m + 1) acc = lett (m / 26) ((97 + m % 26) :: acc) := by
  rw [lett]; simp
/-- reading back -/
def lval (a : Nat) (w : Wd) : Nat := w.foldl (fun a c => a * 26 + (c - 97) + 1) a
theorem lval_lett (m : Nat) : ∀ acc, lval 0 (lett m acc) = lval m acc := by
  induction m using Nat.strongRecOn with
  | ind m ih =>
    intro acc
    cases m with
    | zero => rw [lett_zero]
    | succ m =>
      rw [lett_succ, ih (m / 26) (by have := Nat.div_le_self m 26; omega)]
      show lval (m / 26 * 26 + (97 + m % 26 - 97) + 1) acc = lval (m + 1) acc
      congr 1
      have := Nat.div_add_mod m 26
      omega
theorem letters_inj {a b : Nat} (h : letters a = letters b) : a = b := by
  have e := congrArg (lval 0) h
  unfold letters at e
  rw [lval_lett, lval_lett] at e
  have : a + 1 = b + 1 := e
  omega
theorem lett_chars (m : Nat) : ∀ acc : Wd, (∀ c ∈ acc, 97 ≤ c ∧ c ≤ 122) → ∀ c ∈ lett m acc, 97 ≤ c ∧ c ≤ 122 := by
  induction m using Nat.strongRecOn with
  | ind m ih =>
    intro acc h
    cases m with
    | zero => rw [lett_zero]; exact h
    | succ m =>
      rw [lett_succ]
      refine ih (m / 26) (by have := Nat.div_le_self m 26; omega) _ ?_
      intro c hc
      rcases List.mem_cons.mp hc with e | e
      · subst e; omega
      · exact h c e
theorem letters_chars (n : Nat) : ∀ c ∈ letters n, 97 ≤ c ∧ c ≤ 122 := lett_chars _ _ (by simp)
theorem lett_length_ge (m : Nat) : ∀ acc : Wd, acc.length ≤ (lett m acc).length := by
  induction m using Nat.strongRecOn with
  | ind m ih =>
    intro acc
    cases m with
    | zero => rw [lett_zero]; exact Nat.le_refl _
    | succ m =>
      rw [lett_succ]
      have := ih (m / 26) (by have := Nat.div_le_self m 26; omega) ((97 + m % 26) :: acc)
      simp only [List.length_cons] at this
      omega
/-- the greatest number of k letters, counted from 1 -/
def lmax : Nat → Nat
  | 0 => 0
  | k + 1 => 26 * lmax k + 26
theorem lett_length_le (k : Nat) : ∀ (m : Nat) (acc : Wd), m ≤ lmax k → (lett m acc).length ≤ acc.length + k := by
  induction k with
  | zero =>
    intro m acc h
    have : m = 0 := Nat.le_zero.mp h
    subst this
    rw [lett_zero]; exact Nat.le_refl _
  | succ k ih =>
    intro m acc h
    cases m with
    | zero => rw [lett_zero]; omega
    | succ m =>
      rw [lett_succ]
      have h' : m + 1 ≤ 26 * lmax k + 26 := h
      have := ih (m / 26) ((97 + m % 26) :: acc) (by omega)
      simp only [List.length_cons] at this
      omega
theorem lett_length_bound (m : Nat) : ∀ acc : Wd, (lett m acc).length ≤ acc.length + m := by
  induction m using Nat.strongRecOn with
  | ind m ih =>
    intro acc
    cases m with
    | zero => rw [lett_zero]; exact Nat.le_refl _
    | succ m =>
      rw [lett_succ]
      have h1 : m / 26 ≤ m := Nat.div_le_self m 26
      have := ih (m / 26) (by omega) ((97 + m % 26) :: acc)
      simp only [List.length_cons] at this
      omega
theorem letters_isLet {n : Nat} (h : n < 217180147158) : isLet (letters n) = true := by
  have hb : (letters n).length ≤ 0 + 8 := lett_length_le 8 (n + 1) [] (by show n + 1 ≤ lmax 8; have : lmax 8 = 217180147158 := by decide
                                                                          omega)
  have hg : 1 ≤ (letters n).length := by
    unfold letters
    rw [lett_succ]
    have := lett_length_ge (n / 26) [97 + n % 26]
    simpa using this
  unfold isLet
  simp only [Bool.and_eq_true, decide_eq_true_eq]
  refine ⟨⟨hg, by omega⟩, List.all_eq_true.mpr fun c hc => ?_⟩
  simp only [Bool.and_eq_true, decide_eq_true_eq]
  exact letters_chars n c hc
theorem letters_ne_nil (n : Nat) : letters n ≠ [] := by
  intro e
  have hg : 1 ≤ (letters n).length := by
    unfold letters
    rw [lett_succ]
    have := lett_length_ge (n / 26) [97 + n % 26]
    simpa using this
  rw [e] at hg; simp at hg
theorem letters_nm (n : Nat) : isGive (letters n) = false ∧ isTake (letters n) = false := by
  constructor
  · cases e : isGive (letters n) with
    | false => rfl
    | true =>
      have e : letters n = [64] := of_decide_eq_true e
      have := letters_chars n 64 (by rw [e]; simp)
      omega
  · cases e : isTake (letters n) with
    | false => rfl
    | true =>
      obtain ⟨r, e⟩ := isTake_iff.mp e
      have := letters_chars n 47 (by rw [e]; simp)
      omega
/-! ### a pigeonhole -/
theorem nodup_len {α : Type} [DecidableEq α] : ∀ {l m : List α}, l.Nodup → (∀ x ∈ l, x ∈ m) → l.length ≤ m.length
  | [], m, _, _ => Nat.zero_le _
  | a :: l, m, hn, hs => by
    have ha : a ∈ m := hs a (by simp)
    have h1 := List.nodup_cons.mp hn
    have h2 : l.length ≤ (m.erase a).length := nodup_len h1.2 fun x hx => by
      have hxa : x ≠ a := fun e => h1.1 (e ▸ hx)
      exact (List.mem_erase_of_ne hxa).mpr (hs x (by simp [hx]))
    rw [List.length_erase_of_mem ha] at h2
    have : 0 < m.length := List.length_pos_of_mem ha
    simp only [List.length_cons]
    omega
theorem pigeon (L : List Wd) (n : Nat) (h : ∀ j, j ≤ L.length → letters (n + j) ∈ L) : False := by
  have hn : ((List.range (L.length + 1)).map fun j => letters (n + j)).Nodup := by
    refine List.pairwise_map.mpr ?_
    refine List.nodup_range.imp ?_
    intro a b hab e
    have := letters_inj e
    omega
  have := nodup_len hn (m := L) (fun x hx => by
    obtain ⟨j, hj, rfl⟩ := List.mem_map.mp hx
    exact h j (by have := List.mem_range.mp hj; omega))
  simp at this
  omega
/-! ### the next free number -/
def nxtF (ops : List Wd) : Nat → Nat → Nat
  | 0, n => n
  | f + 1, n => if letters n ∈ ops then nxtF ops f (n + 1) else n
def nxt (ops : List Wd) (n : Nat) : Nat := nxtF ops ops.length n
theorem nxtF_ge (ops : List Wd) : ∀ f n, n ≤ nxtF ops f n
  | 0, n => Nat.le_refl _
  | f + 1, n => by
    unfold nxtF
    split
    · have := nxtF_ge ops f (n + 1); omega
    · exact Nat.le_refl _
theorem nxtF_le (ops : List Wd) : ∀ f n, nxtF ops f n ≤ n + f
  | 0, n => Nat.le_refl _
  | f + 1, n => by
    unfold nxtF
    split
    · have := nxtF_le ops f (n + 1); omega
    · omega
theorem nxtF_below (ops : List Wd) : ∀ f n j, n ≤ j → j < nxtF ops f n → letters j ∈ ops
  | 0, n, j, h1, h2 => by unfold nxtF at h2; omega
  | f + 1, n, j, h1, h2 => by
    unfold nxtF at h2
    split at h2
    · rename_i hm
      by_cases e : j = n
      · subst e; exact hm
      · exact nxtF_below ops f (n + 1) j (by omega) h2
    · omega
theorem nxtF_free (ops : List Wd) : ∀ f n, letters (nxtF ops f n) ∉ ops ∨ nxtF ops f n = n + f
  | 0, n => .inr rfl
  | f + 1, n => by
    unfold nxtF
    split
    · rcases nxtF_free ops f (n + 1) with h | h
      · exact .inl h
      · exact .inr (by omega)
    · rename_i hm; exact .inl hm
theorem nxt_ge (ops : List Wd) (n : Nat) : n ≤ nxt ops n := nxtF_ge _ _ _
theorem nxt_le (ops : List Wd) (n : Nat) : nxt ops n ≤ n + ops.length := nxtF_le _ _ _
theorem nxt_below {ops : List Wd} {n j : Nat} (h1 : n ≤ j) (h2 : j < nxt ops n) : letters j ∈ ops := nxtF_below _ _ _ _ h1 h2
theorem nxt_free (ops : List Wd) (n : Nat) : letters (nxt ops n) ∉ ops := by
  rcases nxtF_free ops ops.length n with h | h
  · exact h
  · intro hm
    refine pigeon ops n fun j hj => ?_
    by_cases e : j = ops.length
    · subst e
      have : nxt ops n = n + ops.length := h
      rw [← this]; exact hm
    · exact nxtF_below ops ops.length n (n + j) (by omega) (by have : nxtF ops ops.length n = n + ops.length := h
                                                               omega)
theorem nxt_uniq {ops : List Wd} {n t : Nat} (h1 : n ≤ t) (h2 : letters t ∉ ops) (h3 : ∀ j, n ≤ j → j < t → letters j ∈ ops) : nxt ops n = t := by
  rcases Nat.lt_trichotomy (nxt ops n) t with h | h | h
  · exact absurd (h3 _ (nxt_ge _ _) h) (nxt_free _ _)
  · exact h
  · exact absurd (nxt_below h1 h) h2
theorem nxt_congr {A B : List Wd} (h : ∀ k, letters k ∈ A ↔ letters k ∈ B) (n : Nat) : nxt A n = nxt B n := by
  refine nxt_uniq (nxt_ge B n) (fun e => nxt_free B n ((h _).mp e)) fun j h1 h2 => (h _).mpr (nxt_below h1 h2)
/-- the number ahead of the k-th take -/
def num (ops : List Wd) : Nat → Nat
  | 0 => 0
  | k + 1 => nxt ops (num ops k) + 1
/-- the k-th standard name -/
def sname (ops : List Wd) (k : Nat) : Wd := letters (nxt ops (num ops k))
theorem num_congr {A B : List Wd} (h : ∀ k, letters k ∈ A ↔ letters k ∈ B) : ∀ k, num A k = num B k
  | 0 => rfl
  | k + 1 => by unfold num; rw [num_congr h k, nxt_congr h]
theorem sname_congr {A B : List Wd} (h : ∀ k, letters k ∈ A ↔ letters k ∈ B) (k : Nat) : sname A k = sname B k := by
  unfold sname; rw [num_congr h, nxt_congr h]
theorem num_mono (ops : List Wd) : ∀ {j k : Nat}, j < k → nxt ops (num ops j) < num ops k
  | j, 0, h => by omega
  | j, k + 1, h => by
    show nxt ops (num ops j) < nxt ops (num ops k) + 1
    by_cases e : j = k
    · subst e; omega
    · have := num_mono ops (show j < k by omega)
      have := nxt_ge ops (num ops k)
      omega
theorem sname_inj {ops : List Wd} {j k : Nat} (h : sname ops j = sname ops k) : j = k := by
  have e := letters_inj h
  rcases Nat.lt_trichotomy j k with q | q | q
  · have := num_mono ops q; have := nxt_ge ops (num ops k); omega
  · exact q
  · have := num_mono ops q; have := nxt_ge ops (num ops j); omega
theorem sname_free (ops : List Wd) (k : Nat) : sname ops k ∉ ops := nxt_free _ _
theorem num_le (ops : List Wd) : ∀ k, num ops k ≤ k * (ops.length + 1)
  | 0 => by show 0 ≤ _; omega
  | k + 1 => by
    unfold num
    have h1 := nxt_le ops (num ops k)
    have h2 := num_le ops k
    rw [Nat.succ_mul]
    omega
theorem sname_nm (ops : List Wd) (k : Nat) : isGive (sname ops k) = false ∧ isTake (sname ops k) = false := letters_nm _
theorem letters_length (n : Nat) : (letters n).length ≤ n + 1 := by
  have := lett_length_bound (n + 1) []
  simpa [letters] using this
theorem sname_length (ops : List Wd) (k : Nat) : (sname ops k).length ≤ (k + 1) * (ops.length + 1) + 1 := by
  have h1 := letters_length (nxt ops (num ops k))
  have h2 := nxt_le ops (num ops k)
  have h3 := num_le ops k
  unfold sname
  rw [Nat.succ_mul]
  omega
end K11

set_option linter.all false
/-! The standard names, by words and by items: the core lemma. -/
namespace K11
def takeNames (ws : List Wd) : List Wd := (ws.filter isTake).map fun w => w.drop 1
def opens (ws : List Wd) : List Wd := ws.filter fun w => isNm w && !decide (w ∈ takeNames ws)
def nmOf (ws : List Wd) (x : Wd) : Wd := if x ∈ takeNames ws then sname (opens ws) ((takeNames ws).idxOf x) else x
def ren (ws : List Wd) (w : Wd) : Wd := if isGive w = true then w else if isTake w = true then 47 :: nmOf ws (w.drop 1) else nmOf ws w
def rawStd (ws : List Wd) : List Wd := ws.map (ren ws)
inductive Itm where
  | s (w : Wd)
  | tk (m n : Wd)
  | nm (m n : Wd)
  deriving DecidableEq
def keyOf : Itm → Option (Wd × Wd)
  | .tk m n => some (m, n)
  | _ => none
def strOf : Itm → Option Wd
  | .s w => some w
  | _ => none
def takeKeys (its : List Itm) : List (Wd × Wd) := its.filterMap keyOf
def bars (its : List Itm) : List Wd := its.filterMap strOf
def lnm (its : List Itm) (k : Wd × Wd) : Wd := sname (bars its) ((takeKeys its).idxOf k)
def lawItm (its : List Itm) : Itm → Wd
  | .s w => w
  | .tk m n => 47 :: lnm its (m, n)
  | .nm m n => lnm its (m, n)
def lawStd (its : List Itm) : List Wd := its.map (lawItm its)
def enc (key : Wd × Wd → Wd) : Itm → Wd
  | .s w => w
  | .tk m n => 47 :: key (m, n)
  | .nm m n => key (m, n)
structure Enc (key : Wd × Wd → Wd) (its : List Itm) : Prop where
  nd : (takeKeys its).Nodup
  inj : ∀ a ∈ takeKeys its, ∀ b ∈ takeKeys its, key a = key b → a = b
  nmk : ∀ m n, Itm.nm m n ∈ its → (m, n) ∈ takeKeys its
  kn : ∀ k ∈ takeKeys its, isNm (key k) = true
  sw : ∀ w, Itm.s w ∈ its → isTake w = false ∧ (isGive w = false → ∀ k ∈ takeKeys its, key k ≠ w)
theorem isNm_iff {w : Wd} : isNm w = true ↔ isGive w = false ∧ isTake w = false := by
  unfold isNm; cases isGive w <;> cases isTake w <;> simp
theorem mem_takeKeys {its : List Itm} {m n : Wd} : (m, n) ∈ takeKeys its ↔ Itm.tk m n ∈ its := by
  unfold takeKeys
  rw [List.mem_filterMap]
  constructor
  · rintro ⟨i, hi, e⟩
    cases i with
    | tk a b =>
      have : (a, b) = (m, n) := Option.some.inj e
      injection this with h1 h2
      rw [← h1, ← h2]; exact hi
    | s _ => cases e
    | nm _ _ => cases e
  · intro h; exact ⟨_, h, rfl⟩
theorem mem_bars {its : List Itm} {w : Wd} : w ∈ bars its ↔ Itm.s w ∈ its := by
  unfold bars
  rw [List.mem_filterMap]
  constructor
  · rintro ⟨i, hi, e⟩
    cases i with
    | s a =>
      have : a = w := Option.some.inj e
      rw [← this]; exact hi
    | tk _ _ => cases e
    | nm _ _ => cases e
  · intro h; exact ⟨_, h, rfl⟩
theorem takeNames_encL {key : Wd × Wd → Wd} : ∀ {l : List Itm}, (∀ w, Itm.s w ∈ l → isTake w = false) → (∀ m n, Itm.nm m n ∈ l → isTake (key (m, n)) = false) → takeNames (l.map (enc key)) = (takeKeys l).map key
  | [], _, _ => rfl
  | i :: l, h1, h2 => by
    have ih := takeNames_encL (l := l) (fun w h => h1 w (List.mem_cons_of_mem _ h)) (fun m n h => h2 m n (List.mem_cons_of_mem _ h))
    unfold takeNames takeKeys at ih ⊢
    cases i with
    | s w =>
      have e : isTake (enc key (.s w)) = false := h1 w (by simp)
      rw [List.map_cons, List.filter_cons_of_neg (by rw [e]; simp), ih]
      rfl
    | nm m n =>
      have e : isTake (enc key (.nm m n)) = false := h2 m n (by simp)
      rw [List.map_cons, List.filter_cons_of_neg (by rw [e]; simp), ih]
      rfl
    | tk m n =>
      have e : isTake (enc key (.tk m n)) = true := isTake_cons _
      rw [List.map_cons, List.filter_cons_of_pos e, List.map_cons, ih]
      rfl
section
variable {key : Wd × Wd → Wd} {its : List Itm}
theorem takeNames_enc (E : Enc key its) : takeNames (its.map (enc key)) = (takeKeys its).map key :=
  takeNames_encL (fun w h => (E.sw w h).1) fun m n h => (isNm_iff.mp (E.kn _ (E.nmk m n h))).2
theorem mem_opens {ws : List Wd} {w : Wd} : w ∈ opens ws ↔ w ∈ ws ∧ isNm w = true ∧ w ∉ takeNames ws := by
  unfold opens
  rw [List.mem_filter]
  simp
theorem opens_enc (E : Enc key its) (j : Nat) : letters j ∈ opens (its.map (enc key)) ↔ letters j ∈ bars its := by
  rw [mem_opens, takeNames_enc E, mem_bars]
  constructor
  · rintro ⟨h1, h2, h3⟩
    obtain ⟨i, hi, e⟩ := List.mem_map.mp h1
    cases i with
    | s w => rw [← e]; exact hi
    | tk m n =>
      rw [← e] at h2
      have := (isNm_iff.mp h2).2
      rw [show isTake (enc key (.tk m n)) = true from isTake_cons _] at this
      cases this
    | nm m n => exact absurd (List.mem_map.mpr ⟨(m, n), E.nmk m n hi, e⟩) h3
  · intro h
    refine ⟨List.mem_map.mpr ⟨_, h, rfl⟩, isNm_iff.mpr (letters_nm j), fun q => ?_⟩
    obtain ⟨k, hk, e⟩ := List.mem_map.mp q
    exact (E.sw _ h).2 (letters_nm j).1 k hk e
end
theorem idxOf_map {α β : Type} [BEq α] [LawfulBEq α] [BEq β] [LawfulBEq β] {f : α → β} : ∀ {l : List α} {a : α}, (∀ x ∈ l, f x = f a → x = a) → (l.map f).idxOf (f a) = l.idxOf a
  | [], a, _ => rfl
  | b :: l, a, h => by
    have ih := idxOf_map (f := f) (l := l) (a := a) fun x hx => h x (List.mem_cons_of_mem _ hx)
    rw [List.map_cons, List.idxOf_cons, List.idxOf_cons, ih]
    by_cases e : b = a
    · subst e; simp only [beq_self_eq_true]
    · have e2 : ¬ f b = f a := fun q => e (h b (by simp) q)
      have e3 : (f b == f a) = false := by simpa using e2
      have e4 : (b == a) = false := by simpa using e
      rw [e3, e4]
section
variable {key : Wd × Wd → Wd} {its : List Itm}
theorem nm_enc (E : Enc key its) {k : Wd × Wd} (hk : k ∈ takeKeys its) : nmOf (its.map (enc key)) (key k) = lnm its k := by
  unfold nmOf lnm
  rw [takeNames_enc E, if_pos (List.mem_map.mpr ⟨k, hk, rfl⟩), idxOf_map fun x hx e => E.inj x hx k hk e]
  exact sname_congr (opens_enc E) _
/-- THE CORE: standard names by words and by items agree -/
theorem core (E : Enc key its) : rawStd (its.map (enc key)) = lawStd its := by
  unfold rawStd lawStd
  rw [List.map_map]
  refine List.map_congr_left fun i hi => ?_
  show ren (its.map (enc key)) (enc key i) = lawItm its i
  cases i with
  | s w =>
    show ren _ w = w
    unfold ren
    cases hg : isGive w with
    | true => rw [if_pos rfl]
    | false =>
      rw [if_neg (by simp), (E.sw w hi).1, if_neg (by simp)]
      unfold nmOf
      rw [takeNames_enc E, if_neg]
      intro q
      obtain ⟨k, hk, e⟩ := List.mem_map.mp q
      exact (E.sw w hi).2 hg k hk e
  | tk m n =>
    show ren _ (47 :: key (m, n)) = 47 :: lnm its (m, n)
    unfold ren
    rw [take_not_give (isTake_cons _), if_neg (by simp), isTake_cons, if_pos rfl]
    show 47 :: nmOf _ (key (m, n)) = _
    rw [nm_enc E (mem_takeKeys.mpr hi)]
  | nm m n =>
    show ren _ (key (m, n)) = lnm its (m, n)
    have hk := E.nmk m n hi
    have q := isNm_iff.mp (E.kn _ hk)
    unfold ren
    rw [q.1, if_neg (by simp), q.2, if_neg (by simp), nm_enc E hk]
theorem nodup_takeNames (E : Enc key its) : (takeNames (its.map (enc key))).Nodup := by
  rw [takeNames_enc E]
  have h1 := E.nd
  have h2 := E.inj
  revert h1 h2
  generalize takeKeys its = l
  induction l with
  | nil => intro _ _; exact List.nodup_nil
  | cons a l ih =>
    intro h1 h2
    have h1 := List.nodup_cons.mp h1
    rw [List.map_cons, List.nodup_cons]
    refine ⟨fun q => ?_, ih h1.2 fun x hx y hy => h2 x (List.mem_cons_of_mem _ hx) y (List.mem_cons_of_mem _ hy)⟩
    obtain ⟨b, hb, e⟩ := List.mem_map.mp q
    have := h2 b (List.mem_cons_of_mem _ hb) a (by simp) e
    exact h1.1 (this ▸ hb)
end
/-! ### marked words -/
def mkItm (ws : List Wd) (mark w : Wd) : Itm := if isTake w = true then .tk mark (w.drop 1) else if w ∈ takeNames ws then .nm mark w else .s w
def markedOf (ws : List Wd) (mark : Wd) : List Itm := ws.map (mkItm ws mark)
structure WsOk (ws : List Wd) : Prop where
  nd : (takeNames ws).Nodup
  tn : ∀ n ∈ takeNames ws, isLet n = true
  on : ∀ w ∈ ws, isNm w = true → isLet w = true
theorem take_eq {w : Wd} (h : isTake w = true) : 47 :: w.drop 1 = w := by
  obtain ⟨n, rfl⟩ := isTake_iff.mp h; rfl
theorem mem_takeNames {ws : List Wd} {n : Wd} : n ∈ takeNames ws ↔ (47 :: n) ∈ ws := by
  unfold takeNames
  rw [List.mem_map]
  constructor
  · rintro ⟨w, hw, rfl⟩
    obtain ⟨h1, h2⟩ := List.mem_filter.mp hw
    rw [take_eq h2]; exact h1
  · intro h; exact ⟨47 :: n, List.mem_filter.mpr ⟨h, isTake_cons n⟩, rfl⟩
theorem takeKeys_marked (ws : List Wd) (mark : Wd) : takeKeys (markedOf ws mark) = (takeNames ws).map fun n => (mark, n) := by
  unfold takeKeys markedOf
  have : ∀ l : List Wd, (l.map (mkItm ws mark)).filterMap keyOf = ((l.filter isTake).map fun w => w.drop 1).map fun n => (mark, n) := by
    intro l
    induction l with
    | nil => rfl
    | cons w l ih =>
      rw [List.map_cons]
      cases e : isTake w with
      | true =>
        rw [List.filter_cons_of_pos e, List.filterMap_cons, ih]
        have : mkItm ws mark w = .tk mark (w.drop 1) := by unfold mkItm; rw [if_pos e]
        rw [this]; rfl
      | false =>
        rw [List.filter_cons_of_neg (by rw [e]; simp), List.filterMap_cons, ih]
        have : keyOf (mkItm ws mark w) = none := by
          unfold mkItm; rw [if_neg (by rw [e]; simp)]; split <;> rfl
        rw [this]
  exact this ws
theorem s_marked {ws : List Wd} {mark w : Wd} (h : Itm.s w ∈ markedOf ws mark) : w ∈ ws ∧ isTake w = false ∧ w ∉ takeNames ws := by
  unfold markedOf at h
  obtain ⟨v, hv, e⟩ := List.mem_map.mp h
  unfold mkItm at e
  split at e
  · cases e
  · rename_i h1
    split at e
    · cases e
    · rename_i h2
      injection e with e
      subst e
      exact ⟨hv, by simpa using h1, h2⟩
theorem nm_marked {ws : List Wd} {mark m n : Wd} (h : Itm.nm m n ∈ markedOf ws mark) : m = mark ∧ n ∈ takeNames ws := by
  unfold markedOf at h
  obtain ⟨v, hv, e⟩ := List.mem_map.mp h
  unfold mkItm at e
  split at e
  · cases e
  · split at e
    · rename_i h2
      injection e with e1 e2
      subst e1 e2
      exact ⟨rfl, h2⟩
    · cases e
theorem enc_marked {ws : List Wd} {mark : Wd} {key : Wd × Wd → Wd} : (markedOf ws mark).map (enc key) = ws.map fun w => if isTake w = true then 47 :: key (mark, w.drop 1) else if w ∈ takeNames ws then key (mark, w) else w := by
  unfold markedOf
  rw [List.map_map]
  refine List.map_congr_left fun w hw => ?_
  show enc key (mkItm ws mark w) = _
  unfold mkItm
  split
  · rfl
  · split <;> rfl
theorem nodup_pair {l : List Wd} (m : Wd) (h : l.Nodup) : (l.map fun n => (m, n)).Nodup := by
  refine List.pairwise_map.mpr (h.imp ?_)
  intro a b hab e
  injection e with _ e
  exact hab e
/-- the words themselves -/
theorem enc1 {ws : List Wd} {mark : Wd} (O : WsOk ws) : Enc (fun k => k.2) (markedOf ws mark) where
  nd := by rw [takeKeys_marked]; exact nodup_pair _ O.nd
  inj := by
    rw [takeKeys_marked]
    intro a ha b hb e
    obtain ⟨x, _, rfl⟩ := List.mem_map.mp ha
    obtain ⟨y, _, rfl⟩ := List.mem_map.mp hb
    have : x = y := e
    rw [this]
  nmk := fun m n h => by
    obtain ⟨rfl, hn⟩ := nm_marked h
    rw [takeKeys_marked]; exact List.mem_map.mpr ⟨n, hn, rfl⟩
  kn := by
    rw [takeKeys_marked]
    intro k hk
    obtain ⟨x, hx, rfl⟩ := List.mem_map.mp hk
    exact isLet_isNm (O.tn x hx)
  sw := fun w h => by
    obtain ⟨h1, h2, h3⟩ := s_marked h
    refine ⟨h2, fun _ k hk e => ?_⟩
    rw [takeKeys_marked] at hk
    obtain ⟨x, hx, rfl⟩ := List.mem_map.mp hk
    have : x = w := e
    exact h3 (this ▸ hx)
theorem enc1_eq {ws : List Wd} {mark : Wd} : (markedOf ws mark).map (enc fun k => k.2) = ws := by
  rw [enc_marked]
  have : ∀ w ∈ ws, (if isTake w = true then 47 :: w.drop 1 else if w ∈ takeNames ws then w else w) = w := by
    intro w _
    split
    · rename_i h; exact take_eq h
    · split <;> rfl
  calc _ = ws.map id := List.map_congr_left this
    _ = ws := List.map_id _
theorem std_marked {ws : List Wd} {mark : Wd} (O : WsOk ws) : rawStd ws = lawStd (markedOf ws mark) := by
  have := core (enc1 (mark := mark) O)
  rw [enc1_eq] at this
  exact this
/-- the standard words -/
theorem idxOf_inj {l : List Wd} {a b : Wd} (ha : a ∈ l) (hb : b ∈ l) (h : l.idxOf a = l.idxOf b) : a = b := by
  have h1 := List.getElem_idxOf (List.idxOf_lt_length_iff.mpr ha)
  have h2 := List.getElem_idxOf (List.idxOf_lt_length_iff.mpr hb)
  rw [← h1, ← h2]
  congr 1
theorem enc2 {ws : List Wd} {mark : Wd} (O : WsOk ws) : Enc (fun k => nmOf ws k.2) (markedOf ws mark) where
  nd := (enc1 O).nd
  inj := by
    rw [takeKeys_marked]
    intro a ha b hb e
    obtain ⟨x, hx, rfl⟩ := List.mem_map.mp ha
    obtain ⟨y, hy, rfl⟩ := List.mem_map.mp hb
    have e : nmOf ws x = nmOf ws y := e
    unfold nmOf at e
    rw [if_pos hx, if_pos hy] at e
    rw [idxOf_inj hx hy (sname_inj e)]
  nmk := (enc1 O).nmk
  kn := by
    rw [takeKeys_marked]
    intro k hk
    obtain ⟨x, hx, rfl⟩ := List.mem_map.mp hk
    show isNm (nmOf ws x) = true
    unfold nmOf
    rw [if_pos hx]
    exact isNm_iff.mpr (sname_nm _ _)
  sw := fun w h => by
    obtain ⟨h1, h2, h3⟩ := s_marked h
    refine ⟨h2, fun hg k hk e => ?_⟩
    rw [takeKeys_marked] at hk
    obtain ⟨x, hx, rfl⟩ := List.mem_map.mp hk
    have e : nmOf ws x = w := e
    unfold nmOf at e
    rw [if_pos hx] at e
    have : w ∈ opens ws := mem_opens.mpr ⟨h1, isNm_iff.mpr ⟨hg, h2⟩, h3⟩
    rw [← e] at this
    exact sname_free _ _ this
theorem enc2_eq {ws : List Wd} {mark : Wd} (O : WsOk ws) : (markedOf ws mark).map (enc fun k => nmOf ws k.2) = rawStd ws := by
  rw [enc_marked]
  unfold rawStd
  refine List.map_congr_left fun w hw => ?_
  show (if isTake w = true then 47 :: nmOf ws (w.drop 1) else if w ∈ takeNames ws then nmOf ws w else w) = ren ws w
  unfold ren
  cases ht : isTake w with
  | true => rw [if_pos rfl, take_not_give ht, if_neg (by simp), if_pos rfl]
  | false =>
    rw [if_neg (by simp)]
    by_cases hm : w ∈ takeNames ws
    · rw [if_pos hm]
      have := isNm_iff.mp (isLet_isNm (O.tn w hm))
      rw [this.1, if_neg (by simp), if_neg (by simp)]
    · rw [if_neg hm]
      unfold nmOf
      rw [if_neg hm, if_neg (show ¬ false = true by simp)]
      cases isGive w <;> rfl
theorem std_std {ws : List Wd} (O : WsOk ws) : rawStd (rawStd ws) = rawStd ws := by
  have := core (enc2 (mark := []) O)
  rw [enc2_eq O] at this
  rw [this, ← std_marked O]
theorem nd_std {ws : List Wd} (O : WsOk ws) : (takeNames (rawStd ws)).Nodup := by
  rw [← enc2_eq (mark := []) O]
  exact nodup_takeNames (enc2 O)
/-! ### given another one -/
def apartOf (ws : List Wd) (mark : Wd) : List Wd := ws.map fun w => if (isGive w || decide (nameOf w ∈ opens ws)) = true then w else if isTake w = true then 47 :: (mark ++ nameOf w) else mark ++ w
def one : Wd := [111, 110, 101]
def two : Wd := [116, 119, 111]
def ix : Wd := [120]
def itsA (ws : List Wd) : List Itm := (.s [64] :: markedOf ws one) ++ [.tk two ix, .nm two ix]
def key3 (k : Wd × Wd) : Wd := if k.1 = one then 49 :: k.2 else 50 :: k.2
theorem takeKeys_A (ws : List Wd) : takeKeys (itsA ws) = ((takeNames ws).map fun n => (one, n)) ++ [(two, ix)] := by
  have h := takeKeys_marked ws one
  unfold takeKeys at h ⊢
  unfold itsA
  rw [List.filterMap_append, List.filterMap_cons]
  show List.filterMap keyOf (markedOf ws one) ++ _ = _
  rw [h]; rfl
theorem key3_one (n : Wd) : key3 (one, n) = 49 :: n := by unfold key3; rw [if_pos rfl]
theorem key3_two (n : Wd) : key3 (two, n) = 50 :: n := by unfold key3; rw [if_neg (show ¬ two = one by decide)]
theorem enc3 {ws : List Wd} (O : WsOk ws) : Enc key3 (itsA ws) where
  nd := by
    rw [takeKeys_A, List.nodup_append]
    refine ⟨nodup_pair _ O.nd, by simp, fun a ha b hb e => ?_⟩
    obtain ⟨x, _, rfl⟩ := List.mem_map.mp ha
    have : b = (two, ix) := by simpa using hb
    rw [this] at e
    injection e with e _
    exact absurd e (by decide)
  inj := by
    rw [takeKeys_A]
    intro a ha b hb e
    have q : ∀ k ∈ ((takeNames ws).map fun n => (one, n)) ++ [(two, ix)], (∃ n, k = (one, n)) ∨ k = (two, ix) := by
      intro k hk
      rcases List.mem_append.mp hk with h | h
      · obtain ⟨x, _, rfl⟩ := List.mem_map.mp h; exact .inl ⟨x, rfl⟩
      · exact .inr (by simpa using h)
    rcases q a ha with ⟨x, rfl⟩ | rfl <;> rcases q b hb with ⟨y, rfl⟩ | rfl
    · rw [key3_one, key3_one] at e; injection e with _ e; rw [e]
    · rw [key3_one, key3_two] at e; injection e with e _; cases e
    · rw [key3_one, key3_two] at e; injection e with e _; cases e
    · rfl
  nmk := fun m n h => by
    rw [takeKeys_A]
    have h : Itm.nm m n ∈ markedOf ws one ∨ Itm.nm m n = .nm two ix := by
      unfold itsA at h
      rcases List.mem_append.mp h with h | h
      · rcases List.mem_cons.mp h with h | h
        · cases h
        · exact .inl h
      · rcases List.mem_cons.mp h with h | h
        · cases h
        · exact .inr (by simpa using h)
    rcases h with h | h
    · obtain ⟨rfl, hn⟩ := nm_marked h
      exact List.mem_append_left _ (List.mem_map.mpr ⟨n, hn, rfl⟩)
    · injection h with h1 h2
      subst h1 h2
      simp
  kn := by
    rw [takeKeys_A]
    intro k hk
    rcases List.mem_append.mp hk with h | h
    · obtain ⟨x, _, rfl⟩ := List.mem_map.mp h
      rw [key3_one]
      unfold isNm isGive isTake
      simp
    · have : k = (two, ix) := by simpa using h
      rw [this]; decide
  sw := fun w h => by
    have h : w = [64] ∨ Itm.s w ∈ markedOf ws one := by
      unfold itsA at h
      rcases List.mem_append.mp h with h | h
      · rcases List.mem_cons.mp h with h | h
        · injection h with h; exact .inl h
        · exact .inr h
      · simp at h
    rcases h with rfl | h
    · exact ⟨by decide, fun q => absurd q (by decide)⟩
    · obtain ⟨h1, h2, h3⟩ := s_marked h
      refine ⟨h2, fun hg k hk e => ?_⟩
      have hl := O.on w h1 (isNm_iff.mpr ⟨hg, h2⟩)
      have hd : ∀ c r, w = c :: r → 97 ≤ c := by
        intro c r ew
        unfold isLet at hl
        rw [ew] at hl
        simp at hl
        exact hl.2.1.1
      rw [takeKeys_A] at hk
      rcases List.mem_append.mp hk with h | h
      · obtain ⟨x, _, rfl⟩ := List.mem_map.mp h
        rw [key3_one] at e
        have := hd _ _ e.symm
        omega
      · have : k = (two, ix) := by simpa using h
        rw [this, key3_two] at e
        have := hd _ _ e.symm
        omega
theorem apart_x : apartOf [47 :: ix, ix] [50] = [47 :: 50 :: ix, 50 :: ix] := by decide
theorem enc3_eq {ws : List Wd} (O : WsOk ws) : (itsA ws).map (enc key3) = ([64] :: apartOf ws [49]) ++ apartOf [47 :: ix, ix] [50] := by
  rw [apart_x]
  unfold itsA
  rw [List.map_append, List.map_cons, enc_marked]
  have e : (ws.map fun w => if isTake w = true then 47 :: key3 (one, w.drop 1) else if w ∈ takeNames ws then key3 (one, w) else w) = apartOf ws [49] := by
    unfold apartOf
    refine List.map_congr_left fun w hw => ?_
    rw [key3_one, key3_one]
    cases ht : isTake w with
    | true =>
      have hn : nameOf w = w.drop 1 := by unfold nameOf; rw [if_pos ht]
      have hm : w.drop 1 ∈ takeNames ws := mem_takeNames.mpr (by rw [take_eq ht]; exact hw)
      have ho : w.drop 1 ∉ opens ws := fun q => (mem_opens.mp q).2.2 hm
      rw [hn, take_not_give ht, decide_eq_false ho]
      rfl
    | false =>
      have hn : nameOf w = w := by unfold nameOf; rw [if_neg (by rw [ht]; simp)]
      rw [hn, if_neg (by simp)]
      by_cases hm : w ∈ takeNames ws
      · rw [if_pos hm]
        have hg := (isNm_iff.mp (isLet_isNm (O.tn w hm))).1
        have ho : w ∉ opens ws := fun q => (mem_opens.mp q).2.2 hm
        rw [hg, decide_eq_false ho]
        rfl
      · rw [if_neg hm]
        cases hg : isGive w with
        | true => rfl
        | false =>
          have ho : w ∈ opens ws := mem_opens.mpr ⟨hw, isNm_iff.mpr ⟨hg, ht⟩, hm⟩
          rw [decide_eq_true ho]
          rfl
  rw [e]
  show _ ++ [47 :: key3 (two, ix), key3 (two, ix)] = _
  rw [key3_two]
  rfl
theorem std_apart {ws : List Wd} (O : WsOk ws) : rawStd (([64] :: apartOf ws [49]) ++ apartOf [47 :: ix, ix] [50]) = lawStd (itsA ws) := by
  rw [← enc3_eq O]; exact core (enc3 O)
theorem nd_apart {ws : List Wd} (O : WsOk ws) : (takeNames (([64] :: apartOf ws [49]) ++ apartOf [47 :: ix, ix] [50])).Nodup := by
  rw [← enc3_eq O]; exact nodup_takeNames (enc3 O)
end K11

set_option linter.all false
/-! Whole words, their ends; the words that the law builds. -/
namespace K11
/-- how many programs stand in a row of words -/
def sz : List Wd → Int
  | [] => 0
  | w :: r => sz r + 1 - (arity w : Int)
def Bal : List Wd → Prop
  | [] => True
  | w :: r => Bal r ∧ 1 ≤ sz (w :: r)
structure Good (ws : List Wd) : Prop where
  b : Bal ws
  s : sz ws = 1
theorem sz_append : ∀ (a b : List Wd), sz (a ++ b) = sz a + sz b
  | [], b => by show sz b = 0 + sz b; omega
  | w :: a, b => by
    show sz (a ++ b) + 1 - (arity w : Int) = sz a + 1 - (arity w : Int) + sz b
    rw [sz_append a b]; omega
theorem sz_nonneg : ∀ {a : List Wd}, Bal a → 0 ≤ sz a
  | [], _ => Int.le_refl _
  | w :: r, h => by have := h.2; omega
theorem Bal_append : ∀ {a b : List Wd}, Bal a → Bal b → Bal (a ++ b)
  | [], b, _, h => h
  | w :: a, b, h, h2 => by
    refine ⟨Bal_append h.1 h2, ?_⟩
    have e := sz_append (w :: a) b
    have := h.2
    have := sz_nonneg h2
    have e : sz (w :: (a ++ b)) = sz (w :: a) + sz b := e
    show 1 ≤ sz (w :: (a ++ b))
    omega
theorem Bal_drop : ∀ {a : List Wd} (n : Nat), Bal a → Bal (a.drop n)
  | [], n, _ => by simp [Bal]
  | w :: r, 0, h => h
  | w :: r, n + 1, h => Bal_drop n h.1
theorem Good.name {n : Wd} (h : isNm n = true) : Good [n] := by
  have q := isNm_iff.mp h
  have ha : arity n = 0 := by unfold arity; rw [q.1, q.2]; rfl
  refine ⟨⟨trivial, ?_⟩, ?_⟩
  · show 1 ≤ (0 : Int) + 1 - (arity n : Int); rw [ha]; decide
  · show (0 : Int) + 1 - (arity n : Int) = 1; rw [ha]; decide
theorem Good.give {a b : List Wd} (ha : Good a) (hb : Good b) : Good ([64] :: (a ++ b)) := by
  have e : sz ([64] :: (a ++ b)) = 1 := by
    show sz (a ++ b) + 1 - ((2 : Nat) : Int) = 1
    rw [sz_append, ha.s, hb.s]; decide
  exact ⟨⟨Bal_append ha.b hb.b, by rw [e]; decide⟩, e⟩
theorem arity_take (n : Wd) : arity (47 :: n) = 1 := by
  unfold arity; rw [take_not_give (isTake_cons n), isTake_cons]; rfl
theorem Good.take {a : List Wd} (n : Wd) (ha : Good a) : Good ((47 :: n) :: a) := by
  have e : sz ((47 :: n) :: a) = 1 := by
    show sz a + 1 - (arity (47 :: n) : Int) = 1
    rw [arity_take, ha.s]; decide
  exact ⟨⟨ha.b, by rw [e]; decide⟩, e⟩
/-! ### ends -/
/-- from the right: the ends found, the stack (its top first) -/
def endsSt : Nat → List Wd → List Nat × List Nat
  | _, [] => ([], [])
  | p, w :: r => ((if arity w = 0 then p + 1 else (endsSt (p + 1) r).2.getD (arity w - 1) 0) :: (endsSt (p + 1) r).1,
      (if arity w = 0 then p + 1 else (endsSt (p + 1) r).2.getD (arity w - 1) 0) :: (endsSt (p + 1) r).2.drop (arity w))
def endsOf (ws : List Wd) : List Nat := (endsSt 0 ws).1
theorem endsSt_len : ∀ (p : Nat) (ws : List Wd), (endsSt p ws).1.length = ws.length
  | _, [] => rfl
  | p, w :: r => by
    show (endsSt (p + 1) r).1.length + 1 = r.length + 1
    rw [endsSt_len]
theorem endsOf_len (ws : List Wd) : (endsOf ws).length = ws.length := endsSt_len 0 ws
theorem stack_len : ∀ (p : Nat) {ws : List Wd}, Bal ws → ((endsSt p ws).2.length : Int) = sz ws
  | _, [], _ => rfl
  | p, w :: r, h => by
    have ih := stack_len (p + 1) h.1
    have h2 := h.2
    show (((endsSt (p + 1) r).2.drop (arity w)).length + 1 : Nat) = sz r + 1 - (arity w : Int)
    have h2 : 1 ≤ sz r + 1 - (arity w : Int) := h2
    rw [List.length_drop]
    omega
theorem stack_room (p : Nat) {w : Wd} {r : List Wd} (h : Bal (w :: r)) : arity w ≤ (endsSt (p + 1) r).2.length := by
  have ih := stack_len (p + 1) h.1
  have h2 : 1 ≤ sz r + 1 - (arity w : Int) := h.2
  omega
theorem ends_drop : ∀ (k p : Nat) (ws : List Wd), (endsSt p ws).1.drop k = (endsSt (p + k) (ws.drop k)).1
  | 0, p, ws => rfl
  | k + 1, p, [] => by simp [endsSt]
  | k + 1, p, w :: r => by
    show (endsSt (p + 1) r).1.drop k = (endsSt (p + (k + 1)) (r.drop k)).1
    rw [ends_drop k (p + 1) r]
    congr 2; omega
/-- the lowest on the stack is the very end -/
theorem stack_last : ∀ (p : Nat) {ws : List Wd}, Bal ws → ws ≠ [] → (endsSt p ws).2.getLast? = some (p + ws.length)
  | _, [], _, h => absurd rfl h
  | p, w :: r, h, _ => by
    have room := stack_room p h
    show ((if arity w = 0 then p + 1 else (endsSt (p + 1) r).2.getD (arity w - 1) 0) :: (endsSt (p + 1) r).2.drop (arity w)).getLast? = some (p + (r.length + 1))
    by_cases hr : r = []
    · subst hr
      have h0 : arity w = 0 := by
        have : arity w ≤ ([] : List Nat).length := room
        simpa using this
      rw [if_pos h0]
      simp [endsSt]
    · have ih := stack_last (p + 1) h.1 hr
      have e1 : p + 1 + r.length = p + (r.length + 1) := by omega
      rw [e1] at ih
      revert ih room
      generalize (endsSt (p + 1) r).2 = st
      intro room ih
      have hne : st ≠ [] := by intro e; rw [e] at ih; cases ih
      by_cases hd : st.drop (arity w) = []
      · have hl : st.length ≤ arity w := List.drop_eq_nil_iff.mp hd
        have hl2 : st.length = arity w := by omega
        have hpos : 0 < st.length := List.length_pos_iff.mpr hne
        rw [hd, if_neg (by omega)]
        rw [List.getLast?_eq_getElem?] at ih
        show some (st.getD (arity w - 1) 0) = _
        rw [← hl2, List.getD_eq_getElem?_getD, ih]
        rfl
      · rw [List.getLast?_cons_of_ne_nil hd]
        rw [List.getLast?_drop, if_neg (by have : ¬ st.length ≤ arity w := fun q => hd (List.drop_eq_nil_iff.mpr q)
                                           omega)]
        exact ih
where
  List.getLast?_cons_of_ne_nil {a : Nat} {l : List Nat} (h : l ≠ []) : (a :: l).getLast? = l.getLast? := by
    cases l with
    | nil => exact absurd rfl h
    | cons b l => rw [List.getLast?_cons_cons]
/-- a part that is the whole rest ends at the very end -/
theorem end_whole {ws : List Wd} {p : Nat} (hb : Bal ws) (hp : p < ws.length) (hs : sz (ws.drop p) = 1) : (endsOf ws)[p]? = some ws.length := by
  have hd := ends_drop p 0 ws
  have e : (endsOf ws)[p]? = ((endsOf ws).drop p)[0]? := by rw [List.getElem?_drop]; rfl
  rw [e]
  unfold endsOf
  rw [hd, Nat.zero_add]
  have hbd := Bal_drop p hb
  have hne : ws.drop p ≠ [] := by intro q; have := List.drop_eq_nil_iff.mp q; omega
  have hl := stack_last p hbd hne
  have hc := stack_len p hbd
  rw [hs] at hc
  cases hw : ws.drop p with
  | nil => exact absurd hw hne
  | cons w r =>
    rw [hw] at hl hc
    have hc2 : ((endsSt (p + 1) r).2.drop (arity w)).length = 0 := by
      have : (((endsSt (p + 1) r).2.drop (arity w)).length + 1 : Nat) = (1 : Int) := hc
      omega
    have hz : (endsSt (p + 1) r).2.drop (arity w) = [] := List.length_eq_zero_iff.mp hc2
    have hl' : ((if arity w = 0 then p + 1 else (endsSt (p + 1) r).2.getD (arity w - 1) 0) :: (endsSt (p + 1) r).2.drop (arity w)).getLast? = some (p + (w :: r).length) := hl
    rw [hz] at hl'
    have hl2 : some (if arity w = 0 then p + 1 else (endsSt (p + 1) r).2.getD (arity w - 1) 0) = some (p + (w :: r).length) := hl'
    show some (if arity w = 0 then p + 1 else (endsSt (p + 1) r).2.getD (arity w - 1) 0) = some ws.length
    rw [hl2, ← hw, List.length_drop]
    congr 1; omega
/-! ### the words that the law builds -/
def ng (w : Wd) : Bool := !isGive w
theorem ng_of {w : Wd} (h : isGive w = false) : ng w = true := by unfold ng; rw [h]; rfl
theorem nodup_filter {α : Type} {l : List α} (p : α → Bool) (h : l.Nodup) : (l.filter p).Nodup := List.Pairwise.filter p h
structure PW (many : Nat) (ws : List Wd) : Prop where
  good : Good ws
  tk : ∀ w ∈ ws, isTake w = true → isLet (w.drop 1) = true
  nm : ∀ w ∈ ws, isNm w = true → isLet w = true
  nd : (ws.filter ng).Nodup
  body : ∀ p w, ws[p]? = some w → isTake w = true → sz (ws.drop p) = 1 ∧ ∃ q, p < q ∧ ws[q]? = some (w.drop 1)
  giv : (ws.filter isGive).length = many
  tks : (ws.filter isTake).length + (opens ws).length = many + 1
theorem PW.pos {many : Nat} {ws : List Wd} (h : PW many ws) : 0 < ws.length := by
  have := h.good.s
  cases ws with
  | nil => cases this
  | cons _ _ => simp
theorem nodup_drop1 : ∀ {l : List Wd}, l.Nodup → (∀ w ∈ l, isTake w = true) → (l.map fun w => w.drop 1).Nodup
  | [], _, _ => List.nodup_nil
  | w :: l, h, ht => by
    have h := List.nodup_cons.mp h
    rw [List.map_cons, List.nodup_cons]
    refine ⟨fun q => ?_, nodup_drop1 h.2 fun x hx => ht x (List.mem_cons_of_mem _ hx)⟩
    obtain ⟨v, hv, e⟩ := List.mem_map.mp q
    have e2 : v = w := by
      rw [← take_eq (ht v (List.mem_cons_of_mem _ hv)), ← take_eq (ht w (by simp)), e]
    exact h.1 (e2 ▸ hv)
theorem nd_takes {ws : List Wd} (h : (ws.filter ng).Nodup) : (takeNames ws).Nodup := by
  unfold takeNames
  have e : ws.filter isTake = (ws.filter ng).filter isTake := by
    rw [List.filter_filter]
    refine List.filter_congr fun w _ => ?_
    cases ht : isTake w with
    | true => rw [ng_of (take_not_give ht)]; rfl
    | false => rfl
  rw [e]
  exact nodup_drop1 (nodup_filter _ h) fun w hw => (List.mem_filter.mp hw).2
theorem PW.ok {many : Nat} {ws : List Wd} (h : PW many ws) : WsOk ws where
  nd := nd_takes h.nd
  tn := fun n hn => by
    have hw := mem_takeNames.mp hn
    exact h.tk _ hw (isTake_cons n)
  on := h.nm
theorem PW.word {many : Nat} {ws : List Wd} (h : PW many ws) : ∀ w ∈ ws, isWd w = true := by
  intro w hw
  unfold isWd
  cases hg : isGive w with
  | true => rfl
  | false =>
    cases ht : isTake w with
    | true => rw [h.tk w hw ht]; simp
    | false => rw [h.nm w hw (isNm_iff.mpr ⟨hg, ht⟩)]; rfl
theorem isLet_len {w : Wd} (h : isLet w = true) : w.length ≤ 8 := by
  unfold isLet at h
  simp only [Bool.and_eq_true, decide_eq_true_eq] at h
  exact h.1.2
theorem PW.short {many : Nat} {ws : List Wd} (h : PW many ws) : ∀ w ∈ ws, w.length ≤ 9 := by
  intro w hw
  cases hg : isGive w with
  | true => have : w = [64] := of_decide_eq_true hg
            rw [this]; decide
  | false =>
    cases ht : isTake w with
    | true =>
      have := isLet_len (h.tk w hw ht)
      rw [List.length_drop] at this; omega
    | false => have := isLet_len (h.nm w hw (isNm_iff.mpr ⟨hg, ht⟩)); omega
/-- givens one within another -/
def comb : List Wd → List Bool → List Wd
  | n :: ns, b :: bs => if b = true then [64] :: (comb ns bs ++ [n]) else [64] :: n :: comb ns bs
  | n :: _, [] => [n]
  | [], _ => []
theorem comb_good : ∀ {ns : List Wd} {bs : List Bool}, (∀ n ∈ ns, isNm n = true) → ns.length = bs.length + 1 → Good (comb ns bs)
  | [], bs, _, e => by simp at e
  | [n], [], h, _ => Good.name (h n (by simp))
  | n :: m :: ns, [], _, e => by simp at e
  | [n], b :: bs, _, e => by simp at e
  | n :: m :: ns, b :: bs, h, e => by
    have ih := comb_good (ns := m :: ns) (bs := bs) (fun x hx => h x (List.mem_cons_of_mem _ hx)) (by simpa using e)
    have hn := Good.name (h n (by simp))
    show Good (if b = true then [64] :: (comb (m :: ns) bs ++ [n]) else [64] :: n :: comb (m :: ns) bs)
    split
    · exact Good.give ih hn
    · exact Good.give hn ih
theorem comb_gives : ∀ {ns : List Wd} {bs : List Bool}, (∀ n ∈ ns, isNm n = true) → ns.length = bs.length + 1 → ((comb ns bs).filter isGive).length = bs.length
  | [], bs, _, e => by simp at e
  | [n], [], h, _ => by
    have := (isNm_iff.mp (h n (by simp))).1
    show ([n].filter isGive).length = 0
    simp [this]
  | n :: m :: ns, [], _, e => by simp at e
  | [n], b :: bs, _, e => by simp at e
  | n :: m :: ns, b :: bs, h, e => by
    have ih := comb_gives (ns := m :: ns) (bs := bs) (fun x hx => h x (List.mem_cons_of_mem _ hx)) (by simpa using e)
    have hn := (isNm_iff.mp (h n (by simp))).1
    have hg : isGive [64] = true := rfl
    show ((if b = true then [64] :: (comb (m :: ns) bs ++ [n]) else [64] :: n :: comb (m :: ns) bs).filter isGive).length = bs.length + 1
    split
    · rw [List.filter_cons_of_pos hg, List.filter_append, List.length_cons, List.length_append, ih]
      simp [hn]
    · rw [List.filter_cons_of_pos hg, List.filter_cons_of_neg (by rw [hn]; simp), List.length_cons, ih]
theorem comb_names : ∀ {ns : List Wd} {bs : List Bool}, (∀ n ∈ ns, isNm n = true) → ns.length = bs.length + 1 → ((comb ns bs).filter ng).Perm ns
  | [], bs, _, e => by simp at e
  | [n], [], h, _ => by
    have := (isNm_iff.mp (h n (by simp))).1
    show ([n].filter ng).Perm [n]
    simp [ng_of this]
  | n :: m :: ns, [], _, e => by simp at e
  | [n], b :: bs, _, e => by simp at e
  | n :: m :: ns, b :: bs, h, e => by
    have ih := comb_names (ns := m :: ns) (bs := bs) (fun x hx => h x (List.mem_cons_of_mem _ hx)) (by simpa using e)
    have hn := (isNm_iff.mp (h n (by simp))).1
    have hg : ¬ ng [64] = true := by decide
    have hn' : ng n = true := by unfold ng; rw [hn]; rfl
    show ((if b = true then [64] :: (comb (m :: ns) bs ++ [n]) else [64] :: n :: comb (m :: ns) bs).filter ng).Perm (n :: m :: ns)
    split
    · rw [List.filter_cons_of_neg hg, List.filter_append]
      have e1 : [n].filter (ng) = [n] := by simp [ng_of hn]
      rw [e1]
      exact (List.perm_append_comm).trans (List.Perm.cons n ih)
    · rw [List.filter_cons_of_neg hg, List.filter_cons_of_pos hn']
      exact List.Perm.cons n ih
theorem comb_len : ∀ {ns : List Wd} {bs : List Bool}, ns.length = bs.length + 1 → (comb ns bs).length = 2 * bs.length + 1
  | [], bs, e => by simp at e
  | [n], [], _ => rfl
  | n :: m :: ns, [], e => by simp at e
  | [n], b :: bs, e => by simp at e
  | n :: m :: ns, b :: bs, e => by
    have ih := comb_len (ns := m :: ns) (bs := bs) (by simpa using e)
    show (if b = true then [64] :: (comb (m :: ns) bs ++ [n]) else [64] :: n :: comb (m :: ns) bs).length = 2 * (bs.length + 1) + 1
    split
    · simp only [List.length_cons, List.length_append, ih, List.length_nil]; omega
    · simp only [List.length_cons, ih]; omega
theorem comb_mem {ns : List Wd} {bs : List Bool} (h : ∀ n ∈ ns, isNm n = true) (e : ns.length = bs.length + 1) {w : Wd} : w ∈ comb ns bs → w = [64] ∨ w ∈ ns := by
  intro hw
  cases hg : isGive w with
  | true => exact .inl (of_decide_eq_true hg)
  | false => exact .inr ((comb_names h e).mem_iff.mp (List.mem_filter.mpr ⟨hw, ng_of hg⟩))
theorem mem_comb {ns : List Wd} {bs : List Bool} (h : ∀ n ∈ ns, isNm n = true) (e : ns.length = bs.length + 1) {w : Wd} (hw : w ∈ ns) : w ∈ comb ns bs :=
  (List.mem_filter.mp ((comb_names h e).mem_iff.mpr hw)).1
/-- takes ahead of whole words -/
def nested (tks : List Wd) (body : List Wd) : List Wd := tks.map (fun n => 47 :: n) ++ body
theorem nested_good : ∀ {tks : List Wd} {body : List Wd}, Good body → Good (nested tks body)
  | [], _, h => h
  | n :: tks, body, h => Good.take n (nested_good (tks := tks) h)
theorem nested_drop : ∀ {tks body : List Wd} {p : Nat}, p ≤ tks.length → (nested tks body).drop p = nested (tks.drop p) body
  | tks, body, 0, _ => rfl
  | [], body, p + 1, h => by simp at h
  | n :: tks, body, p + 1, h => by
    show (nested tks body).drop p = nested (tks.drop p) body
    exact nested_drop (by simpa using h)
theorem filter_none {α : Type} {p : α → Bool} {l : List α} (h : ∀ x ∈ l, p x = false) : l.filter p = [] := by
  rw [List.filter_eq_nil_iff]; intro x hx; rw [h x hx]; simp
theorem filter_all {α : Type} {p : α → Bool} {l : List α} (h : ∀ x ∈ l, p x = true) : l.filter p = l := List.filter_eq_self.mpr h
theorem len_not_in : ∀ {ks ns : List Wd}, ks.Nodup → ns.Nodup → (∀ k ∈ ks, k ∈ ns) → ks.length + (ns.filter fun n => !decide (n ∈ ks)).length = ns.length := by
  intro ks ns hk hn hs
  have e : ns.length = (ns.filter fun n => decide (n ∈ ks)).length + (ns.filter fun n => !decide (n ∈ ks)).length := by
    clear hn hs
    induction ns with
    | nil => rfl
    | cons n ns ih =>
      cases hd : decide (n ∈ ks) with
      | true => rw [List.filter_cons_of_pos (p := fun n => decide (n ∈ ks)) hd, List.filter_cons_of_neg (p := fun n => !decide (n ∈ ks)) (by rw [hd]; simp)]; simp only [List.length_cons]; omega
      | false => rw [List.filter_cons_of_neg (p := fun n => decide (n ∈ ks)) (by rw [hd]; simp), List.filter_cons_of_pos (p := fun n => !decide (n ∈ ks)) (by rw [hd]; rfl)]; simp only [List.length_cons]; omega
  have h1 : ks.length ≤ (ns.filter fun n => decide (n ∈ ks)).length := nodup_len hk fun x hx => List.mem_filter.mpr ⟨hs x hx, decide_eq_true hx⟩
  have h2 : (ns.filter fun n => decide (n ∈ ks)).length ≤ ks.length := nodup_len (nodup_filter _ hn) fun x hx => of_decide_eq_true (List.mem_filter.mp hx).2
  omega
theorem nested_takeNames {tks body : List Wd} (hb : ∀ w ∈ body, isTake w = false) : takeNames (nested tks body) = tks := by
  unfold takeNames nested
  rw [List.filter_append, filter_none hb, List.append_nil]
  rw [filter_all (l := tks.map fun n => 47 :: n) fun x hx => by obtain ⟨n, _, rfl⟩ := List.mem_map.mp hx; exact isTake_cons n]
  rw [List.map_map]
  exact List.map_id tks
theorem nested_ok {tks ns : List Wd} {bs : List Bool} (hl : ∀ n ∈ ns, isLet n = true) (hn : ns.Nodup) (e : ns.length = bs.length + 1) (ht : tks.Nodup) (hs : ∀ k ∈ tks, k ∈ ns) : PW bs.length (nested tks (comb ns bs)) := by
  have hm : ∀ n ∈ ns, isNm n = true := fun n h => isLet_isNm (hl n h)
  have hbt : ∀ w ∈ comb ns bs, isTake w = false := fun w hw => by
    rcases comb_mem hm e hw with rfl | h
    · rfl
    · exact (isNm_iff.mp (hm w h)).2
  have htn : takeNames (nested tks (comb ns bs)) = tks := nested_takeNames hbt
  have mem : ∀ w ∈ nested tks (comb ns bs), (∃ n ∈ tks, w = 47 :: n) ∨ w ∈ comb ns bs := fun w hw => by
    rcases List.mem_append.mp hw with h | h
    · obtain ⟨n, hn, rfl⟩ := List.mem_map.mp h; exact .inl ⟨n, hn, rfl⟩
    · exact .inr h
  refine ⟨nested_good (comb_good hm e), ?_, ?_, ?_, ?_, ?_, ?_⟩
  · intro w hw htk
    rcases mem w hw with ⟨n, hn, rfl⟩ | h
    · exact hl n (hs n hn)
    · rw [hbt w h] at htk; cases htk
  · intro w hw hnm
    rcases mem w hw with ⟨n, hn, rfl⟩ | h
    · have := (isNm_iff.mp hnm).2
      rw [isTake_cons] at this; cases this
    · rcases comb_mem hm e h with rfl | h
      · cases hnm
      · exact hl w h
  · unfold nested
    rw [List.filter_append, List.nodup_append]
    rw [filter_all (l := tks.map fun n => 47 :: n) fun x hx => by obtain ⟨n, _, rfl⟩ := List.mem_map.mp hx; exact ng_of (take_not_give (isTake_cons n))]
    refine ⟨?_, (comb_names hm e).nodup_iff.mpr hn, ?_⟩
    · refine List.pairwise_map.mpr (ht.imp ?_)
      intro a b hab q
      injection q with _ q
      exact hab q
    · intro a ha b hb q
      obtain ⟨n, _, rfl⟩ := List.mem_map.mp ha
      have hb := (List.mem_filter.mp hb).1
      have := hbt b hb
      rw [← q, isTake_cons] at this
      cases this
  · intro p w hp htk
    have hpl : p < tks.length := by
      rcases Nat.lt_or_ge p tks.length with h | h
      · exact h
      · unfold nested at hp
        rw [List.getElem?_append_right (by simpa using h)] at hp
        have := hbt w (List.mem_of_getElem? hp)
        rw [this] at htk; cases htk
    have hw : w = 47 :: tks[p] := by
      unfold nested at hp
      rw [List.getElem?_append_left (by simpa using hpl), List.getElem?_map, List.getElem?_eq_getElem hpl] at hp
      exact (Option.some.inj hp).symm
    constructor
    · rw [nested_drop (Nat.le_of_lt hpl)]
      exact (nested_good (comb_good hm e)).s
    · have hin : w.drop 1 ∈ comb ns bs := by
        rw [hw]
        exact mem_comb hm e (hs _ (List.getElem_mem hpl))
      obtain ⟨q, hq, eq⟩ := List.mem_iff_getElem.mp hin
      refine ⟨tks.length + q, by omega, ?_⟩
      unfold nested
      rw [List.getElem?_append_right (by simp)]
      simp only [List.length_map, Nat.add_sub_cancel_left]
      rw [List.getElem?_eq_getElem hq, eq]
  · unfold nested
    rw [List.filter_append, filter_none (l := tks.map fun n => 47 :: n) fun x hx => by obtain ⟨n, _, rfl⟩ := List.mem_map.mp hx; exact take_not_give (isTake_cons n)]
    exact comb_gives hm e
  · have e1 : (nested tks (comb ns bs)).filter isTake = tks.map fun n => 47 :: n := by
      unfold nested
      rw [List.filter_append, filter_none hbt, List.append_nil]
      exact filter_all fun x hx => by obtain ⟨n, _, rfl⟩ := List.mem_map.mp hx; exact isTake_cons n
    have e2 : opens (nested tks (comb ns bs)) = (comb ns bs).filter fun w => isNm w && !decide (w ∈ tks) := by
      unfold opens
      rw [htn]
      unfold nested
      rw [List.filter_append, filter_none (l := tks.map fun n => 47 :: n) fun x hx => by
        obtain ⟨n, _, rfl⟩ := List.mem_map.mp hx
        have : isNm (47 :: n) = false := by
          cases q : isNm (47 :: n) with
          | false => rfl
          | true => have := (isNm_iff.mp q).2; rw [isTake_cons] at this; cases this
        rw [this]; rfl]
      rfl
    have e3 : (comb ns bs).filter (fun w => isNm w && !decide (w ∈ tks)) = ((comb ns bs).filter ng).filter fun w => !decide (w ∈ tks) := by
      rw [List.filter_filter]
      refine List.filter_congr fun w hw => ?_
      have : isNm w = !isGive w := by unfold isNm; rw [hbt w hw]; simp
      rw [this, Bool.and_comm]; rfl
    rw [e1, e2, e3, List.length_map, ((comb_names hm e).filter _).length_eq]
    rw [len_not_in ht hn hs, e]
theorem nested_len {tks ns : List Wd} {bs : List Bool} (e : ns.length = bs.length + 1) : (nested tks (comb ns bs)).length = tks.length + (2 * bs.length + 1) := by
  unfold nested
  rw [List.length_append, List.length_map, comb_len e]
/-- all takes behind one another -/
def chain : List Wd → List Wd
  | [] => []
  | [n] => [47 :: n, n]
  | n :: m :: ns => (47 :: n) :: [64] :: n :: chain (m :: ns)
theorem chain_good : ∀ {ns : List Wd}, ns ≠ [] → (∀ n ∈ ns, isNm n = true) → Good (chain ns)
  | [], h, _ => absurd rfl h
  | [n], _, h => Good.take n (Good.name (h n (by simp)))
  | n :: m :: ns, _, h => Good.take n (Good.give (Good.name (h n (by simp))) (chain_good (ns := m :: ns) (by simp) fun x hx => h x (List.mem_cons_of_mem _ hx)))
theorem chain_mem : ∀ {ns : List Wd} {w : Wd}, w ∈ chain ns → w = [64] ∨ w ∈ ns ∨ ∃ n ∈ ns, w = 47 :: n
  | [], w, h => by cases h
  | [n], w, h => by
    have h : w ∈ [47 :: n, n] := h
    rcases List.mem_cons.mp h with rfl | h
    · exact .inr (.inr ⟨n, by simp, rfl⟩)
    · exact .inr (.inl (by simpa using h))
  | n :: m :: ns, w, h => by
    have h : w ∈ (47 :: n) :: [64] :: n :: chain (m :: ns) := h
    rcases List.mem_cons.mp h with rfl | h
    · exact .inr (.inr ⟨n, by simp, rfl⟩)
    rcases List.mem_cons.mp h with rfl | h
    · exact .inl rfl
    rcases List.mem_cons.mp h with rfl | h
    · exact .inr (.inl (by simp))
    rcases chain_mem h with h | h | ⟨k, hk, h⟩
    · exact .inl h
    · exact .inr (.inl (List.mem_cons_of_mem _ h))
    · exact .inr (.inr ⟨k, List.mem_cons_of_mem _ hk, h⟩)
theorem chain_takes : ∀ {ns : List Wd}, (∀ n ∈ ns, isNm n = true) → (chain ns).filter isTake = ns.map fun n => 47 :: n
  | [], _ => rfl
  | [n], h => by
    have := (isNm_iff.mp (h n (by simp))).2
    show [47 :: n, n].filter isTake = [47 :: n]
    rw [List.filter_cons_of_pos (isTake_cons n), List.filter_cons_of_neg (by rw [this]; simp)]; rfl
  | n :: m :: ns, h => by
    have hn := (isNm_iff.mp (h n (by simp))).2
    have ih := chain_takes (ns := m :: ns) fun x hx => h x (List.mem_cons_of_mem _ hx)
    show ((47 :: n) :: [64] :: n :: chain (m :: ns)).filter isTake = (47 :: n) :: (m :: ns).map fun n => 47 :: n
    rw [List.filter_cons_of_pos (isTake_cons n), List.filter_cons_of_neg (show ¬ isTake [64] = true by decide), List.filter_cons_of_neg (by rw [hn]; simp), ih]
theorem chain_gives : ∀ {ns : List Wd}, ns ≠ [] → (∀ n ∈ ns, isNm n = true) → ((chain ns).filter isGive).length + 1 = ns.length
  | [], h, _ => absurd rfl h
  | [n], _, h => by
    have := (isNm_iff.mp (h n (by simp))).1
    show ([47 :: n, n].filter isGive).length + 1 = 1
    rw [List.filter_cons_of_neg (by rw [take_not_give (isTake_cons n)]; simp), List.filter_cons_of_neg (by rw [this]; simp)]; rfl
  | n :: m :: ns, _, h => by
    have hn := (isNm_iff.mp (h n (by simp))).1
    have ih := chain_gives (ns := m :: ns) (by simp) fun x hx => h x (List.mem_cons_of_mem _ hx)
    show (((47 :: n) :: [64] :: n :: chain (m :: ns)).filter isGive).length + 1 = (m :: ns).length + 1
    rw [List.filter_cons_of_neg (by rw [take_not_give (isTake_cons n)]; simp), List.filter_cons_of_pos (show isGive [64] = true from rfl), List.filter_cons_of_neg (by rw [hn]; simp), List.length_cons, ih]
theorem chain_len : ∀ {ns : List Wd}, ns ≠ [] → (chain ns).length + 1 = 3 * ns.length
  | [], h => absurd rfl h
  | [n], _ => rfl
  | n :: m :: ns, _ => by
    have ih := chain_len (ns := m :: ns) (by simp)
    show (chain (m :: ns)).length + 3 + 1 = 3 * ((m :: ns).length + 1)
    omega
theorem chain_nd : ∀ {ns : List Wd}, ns.Nodup → (∀ n ∈ ns, isNm n = true) → ((chain ns).filter ng).Nodup
  | [], _, _ => List.nodup_nil
  | [n], _, h => by
    have q := isNm_iff.mp (h n (by simp))
    show ([47 :: n, n].filter ng).Nodup
    rw [List.filter_cons_of_pos (ng_of (take_not_give (isTake_cons n))), List.filter_cons_of_pos (ng_of q.1)]
    refine List.nodup_cons.mpr ⟨fun hm => ?_, by simp⟩
    have : 47 :: n = n := by simpa using hm
    have := congrArg List.length this
    simp at this
  | n :: m :: ns, hd, h => by
    have q := isNm_iff.mp (h n (by simp))
    have hm' : ∀ x ∈ m :: ns, isNm x = true := fun x hx => h x (List.mem_cons_of_mem _ hx)
    have hd := List.nodup_cons.mp hd
    have ih := chain_nd (ns := m :: ns) hd.2 hm'
    show (((47 :: n) :: [64] :: n :: chain (m :: ns)).filter ng).Nodup
    rw [List.filter_cons_of_pos (ng_of (take_not_give (isTake_cons n))), List.filter_cons_of_neg (show ¬ ng [64] = true by decide), List.filter_cons_of_pos (ng_of q.1)]
    refine List.nodup_cons.mpr ⟨fun hm => ?_, List.nodup_cons.mpr ⟨fun hm => ?_, ih⟩⟩
    · rcases List.mem_cons.mp hm with e | hm
      · have := congrArg List.length e
        simp at this
      · have hm := (List.mem_filter.mp hm).1
        rcases chain_mem hm with e | e | ⟨k, hk, e⟩
        · injection e with e _; cases e
        · have := (isNm_iff.mp (hm' _ e)).2
          rw [isTake_cons] at this; cases this
        · injection e with _ e
          exact hd.1 (e ▸ hk)
    · have hm := (List.mem_filter.mp hm).1
      rcases chain_mem hm with e | e | ⟨k, hk, e⟩
      · rw [e] at q; cases q.1
      · exact hd.1 e
      · rw [e, isTake_cons] at q; cases q.2
theorem chain_body : ∀ {ns : List Wd}, (∀ n ∈ ns, isNm n = true) → ∀ p w, (chain ns)[p]? = some w → isTake w = true → sz ((chain ns).drop p) = 1 ∧ ∃ q, p < q ∧ (chain ns)[q]? = some (w.drop 1)
  | [], _, p, w, h, _ => by simp [chain] at h
  | [n], hn, 0, w, h, ht => by
    have e : 47 :: n = w := Option.some.inj h
    refine ⟨(chain_good (ns := [n]) (by simp) hn).s, 1, by omega, ?_⟩
    rw [← e]; rfl
  | [n], hn, 1, w, h, ht => by
    have e : n = w := Option.some.inj h
    have := (isNm_iff.mp (hn n (by simp))).2
    rw [e, ht] at this; cases this
  | [n], hn, p + 2, w, h, ht => by
    have h : ([] : List Wd)[p]? = some w := h
    simp at h
  | n :: m :: ns, hn, 0, w, h, ht => by
    have e : 47 :: n = w := Option.some.inj h
    refine ⟨(chain_good (ns := n :: m :: ns) (by simp) hn).s, 2, by omega, ?_⟩
    rw [← e]; rfl
  | n :: m :: ns, hn, 1, w, h, ht => by
    have e : [64] = w := Option.some.inj h
    rw [← e] at ht; cases ht
  | n :: m :: ns, hn, 2, w, h, ht => by
    have e : n = w := Option.some.inj h
    have := (isNm_iff.mp (hn n (by simp))).2
    rw [e, ht] at this; cases this
  | n :: m :: ns, hn, p + 3, w, h, ht => by
    have h : (chain (m :: ns))[p]? = some w := h
    obtain ⟨h1, q, h2, h3⟩ := chain_body (ns := m :: ns) (fun x hx => hn x (List.mem_cons_of_mem _ hx)) p w h ht
    exact ⟨h1, q + 3, by omega, h3⟩
theorem chain_ok {ns : List Wd} {many : Nat} (hl : ∀ n ∈ ns, isLet n = true) (hn : ns.Nodup) (e : ns.length = many + 1) : PW many (chain ns) := by
  have hm : ∀ n ∈ ns, isNm n = true := fun n h => isLet_isNm (hl n h)
  have hne : ns ≠ [] := by intro q; rw [q] at e; simp at e
  refine ⟨chain_good hne hm, ?_, ?_, chain_nd hn hm, chain_body hm, ?_, ?_⟩
  · intro w hw ht
    rcases chain_mem hw with rfl | h | ⟨n, h, rfl⟩
    · cases ht
    · rw [(isNm_iff.mp (hm w h)).2] at ht; cases ht
    · exact hl n h
  · intro w hw hnm
    rcases chain_mem hw with rfl | h | ⟨n, h, rfl⟩
    · cases hnm
    · exact hl w h
    · have := (isNm_iff.mp hnm).2
      rw [isTake_cons] at this; cases this
  · have := chain_gives hne hm; omega
  · have h0 : opens (chain ns) = [] := by
      unfold opens
      refine filter_none fun w hw => ?_
      have htn : takeNames (chain ns) = ns := by
        unfold takeNames
        rw [chain_takes hm, List.map_map]
        exact List.map_id ns
      rw [htn]
      rcases chain_mem hw with rfl | h | ⟨n, h, rfl⟩
      · rfl
      · rw [decide_eq_true h]; simp
      · have : isNm (47 :: n) = false := by
          cases q : isNm (47 :: n) with
          | false => rfl
          | true => have := (isNm_iff.mp q).2; rw [isTake_cons] at this; cases this
        rw [this]; rfl
    rw [h0, chain_takes hm, List.length_map]
    simpa using e
/-- the little program that is given -/
theorem PW.x : PW 0 [47 :: ix, ix] := chain_ok (ns := [ix]) (by decide) (by simp) rfl
theorem opens_x : opens [47 :: ix, ix] = [] := by decide
end K11

set_option Elab.async false
set_option linter.all false
set_option maxRecDepth 100000
set_option maxHeartbeats 4000000
/-! Rules that the layer lacks: enumerate over a tuple; d.copy(); name = {dict comprehension}; a dict comprehension over any walk. -/
namespace K11
open PySem PySem.Spec PyProof.Rows L2
theorem meets_enum_newT {v : Value} {o : Obj} {H : Heap → Prop} (B : Begins v o H) :
    Meets (Builtin.«enumerate.__new__» ⟨[.type "enumerate", v], []⟩) (fun _ R s => H s.heap ∧
      R (.ok (.ret (.ref (s.heap.push o).objs.size))) { s with heap := (s.heap.push o).push { cls := .type "enumerate", data := .fields #[.none, .bool false, .ref s.heap.objs.size, rawInt 0, .none, .none] } }) :=
  .of_wp fun prog w A R s h => by
    obtain ⟨hp, g, d, tk, os⟩ := s; obtain ⟨h1, h⟩ := h
    have hsub := sub_enumerate
    have q1 : ∀ {A' : Around} {E : Value → Shared → Prop} {Q : Value → Shared → Prop}, Q (.ref hp.objs.size) ⟨hp.push o, g, d, tk, os⟩ → wpAny (model prog w) A' (pyIter v) Q E ⟨hp, g, d, tk, os⟩ :=
      fun q => B.iter prog w _ _ ⟨hp, g, d, tk, os⟩ _ h1 q
    wp_walk using q1
    refine wpAny_stack_any fun st => wpAny_pure ?_
    split
    · rename_i c _ _ _ _ _
      cases (c == Value.type "enumerate")
      · wp_walk using q1
        exact ⟨_, rfl, h⟩
      · wp_walk using q1
        exact ⟨_, rfl, h⟩
    · wp_walk using q1
      exact ⟨_, rfl, h⟩
section
variable {prog : Program} {w : World} {A : Around} {E : Value → Shared → Prop} {s : Shared}
theorem call_enum_tuple {t : Addr} {items : Array Value} {Q : Value → Shared → Prop} (h1 : s.heap.IsTuple t items)
    (h : ∀ h', IsEnum h' (s.heap.objs.size + 1) s.heap.objs.size 0 .none → h'.IsTupleIter s.heap.objs.size t 0 → h'.objs.size = s.heap.objs.size + 2 →
      (∀ b o, s.heap.get? b = some o → h'.get? b = some o) → Q (.ref (s.heap.objs.size + 1)) { s with heap := h' }) :
    wpAny (model prog w) A (call (.type "enumerate") [.ref t]) Q E s := by
  refine callType_new F.called_enumerate (by decide) (F.typeCall_enumerate_1 _) (F.newCall_enumerate_1 _) (fun obj => F.args_object_init_2 obj _) F.entry_enumerate_new
    (meets_enum_newT (begins_tuple t items)) ⟨h1, ?_⟩
  have hz : (s.heap.push { cls := .type "tuple_iterator", data := .fields #[.ref t, .int 0 0] }).objs.size = s.heap.objs.size + 1 := Heap.size_push ..
  show _ ∧ _
  rw [hz]
  have he : IsEnum ((s.heap.push { cls := .type "tuple_iterator", data := .fields #[.ref t, .int 0 0] }).push { cls := .type "enumerate", data := .fields #[.none, .bool false, .ref s.heap.objs.size, rawInt 0, .none, .none] }) (s.heap.objs.size + 1) s.heap.objs.size 0 .none := by
    have := Heap.get?_push_size (s.heap.push { cls := .type "tuple_iterator", data := .fields #[.ref t, .int 0 0] }) (o := { cls := .type "enumerate", data := .fields #[.none, .bool false, .ref s.heap.objs.size, rawInt 0, .none, .none] }) rfl
    rw [hz] at this; exact this
  refine ⟨⟨_, he, rfl⟩, h _ he ⟨_, Heap.get?_push_of_some _ (Heap.get?_push_size _ rfl), rfl, rfl⟩ (by rw [Heap.size_push, hz]) fun b o x => Heap.get?_push_of_some _ (Heap.get?_push_of_some _ x)⟩
end
/-- enumerate(tuple): each item in a new pair -/
def IteT (K : PySem.W.Frag) (a : Addr) : It :=
  ⟨fun i H => ∃ (xs : List V) (x : V), SqT K H a xs ∧ xs[i]? = some x, fun i H v H' => ∃ T x, v = .ref T ∧ H T = none ∧ H' = upd H T (.tup [.int (i : Nat), x]) ∧ ∀ xs, SqT K H a xs → xs[i]? = some x, fun i H => ∃ xs : List V, SqT K H a xs ∧ i = xs.length⟩
theorem turn_enumT {P : Program} {w : World} {K : PySem.W.Frag} {elts : List Expr} {kk : Nat} {tpos : Pos} (a e it : Addr) :
    Turn P w K (.Tuple elts kk tpos) (IteT K a) [e, it] e (fun i h => (∃ old, IsEnum h e it ((i : Nat) : Int) old) ∧ h.IsTupleIter it a i ∧ e ≠ it ∧ a ≠ it ∧ a ≠ e) where
  mem := by simp
  obj := fun i h st b hb => by
    obtain ⟨⟨old, he⟩, ⟨o, ho, hc, hd⟩, _⟩ := st
    have e' : b = e ∨ b = it := by simpa using hb
    rcases e' with z | z
    · rw [z]; exact ⟨_, he, fun v q => nomatch q⟩
    · rw [z]; exact ⟨o, ho, fun v q => by rw [hd] at q; cases q⟩
  keep := fun i h h' st k => let ⟨⟨old, he⟩, hi, hne⟩ := st; ⟨⟨old, k e (by simp) _ he⟩, hi.at fun o q => k it (by simp) o q, hne⟩
  item := by
    intro X hP hw hK hc i pins s σ H E I hf st hg
    subst hP hw hK
    obtain ⟨⟨old, he⟩, hit, hne, hai, hae⟩ := st
    obtain ⟨xs, x, hq, hx⟩ := hg
    obtain ⟨its, rv, p, hz⟩ := I.tuple hq
    obtain ⟨u, hu, ru⟩ := rv.get hx
    have hel : e < s.heap.objs.size := Heap.lt_size he
    have hil : it < s.heap.objs.size := by obtain ⟨_, q, _⟩ := hit; exact Heap.lt_size q
    have hui : its.toArray[i]? = some u := by simpa using hu
    have hlt : i < its.toArray.size := by
      have := (List.getElem?_eq_some_iff.mp hu).1
      simpa using this
    refine wpAny_pyNext_enum_itemD (Draws.tuple (A := X.A.in1) (show X.A.in1.handled = none from I.ok.hd hc) it a hai its.toArray) he ⟨hit, p⟩ hlt hne (by simp [hne, Ne.symm hae]) fun x' h' tk hx' ho hst hT hsz hk => ?_
    have exu : x' = u := Option.some.inj (hx'.symm.trans hui)
    subst exu
    obtain ⟨hit', _⟩ := hst
    refine ⟨_, rfl, wpAny_letOwnedTupleGo_enum (s := { s with heap := h', toks := tk + 1 }) ho fun h'' he' sb => ?_⟩
    have hT2 : h''.get? s.heap.objs.size = some { cls := .type "tuple", data := .seq #[.int i tk, x'] } := (sb.2 _ (Nat.ne_of_gt hel)).trans hT
    have new : ObjOk X.prog X.w (upd H s.heap.objs.size (.tup [.int (i : Nat), x])) h'' s.heap.objs.size (.tup [.int (i : Nat), x]) :=
      ⟨by show 2 ≤ sizeLine; decide, [.int i tk, x'], .cons ⟨_, rfl⟩ (.cons ru .nil), ⟨_, hT2, rfl, _, rfl⟩⟩
    have I1 : Inv X pins σ (upd H s.heap.objs.size (.tup [.int (i : Nat), x])) { s with heap := h'', toks := tk + 1 } :=
      I.turnedNew (ch := [e, it]) (fun b ob hb q => (sb.2 b (fun z => hb (by simp [z]))).trans (hk b ob (fun z => hb (by simp [z])) (fun z => hb (by simp [z])) q)) hf (Nat.le_refl _) new
    refine ⟨.ref s.heap.objs.size, _, I1, rfl, ⟨_, x, rfl, I.hok.fresh (Nat.le_refl _), rfl, fun ys hy => by rw [I.tuple_inj hy hq]; exact hx⟩, ⟨⟨x', ?_⟩, hit'.at fun o q => (sb.2 it (Ne.symm hne)).trans q, hne, hai, hae⟩, fun b hb => ?_⟩
    · have e1 : ((i + 1 : Nat) : Int) = (i : Int) + 1 := by omega
      rw [e1]; exact he'
    · have hb' : b < s.heap.objs.size := by
        have e' : b = e ∨ b = it := by simpa using hb
        rcases e' with z | z
        · rw [z]; exact hel
        · rw [z]; exact hil
      rw [upd_ne (Nat.ne_of_lt hb')]
      exact (hf b hb).1
  done := by
    intro X hP hw hK hc i pins s σ H E I hf st hg
    subst hP hw hK
    obtain ⟨⟨old, he⟩, hit, hne, hai, hae⟩ := st
    obtain ⟨xs, hq, hx⟩ := hg
    obtain ⟨its, rv, p, hz⟩ := I.tuple hq
    obtain ⟨f0, f1, f2, f3, f4, f5⟩ := hf it (by simp)
    have hl := rv.length
    have hii : i = its.toArray.size := by simp; omega
    subst hii
    exact wpAny_pyNext_enum_endD (Draws.tuple (A := X.A.in1) (show X.A.in1.handled = none from I.ok.hd hc) it a hai its.toArray) he ⟨hit, p⟩ fun h' eb => ⟨rfl, I.turned (t' := s.toks) (fun b o hb q => eb b o hb q) f0 f1 f3 f4 f5⟩
  self := fun A i s Q E st h => let ⟨⟨_, he⟩, _⟩ := st; wpAny_pyIter_enum he h
def iEnumT (K : PySem.W.Frag) (ta : TA) : TI := fun σ H R => ta σ H fun vs H1 => ∃ a xs, vs = [.ref a] ∧ SqT K H1 a xs ∧ R (IteT K a) H1
theorem pi_enumT {X : Cx} {e : Expr} {ta : TA} {p pos tpos : Pos} {elts : List Expr} {kk : Nat} (hg : Gl X "enumerate") (hm : X.mg "enumerate" = none) (ha : PA X [e] ta) (hs : starEach [e] X.env = [(false, eval e X.env)] := by rfl) :
    PI X (.Tuple elts kk tpos) (.Call (.Name "enumerate" p) [e] [] pos) (iEnumT X.K ta) := by
  refine ⟨fun pins s σ H R I h => ?_⟩
  refine Call_ (ld_blt I hg hm boot_enumerate (PyProof.Rows.callWith_type1 (thn (ha.run pos pins s σ H _ I h) fun us s1 ⟨vs, H1, I1, r1, q1⟩ => ?_) hs rfl))
  obtain ⟨a, xs, ex, hq, q⟩ := q1
  subst ex
  cases r1 with
  | cons r rr =>
    cases rr
    cases r
    obtain ⟨its, rv, p', hz⟩ := I1.tuple hq
    have hal : a < s1.heap.objs.size := by obtain ⟨_, q, _⟩ := p'; exact Heap.lt_size q
    refine call_enum_tuple (show s1.heap.IsTuple a its.toArray from p') fun h' he hit hsz hk => wpAny_pyIter_enum he ?_
    have I2 : Inv X pins σ H1 { s1 with heap := h' } := I1.kept (t' := s1.toks) hk
    refine ⟨s1.heap.objs.size + 1, [s1.heap.objs.size + 1, s1.heap.objs.size], _, _, H1, rfl, I2, turn_enumT a (s1.heap.objs.size + 1) s1.heap.objs.size, ⟨⟨.none, he⟩, hit, Nat.succ_ne_self _, Nat.ne_of_lt hal, Nat.ne_of_lt (Nat.lt_succ_of_lt hal)⟩, fun b hb => ?_, q⟩
    have e' : b = s1.heap.objs.size + 1 ∨ b = s1.heap.objs.size := by simpa using hb
    have hle : s1.heap.objs.size ≤ b := by
      rcases e' with z | z
      · rw [z]; exact Nat.le_add_right _ _
      · rw [z]; exact Nat.le_refl _
    exact I1.fpOk hle (I1.hok.fresh hle)
theorem walk_enumT {K : PySem.W.Frag} {a : Addr} {xs : List V} : Walk (IteT K a) xs.length (fun H => SqT K H a xs) (YPair (fun i => some (.int (i : Nat))) (fun i => xs[i]?)) := by
  refine ⟨fun i _ hi q => ⟨xs, xs[i], q, by simp [hi]⟩, fun _ q => ⟨xs, q, rfl⟩, fun i H v H' _ q y => ?_⟩
  obtain ⟨T, x, h1, h2, h3, h4⟩ := y
  exact ⟨T, .int (i : Nat), x, h1, h2, h3, rfl, h4 xs q⟩
/-! ### d.copy() -/
def rDCopy : V → List V → Hp → VK → Prop := fun x xs H Q => ∃ (a : Addr) (kvs : List (Key × V)), x = .ref a ∧ xs = [] ∧ H a = some (.dK kvs) ∧ ∀ p, H p = none → Q (.ref p) (upd H p (.dK kvs))
theorem mt_dcopy {X : Cx} : MtR X "dict.copy" rDCopy := by
  intro pins s σ H x xs v us Q I rx rv h
  obtain ⟨a, kvs, rfl, rfl, hH, q⟩ := h
  cases rx
  cases rv
  obtain ⟨z, hd, vs, rel, dd⟩ := dk_of I.hok hH
  have hzv : vs.length ≤ sizeLine := by rw [← rel.length]; exact z
  have hN : H s.heap.objs.size = none := I.hok.fresh (Nat.le_refl _)
  refine call_meetsIn F.slot_dict_copy dd.typeIs F.entry_dict_copy (F.args_dict_copy_1 _) (meets_dict_copy (mixKind X.prog X.w) a hd) ⟨vs, dd, hzv, fun h' d1 d2 k => ?_⟩
  refine ⟨.ref s.heap.objs.size, _, I.laid (t' := s.toks) k (Nat.le_refl _) ?_, rfl, q _ hN⟩
  exact ⟨z, beq_eq_false_iff_ne.mpr (Ne.symm (Nat.ne_of_lt I.big)), vs, rel, d1⟩
/-! ### name = {dict comprehension} -/
section
variable {X : Cx}
theorem ps_setDc {i : Nat} {y : Str} {py : Pos} {kx vx tg iter : Expr} {ifs : List Expr} {scope : Scope} {own : List (Str × Nat)} {pos spos : Pos} {wi : TI} {g : TG} {tt : TT} {tk tv : TE} (hc : X.calm = true) (hN : X.N.Nodup) (hy : X.N[i]? = some y) (hyl : X.env.scope.names.lookup y = some .local)
    (hsw : swapsWith (.DictComp kx vx [⟨tg, iter, ifs, 0⟩] scope pos) (some (.Name y py)) spos.line X.env = pure true) (hi : PI X tg iter wi) (ok : BlkOk X.N X.env.scope scope own)
    (hg : ∀ (s : Shared) (H : Hp) (C : Addr) (cl : List (Str × Addr)) (fp : List Addr), PG (X.blk s H scope (compEnvC scope cl C X.env) fp) tg g) (ht : ∀ (s : Shared) (H : Hp) (C : Addr) (cl : List (Str × Addr)) (fp : List Addr), PTs (X.blk s H scope (compEnvC scope cl C X.env) fp) ifs tt)
    (hk : ∀ (s : Shared) (H : Hp) (C : Addr) (cl : List (Str × Addr)) (fp : List Addr), PE (X.blk s H scope (compEnvC scope cl C X.env) fp) kx tk)
    (he : ∀ (s : Shared) (H : Hp) (C : Addr) (cl : List (Str × Addr)) (fp : List Addr), PE (X.blk s H scope (compEnvC scope cl C X.env) fp) vx tv) (hs : ∀ x, foldedSetIterable iter X.env x = pure x := by intro _; rfl) :
    PS X (.Assign [.Name y py] (.DictComp kx vx [⟨tg, iter, ifs, 0⟩] scope pos) spos) (tAsg (tDc wi g tt tk tv (own.map (·.2))) (gName i)) := by
  refine ⟨fun pins s σ H D I h => ?_⟩
  rw [exec_Assign_Name_used _ _ _ _ hsw]
  refine wpAny_bind (wpAny_standAt (wpAny_bind ?_))
  show wpAny _ X.A (do let _ ← comprehension (.DictComp kx vx [⟨tg, iter, ifs, 0⟩] scope pos) scope X.env (firstIterPos [⟨tg, iter, ifs, 0⟩] pos) newDict false (eval iter X.env) (some (assign (.Name y py) X.env))) _ _ s
  have h : tDc wi g tt tk tv (own.map (·.2)) σ H (fun x H1 => gName i x σ H1 D.nx) := h
  refine wpAny_bind (thn (dc_core (Qf := fun _ s' => SP X pins D .next s') hc hN I hi ok hg ht hk he hs h fun L C s' m H' I' q hn f => ?_) fun _ s' hq => wpAny_pure (wpAny_pure hq))
  show wpAny _ _ (assign (.Name y py) X.env (.ref L)) _ _ _
  refine wpAny_assign_Name (store_ok2 (v := V.ref L) I' hN hy (.inl hyl) rfl (fun s2 I2 ⟨a, sb, ha⟩ => ?_) (.inr hyl))
  obtain ⟨f0, f1, f2, f3, f4, f5⟩ := f
  have haC : C ≠ a := by
    rcases ha with z | z
    · rw [z]; exact f1
    · exact fun e => f4 y a z e.symm
  refine ⟨m, hn.sameBut sb haC, fun h3 sb3 => ?_⟩
  exact ⟨_, H', I2.turned (t' := s2.toks) (fun b o hb e => (sb3.2 b hb).trans e) f0 f1 f3 f4 f5, q⟩
theorem swd_true {kx vx : Expr} {gs : List Comprehension} {scope : Scope} {pos py : Pos} {y : Str} {l : Nat} {env : Env} (hk : env.scope.kind = .function) (hy : env.scope.names.lookup y = some .local) (hl : (py.line == pos.line) = true)
    (ha : (scope.names.any fun (n, k) => n == y && (k == .local || k == .cell)) = false) : swapsWith (.DictComp kx vx gs scope pos) (some (.Name y py)) l env = pure true := by
  have ky : env.kindOf y = some .local := hy
  have hb : env.blockKind = .function := by unfold Env.blockKind; rw [hk]; rfl
  unfold swapsWith
  simp only [hb, ky, ha, Expr.pos, hl]
  rfl
/-- a dict comprehension over any walk: Pv by the turn and the heap (the new dict at D within) -/
theorem dc_it {J : It} {n : Nat} {G : Hp → Prop} {Y : Nat → Hp → V → Hp → Prop} (w : Walk J n G Y) {g : TG} {tt : TT} {tk tv : TE} {vs : List Nat} {σ : L2.St} {H1 : Hp} {D : Addr} {Qd : Hp → Prop} (Pv : Nat → Hp → Prop) (h0 : Pv 0 (upd H1 D (.dK []))) (hG : ∀ i H, i ≤ n → Pv i H → G H)
    (hs : ∀ i x H H', i < n → Pv i H → Y i H x H' → g x (wipe σ vs) H' fun σ2 H2 => wipe σ2 vs = wipe σ vs ∧ tt σ2 H2 fun b H3 =>
      if b = true then tk σ2 H3 fun y H4 => tv σ2 H4 fun z H5 => ∃ kvs k, y = kV k ∧ H5 D = some (.dK kvs) ∧ kvs.length < sizeLine ∧ Pv (i + 1) (upd H5 D (.dK (putK kvs k z))) else Pv (i + 1) H3) (hd : ∀ H, Pv n H → Qd H) :
    ∃ W : Nat → Nat → Hp → Prop, (∃ m, W 0 m (upd H1 D (.dK []))) ∧ ∀ i m H, W i m H →
      (J.stop i H ∧ Qd H) ∨ (J.go i H ∧ ∃ Nx : Hp → Prop, (∀ H', Nx H' → ∃ m', m' < m ∧ W (i + 1) m' H') ∧ ∀ x H', J.yld i H x H' → g x (wipe σ vs) H' fun σ2 H2 => wipe σ2 vs = wipe σ vs ∧ tt σ2 H2 fun b H3 =>
        if b = true then tk σ2 H3 fun y H4 => tv σ2 H4 fun z H5 => ∃ kvs k, y = kV k ∧ H5 D = some (.dK kvs) ∧ kvs.length < sizeLine ∧ Nx (upd H5 D (.dK (putK kvs k z))) else Nx H3) := by
  refine ⟨fun i m H => m = n - i ∧ i ≤ n ∧ Pv i H, ⟨n, by simp, Nat.zero_le _, h0⟩, ?_⟩
  rintro i m H ⟨rfl, hi, p⟩
  have q := hG i H hi p
  by_cases hlt : i < n
  · refine .inr ⟨w.goes i H hlt q, Pv (i + 1), fun H' p' => ⟨n - (i + 1), by omega, rfl, hlt, p'⟩, fun x H' y => hs i x H H' hlt p (w.yields i H x H' hlt q y)⟩
  · have e : i = n := by omega
    subst e
    exact .inl ⟨w.stops H q, hd H p⟩
end
end K11

set_option Elab.async false
set_option linter.all false
set_option maxRecDepth 100000
set_option maxHeartbeats 4000000
/-! Words as values; a def by its promise. -/
namespace K11
open PySem PySem.Spec PyProof.Rows L2
/-! ### texts by their codes -/
abbrev sW (l : Wd) : Str := ⟨l.toArray⟩
abbrev sV (l : Wd) : V := .str ⟨l.toArray⟩
abbrev sK (l : Wd) : Key := .inr ⟨l.toArray⟩
theorem sW_inj {a b : Wd} (h : sW a = sW b) : a = b := by
  have e : a.toArray = b.toArray := congrArg Str.cps h
  have e2 : a.toArray.toList = b.toArray.toList := by rw [e]
  simpa using e2
theorem sV_inj {a b : Wd} (h : sV a = sV b) : a = b := sW_inj (V.str.inj h)
theorem sK_inj {a b : Wd} (h : sK a = sK b) : a = b := sW_inj (Sum.inr.inj h)
theorem sK_eq {a b : Wd} : sK a = sK b ↔ a = b := ⟨sK_inj, fun e => by rw [e]⟩
theorem dec_sV (a b : Wd) : decide (sV a = sV b) = decide (a = b) := by
  by_cases e : a = b
  · rw [decide_eq_true e, e]; exact decide_eq_true rfl
  · rw [decide_eq_false e]; exact decide_eq_false fun q => e (sV_inj q)
theorem sW_len (l : Wd) : (sW l).length = l.length := by show l.toArray.size = l.length; simp
theorem sW_app (a b : Wd) : sW a ++ sW b = sW (a ++ b) := by
  refine Str.ext' ?_
  rw [Str.cps_append]
  show a.toArray ++ b.toArray = (a ++ b).toArray
  simp
theorem cut_to1 (l : Wd) : cutS (sW l) none (some 1) = sW (l.take 1) := by
  unfold cutS
  rw [sW_len, show HT.sIx l.length 0 none = 0 from rfl, show HT.sIx l.length l.length (some 1) = min 1 l.length from HT.sIx_nat l.length l.length 1]
  show (⟨((l.drop 0).take (min 1 l.length - 0)).toArray⟩ : Str) = _
  congr 2
  cases l with
  | nil => rfl
  | cons c r =>
    rw [show min 1 (c :: r).length = 1 by rw [List.length_cons]; omega]
    rfl
theorem cut_from1 (l : Wd) : cutS (sW l) (some 1) none = sW (l.drop 1) := by
  unfold cutS
  rw [sW_len, show HT.sIx l.length 0 (some 1) = min 1 l.length from HT.sIx_nat l.length 0 1, show HT.sIx l.length l.length none = l.length from rfl]
  show (⟨((l.drop (min 1 l.length)).take (l.length - min 1 l.length)).toArray⟩ : Str) = _
  congr 2
  cases l with
  | nil => rfl
  | cons c r =>
    rw [show min 1 (c :: r).length = 1 by rw [List.length_cons]; omega]
    rw [List.length_cons, Nat.add_sub_cancel]
    exact List.take_length
theorem s_at : ("@" : Str) = sW [64] := by decide +kernel
theorem s_sl : ("/" : Str) = sW [47] := by decide +kernel
theorem line_ok {n : Nat} (h : n ≤ 4000000) : n ≤ sizeLine := Nat.le_trans h (by decide)
theorem line_lt {n : Nat} (h : n ≤ 4000000) : n < sizeLine := Nat.lt_of_le_of_lt h (by decide)
/-! ### heaps -/
theorem same_upd {H : Hp} {p : Addr} {o : HO} (h : H p = none) : Same H (upd H p o) := fun b x e => by
  rw [upd_ne (ne_of_none e h)]; exact e
theorem Same.tup {K : PySem.W.Frag} {H H' : Hp} {a : Addr} {xs : List V} (e : Same H H') (h : SqT K H a xs) : SqT K H' a xs := by
  rcases h with (h | ⟨o, h⟩) | h
  · exact .inl (.inl (e _ _ h))
  · exact .inl (.inr ⟨o, e _ _ h⟩)
  · exact .inr h
theorem SqT.mk {K : PySem.W.Frag} {H : Hp} {a : Addr} {xs : List V} (h : H a = some (.tup xs)) : SqT K H a xs := .inl (.inl h)
theorem SqL.mk {K : PySem.W.Frag} {H : Hp} {a : Addr} {xs : List V} (h : H a = some (.lst xs)) : SqL K H a xs := .inl (.inl h)
/-! ### a def of the top -/
abbrev FnP (K : PySem.W.Frag) (x : Str) (st : Stmt) (f : Addr) (fd : FuncData) : Prop := FunD K x x (defArgs st) (defBody st) (defScope st) [] [] f fd
/-- a def that may be called by its name -/
structure Cal (P : Program) (w : World) (K : PySem.W.Frag) (mg : Str → Option Value) (base : Heap) (k : Nat) (x : Str) (sp : Sp) : Prop where
  ex : ∃ (f : Addr) (fd : FuncData) (ps : List Str), FnOk P w K mg base CX0 k f fd ps sp ∧ mg x = some (.ref f) ∧ PySem.W.keepIn K (.ref f) = true ∧ Binds K fd ps []
/-- a class that may be made by its name; sp: its __init__ -/
structure Mak (P : Program) (w : World) (K : PySem.W.Frag) (mg : Str → Option Value) (base : Heap) (k : Nat) (x : Str) (C : Addr) (sp : Sp) : Prop where
  ex : ∃ (f : Addr) (fd : FuncData) (ps : List Str), Mk K C f ∧ FnOk P w K mg base CX0 k f fd ps sp ∧ mg x = some (.ref C) ∧ Binds K fd ps []
section
variable {P : Program} {w : World} {K : PySem.W.Frag} {mg : Str → Option Value} {base : Heap}
theorem fnok_of {x qual : Str} {st : Stmt} {f : Addr} {fd : FuncData} {N ps : List Str} {k : Nat} {sp : Sp} (F : FunD K x qual (defArgs st) (defBody st) (defScope st) [] [] f fd) (S : FnScope N ps (defScope st)) (len : ∀ vs H Q E, sp vs H Q E → vs.length = ps.length)
    (hbody : ∀ (cdv : Value) (A : Around) (outer : List Env) (s : Shared) (H : Hp) (vs : List V) (Q : VK) (E : XK), Room k (A.deeper (envOfC qual (defScope st) s.heap.objs.size f cdv)) → sp vs H Q E →
      ∃ t, PSs (cxOf CX0 P w K mg base N qual (defScope st) f cdv A outer s H E).nox (defBody st) t ∧ t { nx := fun _ H' => Q .non H', rt := Q } (start N vs) H) : FnOk P w K mg base CX0 (k + 1) f fd ps sp :=
  F.ok S len fun cdv A outer s H vs Q E hr hsp => by
    obtain ⟨t, h, q⟩ := hbody cdv A outer s H vs Q E hr hsp
    exact ⟨t, h.nox, q⟩
theorem cal_of {x : Str} {st : Stmt} {f : Addr} {fd : FuncData} {N ps : List Str} {k : Nat} {sp : Sp} (F : FnP K x st f fd) (g : mg x = some (.ref f)) (S : FnScope N ps (defScope st)) (b : Binds K fd ps []) (len : ∀ vs H Q E, sp vs H Q E → vs.length = ps.length)
    (hbody : ∀ (cdv : Value) (A : Around) (outer : List Env) (s : Shared) (H : Hp) (vs : List V) (Q : VK) (E : XK), Room k (A.deeper (envOfC x (defScope st) s.heap.objs.size f cdv)) → sp vs H Q E →
      ∃ t, PSs (cxOf CX0 P w K mg base N x (defScope st) f cdv A outer s H E).nox (defBody st) t ∧ t { nx := fun _ H' => Q .non H', rt := Q } (start N vs) H) : Cal P w K mg base (k + 1) x sp :=
  ⟨f, fd, ps, fnok_of F S len hbody, g, F.kp, b⟩
end
section
variable {X : Cx} {k j : Nat} {C : Addr} {x : Str} {sp : Sp} {p pos : Pos} {e : Expr} {es : List Expr} {t : TA}
def tCl (sp : Sp) (t : TA) : TE := fun σ H Q => t σ H fun vs H1 => sp vs H1 Q E0
theorem pe_c (c : Cal X.prog X.w X.K X.mg X.base k x sp) (hr : Room j X.A) (hk : k ≤ j) (hg : Gl X x) (ha : PA X (e :: es) t)
    (hdb : (x == ("__debug__" : Str)) = false := by decide) (he : starEach (e :: es) X.env = (false, eval e X.env) :: starEach es X.env := by rfl) (hpl : (backTo pos (starEach es X.env)).any (·.1) = false := by rfl) :
    PE X (.Call (.Name x p) (e :: es) [] pos) (tCl sp t) := by
  obtain ⟨f, fd, ps, F, hm, kp, b⟩ := c.ex
  have h := pe_call F (hr.mono hk) hg hm kp b .nil pass0 ha hdb he hpl (p := p) (pos := pos)
  have e0 : tCall sp [] E0 t = tCl sp t := by
    funext σ H Q
    unfold tCall tCl
    congr 1
    funext vs H1
    rw [List.append_nil]
  rw [← e0]
  exact h
def tMk (C : Addr) (sp : Sp) (t : TA) : TE := fun σ H Q => t σ H fun vs H1 => ∀ x dx, H1 x = none → H1 dx = none → dx ≠ x → sp (.ref x :: vs) (upd (upd H1 dx (.own x)) x (.ins C dx [])) (fun v H2 => v = .non ∧ Q (.ref x) H2) E0
theorem pe_mk (c : Mak X.prog X.w X.K X.mg X.base k x C sp) (hr : Room j X.A) (hk : k + 1 ≤ j) (hg : Gl X x) (ha : PA X (e :: es) t)
    (hdb : (x == ("__debug__" : Str)) = false := by decide) (he : starEach (e :: es) X.env = (false, eval e X.env) :: starEach es X.env := by rfl) (hpl : (backTo pos (starEach es X.env)).any (·.1) = false := by rfl) :
    PE X (.Call (.Name x p) (e :: es) [] pos) (tMk C sp t) := by
  obtain ⟨f, fd, ps, M, F, hm, b⟩ := c.ex
  have h := pe_make M F (hr.mono hk) hg hm b .nil pass0 ha hdb he hpl (p := p) (pos := pos)
  have e0 : tMake C sp [] E0 t = tMk C sp t := by
    funext σ H Q
    unfold tMake tMk
    congr 1
    funext vs H1
    rw [List.append_nil]
  rw [← e0]
  exact h
end
/-! ### what the module's names hold -/
structure Gb (mg : Str → Option Value) : Prop where
  isinst : mg "isinstance" = none
  int : mg "int" = none
  bool : mg "bool" = none
  str : mg "str" = none
  tuple : mg "tuple" = none
  list : mg "list" = none
  len : mg "len" = none
  all : mg "all" = none
  enum : mg "enumerate" = none
  range : mg "range" = none
  sum : mg "sum" = none
  abs : mg "abs" = none
  most : ∃ t, mg "MOST_WORDS" = some (.int 1000 t)
  lets : ∃ t, mg "LETTERS" = some (.str "abcdefghijklmnopqrstuvwxyz" t)
end K11

set_option Elab.async false
set_option linter.all false
set_option maxRecDepth 100000
set_option maxHeartbeats 4000000
namespace K11
open PySem PySem.Spec PyProof.Rows L2
section
variable {P : Program} {w : World} {K : PySem.W.Frag} {mg : Str → Option Value} {base : Heap}
/-- a function of a word, the heap as it was -/
def spW (g : Wd → V) : Sp := fun vs H Q _ => ∃ a : Wd, vs = [sV a] ∧ a.length ≤ 4000000 ∧ Q (g a) H
theorem spW_len {g : Wd → V} : ∀ vs H Q E, spW g vs H Q E → vs.length = 1 := fun vs H Q E ⟨_, e, _⟩ => by rw [e]; rfl
/-! ### is_give -/
theorem c_is_give {f : Addr} {fd : FuncData} (F : FnP K "is_give" s_is_give f fd) (g : mg "is_give" = some (.ref f)) : Cal P w K mg base 1 "is_give" (spW fun a => .bl (isGive a)) := by
  have S : FnScope ["word"] ["word"] (defScope s_is_give) := C8.fnScope_by (by decide +kernel)
  refine cal_of F g S (FunD.bindsN F fun _ _ _ _ _ _ us hl => match us, hl with | [_], _ => rfl) spW_len (fun cdv A outer s H vs Q E hr h => ?_)
  obtain ⟨a, rfl, hl, q⟩ := h
  refine ⟨_, pss_one (ps_ret (pe_cmpR op_eq (pv 0) pe_str (nomark _))), ?_⟩
  refine ⟨_, rfl, rfl, ?_⟩
  rw [s_at, dec_sV]
  exact q
/-! ### is_take -/
theorem c_is_take {f : Addr} {fd : FuncData} (F : FnP K "is_take" s_is_take f fd) (g : mg "is_take" = some (.ref f)) : Cal P w K mg base 1 "is_take" (spW fun a => .bl (isTake a)) := by
  have S : FnScope ["word"] ["word"] (defScope s_is_take) := C8.fnScope_by (by decide +kernel)
  refine cal_of F g S (FunD.bindsN F fun _ _ _ _ _ _ us hl => match us, hl with | [_], _ => rfl) spW_len (fun cdv A outer s H vs Q E hr h => ?_)
  obtain ⟨a, rfl, hl, q⟩ := h
  refine ⟨_, pss_one (ps_ret (pe_cmpR op_eq (pe_slice sl_str (pv 0) po_none (po_some pe_int)) pe_str (nomark _))), ?_⟩
  refine ⟨_, rfl, 1, rfl, _, rfl, line_ok (by rw [sW_len]; exact hl), rfl, ?_⟩
  rw [s_sl, cut_to1, dec_sV]
  exact q
/-! ### name_of -/
theorem c_name_of {f : Addr} {fd : FuncData} (F : FnP K "name_of" s_name_of f fd) (g : mg "name_of" = some (.ref f)) (Ct : Cal P w K mg base 1 "is_take" (spW fun a => .bl (isTake a))) : Cal P w K mg base 2 "name_of" (spW fun a => sV (nameOf a)) := by
  have S : FnScope ["word"] ["word"] (defScope s_name_of) := C8.fnScope_by (by decide +kernel)
  refine cal_of F g S (FunD.bindsN F fun _ _ _ _ _ _ us hl => match us, hl with | [_], _ => rfl) spW_len (fun cdv A outer s H vs Q E hr h => ?_)
  obtain ⟨a, rfl, hl, q⟩ := h
  refine ⟨_, pss_one (ps_ret (pe_ifExp (pt_val (pe_c Ct hr (by decide) (by rfl) (pa_cons (pv 0) pa_nil))) (pe_slice sl_str (pv 0) (po_some pe_int) po_none) (pv 0))), ?_⟩
  refine ⟨_, rfl, _, rfl, hl, _, rfl, ?_⟩
  have q : Q (sV (nameOf a)) H := q
  unfold nameOf at q
  refine ite2 (fun e => ?_) (fun e => ?_)
  · rw [if_pos e] at q
    refine ⟨_, rfl, 1, rfl, _, rfl, line_ok (by rw [sW_len]; exact hl), ?_⟩
    rw [cut_from1]
    exact q
  · rw [if_neg e] at q
    exact ⟨_, rfl, q⟩
/-! ### asked_by -/
theorem c_asked_by {f : Addr} {fd : FuncData} (F : FnP K "asked_by" s_asked_by f fd) (g : mg "asked_by" = some (.ref f)) (Cg : Cal P w K mg base 1 "is_give" (spW fun a => .bl (isGive a))) (Ct : Cal P w K mg base 1 "is_take" (spW fun a => .bl (isTake a))) :
    Cal P w K mg base 2 "asked_by" (spW fun a => .int (arity a : Nat)) := by
  have S : FnScope ["word"] ["word"] (defScope s_asked_by) := C8.fnScope_by (by decide +kernel)
  refine cal_of F g S (FunD.bindsN F fun _ _ _ _ _ _ us hl => match us, hl with | [_], _ => rfl) spW_len (fun cdv A outer s H vs Q E hr h => ?_)
  obtain ⟨a, rfl, hl, q⟩ := h
  refine ⟨_, pss_cons (ps_if (pt_val (pe_c Cg hr (by decide) (by rfl) (pa_cons (pv 0) pa_nil))) (pss_one (ps_ret pe_int)) pss_nil)
    (pss_one (ps_ret (pe_ifExp (pt_val (pe_c Ct hr (by decide) (by rfl) (pa_cons (pv 0) pa_nil))) pe_int pe_int))), ?_⟩
  have q : Q (.int (arity a : Nat)) H := q
  unfold arity at q
  refine ⟨_, rfl, _, rfl, hl, _, rfl, ite2 (fun e => ?_) (fun e => ?_)⟩
  · rw [if_pos e] at q
    exact q
  · rw [if_neg e] at q
    refine ⟨_, rfl, _, rfl, hl, _, rfl, ite2 (fun e => ?_) (fun e => ?_)⟩
    · rw [if_pos e] at q
      exact q
    · rw [if_neg e] at q
      exact q
end
end K11

set_option Elab.async false
set_option linter.all false
set_option maxRecDepth 100000
set_option maxHeartbeats 4000000
namespace K11
open PySem PySem.Spec PyProof.Rows L2
section
variable {P : Program} {w : World} {K : PySem.W.Frag} {mg : Str → Option Value} {base : Heap}
/-- a function of a word, new objects beside -/
def spWs (g : Wd → V) : Sp := fun vs H Q _ => ∃ a : Wd, vs = [sV a] ∧ a.length ≤ 4000000 ∧ ∀ H', Same H H' → Q (g a) H'
theorem spWs_len {g : Wd → V} : ∀ vs H Q E, spWs g vs H Q E → vs.length = 1 := fun vs H Q E ⟨_, e, _⟩ => by rw [e]; rfl
theorem lt1 (c d : Nat) : decide (([c] : List Nat) < [d]) = decide (c < d) := by
  by_cases h : c < d
  · rw [decide_eq_true h]; exact decide_eq_true (by simp [List.cons_lt_cons_iff, h])
  · rw [decide_eq_false h]; exact decide_eq_false (by simp [List.cons_lt_cons_iff, h])
def isLow (c : Nat) : Bool := decide (97 ≤ c) && decide (c ≤ 122)
theorem s_a : ("a" : Str) = sW [97] := by decide +kernel
theorem s_z : ("z" : Str) = sW [122] := by decide +kernel
theorem le1 (c d : Nat) : (!decide ((sW [d]).cps.toList < (sW [c]).cps.toList)) = decide (c ≤ d) := by
  show (!decide (([d] : List Nat) < [c])) = decide (c ≤ d)
  rw [lt1]
  by_cases h : c ≤ d
  · rw [decide_eq_true h, decide_eq_false (by omega)]; rfl
  · rw [decide_eq_false h, decide_eq_true (by omega)]; rfl
theorem isLet_eq (a : Wd) : isLet a = (decide (1 ≤ (a.length : Int)) && (decide ((a.length : Int) ≤ 8) && (a.map isLow).all id)) := by
  unfold isLet
  have e1 : decide (1 ≤ a.length) = decide (1 ≤ (a.length : Int)) := by
    by_cases h : 1 ≤ a.length
    · rw [decide_eq_true h, decide_eq_true (by omega)]
    · rw [decide_eq_false h, decide_eq_false (by omega)]
  have e2 : decide (a.length ≤ 8) = decide ((a.length : Int) ≤ 8) := by
    by_cases h : a.length ≤ 8
    · rw [decide_eq_true h, decide_eq_true (by omega)]
    · rw [decide_eq_false h, decide_eq_false (by omega)]
  rw [e1, e2, Bool.and_assoc, List.all_map]
  rfl
/-! ### is_name -/
theorem c_is_name {f : Addr} {fd : FuncData} (F : FnP K "is_name" s_is_name f fd) (g : mg "is_name" = some (.ref f)) (G : Gb mg) : Cal P w K mg base 1 "is_name" (spWs fun a => .bl (isLet a)) := by
  have S : FnScope ["thing", "sign"] ["thing"] (defScope s_is_name) := C8.fnScope_by (by decide +kernel)
  refine cal_of F g S (FunD.bindsN F fun _ _ _ _ _ _ us hl => match us, hl with | [_], _ => rfl) spWs_len (fun cdv A outer s H vs Q E hr h => ?_)
  obtain ⟨a, rfl, hl, q⟩ := h
  refine ⟨_, pss_one (ps_ret (pe_and (pe_callB call_isi (by rfl) G.isinst (by decide +kernel) (pa_cons (pv 0) (pa_cons (pe_bltn (v := .ty "str") (by rfl) G.str (by decide +kernel) rfl) pa_nil)))
    (pe_and (pe_chain op_le op_le pe_int (pe_callB call_len_str (by rfl) G.len PySem.boot_len (pa_cons (pv 0) pa_nil)) pe_int)
    (pe_one (pe_callB (cr_all rfl) (by rfl) G.all (by decide +kernel) (pa_cons (pe_lc (own := [("sign", 1)]) (g := gName 1) (tt := tYes) rfl S.nd (pi_str (pv 0)) (blkOk_by (N := ["thing", "sign"]) (sc := defScope s_is_name) (by decide +kernel))
      (fun _ _ _ _ _ => pg_name (i := 1) S.nd rfl (Or.inl rfl)) (fun _ _ _ _ _ => pts_nil) (fun _ _ _ _ _ => pe_chain op_le_str op_le_str pe_str (pv 1) pe_str)) pa_nil)))))), ?_⟩
  refine ⟨_, rfl, _, _, _, _, true, rfl, .ty _, .base (.str _), kit_ty (a := "str") (b := "str") (by decide +kernel), true, rfl, iteT ?_⟩
  refine ⟨_, rfl, _, rfl, line_ok (by rw [sW_len]; exact hl), _, _, rfl, rfl, _, rfl, ?_⟩
  rw [sW_len]
  have q : ∀ H', Same H H' → Q (.bl (isLet a)) H' := q
  rw [isLet_eq] at q
  refine ite2 (fun e => ?_) (fun e => ?_)
  · rw [e] at q
    refine ⟨_, _, rfl, rfl, _, rfl, ite2 (fun e => ?_) (fun e => ?_)⟩
    · rw [e] at q
      refine ⟨_, rfl, _, rfl, fun D hD => lc_it (walk_str (z := sW a)) (fun i H' => Same H H' ∧ H' D = some (.lst (((a.take i).map isLow).map V.bl))) ⟨same_upd hD, upd_same⟩ (fun _ _ _ _ => trivial) ?_ ?_⟩
      · rintro i x H1 H2 hi ⟨s1, h1⟩ ⟨rfl, c, hc, rfl⟩
        have hc : a[i]? = some c := by simpa using hc
        refine ⟨rfl, ?_⟩
        refine ⟨_, rfl, _, _, rfl, rfl, _, rfl, ?_⟩
        have fin : ∀ b, b = isLow c → ∃ acc, H2 D = some (.lst acc) ∧ acc.length < sizeLine ∧ (Same H (upd H2 D (.lst (acc ++ [.bl b]))) ∧ (upd H2 D (.lst (acc ++ [.bl b]))) D = some (.lst (((a.take (i + 1)).map isLow).map V.bl))) := by
          intro b eb
          refine ⟨_, h1, line_lt (by rw [List.length_map, List.length_map, List.length_take]; omega), fun p o e => ?_, ?_⟩
          · rw [upd_ne (ne_of_none e hD)]; exact s1 _ _ e
          · rw [upd_same, List.take_add_one, hc, List.map_append, List.map_append, eb]; rfl
        rw [s_a, s_z]
        rw [show (!decide ((⟨#[c]⟩ : Str).cps.toList < (sW [97]).cps.toList)) = decide (97 ≤ c) from le1 97 c]
        refine ite2 (fun e => ?_) (fun e => ?_)
        · refine ⟨_, _, rfl, rfl, ?_⟩
          rw [show (!decide ((sW [122]).cps.toList < (⟨#[c]⟩ : Str).cps.toList)) = decide (c ≤ 122) from le1 c 122]
          exact fin _ (by unfold isLow; rw [e]; rfl)
        · exact fin _ (by unfold isLow; rw [Bool.eq_false_iff.mpr e]; rfl)
      · rintro H1 ⟨s1, h1⟩
        refine ⟨D, a.map isLow, rfl, ?_, q _ s1⟩
        have e2 : a.take (sW a).cps.size = a := List.take_of_length_le (by show a.length ≤ a.toArray.size; simp)
        rw [e2] at h1
        exact SqL.mk h1
    · rw [Bool.eq_false_iff.mpr e] at q
      exact q _ (Same.refl _)
  · rw [Bool.eq_false_iff.mpr e] at q
    exact ⟨_, rfl, iteF (q _ (Same.refl _))⟩
end
end K11

set_option Elab.async false
set_option linter.all false
set_option maxRecDepth 100000
set_option maxHeartbeats 4000000
namespace K11
open PySem PySem.Spec PyProof.Rows L2
/-- a program object: its words -/
structure PAt (K : PySem.W.Frag) (H : Hp) (p : Addr) (ws : List Wd) : Prop where
  ex : ∃ C dx a, H p = some (.ins C dx [(("words" : Str), V.ref a)]) ∧ Cls K C ∧ NoAttr K C "words" ∧ SqT K H a (ws.map sV)
theorem PAt.same {K : PySem.W.Frag} {H H' : Hp} {p : Addr} {ws : List Wd} (h : PAt K H p ws) (s : Same H H') : PAt K H' p ws := by
  obtain ⟨C, dx, a, h1, h2, h3, h4⟩ := h.ex
  exact ⟨C, dx, a, s _ _ h1, h2, h3, Same.tup s h4⟩
theorem words_look {a : Addr} : ([(("words" : Str), V.ref a)] : List (Str × V)).lookup ("words" : Str) = some (.ref a) := by simp [List.lookup]
section
variable {P : Program} {w : World} {K : PySem.W.Frag} {mg : Str → Option Value} {base : Heap}
/-! ### is_word -/
theorem c_is_word {f : Addr} {fd : FuncData} (F : FnP K "is_word" s_is_word f fd) (g : mg "is_word" = some (.ref f)) (G : Gb mg) (Cn : Cal P w K mg base 1 "is_name" (spWs fun a => .bl (isLet a))) : Cal P w K mg base 2 "is_word" (spWs fun a => .bl (isWd a)) := by
  have S : FnScope ["thing"] ["thing"] (defScope s_is_word) := C8.fnScope_by (by decide +kernel)
  refine cal_of F g S (FunD.bindsN F fun _ _ _ _ _ _ us hl => match us, hl with | [_], _ => rfl) spWs_len (fun cdv A outer s H vs Q E hr h => ?_)
  obtain ⟨a, rfl, hl, q⟩ := h
  have q : ∀ H', Same H H' → Q (.bl (isWd a)) H' := q
  refine ⟨_, pss_cons (ps_if (pt_not (pt_val (pe_callB call_isi (by rfl) G.isinst (by decide +kernel) (pa_cons (pv 0) (pa_cons (pe_bltn (v := .ty "str") (by rfl) G.str (by decide +kernel) rfl) pa_nil))))) (pss_one (ps_ret pe_bl)) pss_nil)
    (pss_one (ps_ret (pe_or (pe_cmpR op_eq (pv 0) pe_str (nomark _)) (pe_or (pe_c Cn hr (by decide) (by rfl) (pa_cons (pv 0) pa_nil))
      (pe_one (pe_and (pe_cmpR op_eq (pe_slice sl_str (pv 0) po_none (po_some pe_int)) pe_str (nomark _)) (pe_one (pe_c Cn hr (by decide) (by rfl) (pa_cons (pe_slice sl_str (pv 0) (po_some pe_int) po_none) pa_nil))))))))), ?_⟩
  refine ⟨_, rfl, _, _, _, _, true, rfl, .ty _, .base (.str _), kit_ty (a := "str") (b := "str") (by decide +kernel), true, rfl, ?_⟩
  refine ⟨_, rfl, rfl, _, rfl, ?_⟩
  rw [s_at, dec_sV]
  unfold isWd at q
  refine ite2 (fun e => ?_) (fun e => ?_)
  · rw [show isGive a = true from e] at q
    exact q _ (Same.refl _)
  · rw [show isGive a = false from Bool.eq_false_iff.mpr e] at q
    refine ⟨_, rfl, a, rfl, hl, fun H1 s1 => ⟨_, rfl, ite2 (fun e => ?_) (fun e => ?_)⟩⟩
    · rw [e] at q
      exact q _ s1
    · rw [Bool.eq_false_iff.mpr e] at q
      refine ⟨_, rfl, 1, rfl, _, rfl, line_ok (by rw [sW_len]; exact hl), rfl, _, rfl, ?_⟩
      rw [s_sl, cut_to1, dec_sV]
      refine ite2 (fun e => ?_) (fun e => ?_)
      · rw [show isTake a = true from e] at q
        refine ⟨_, rfl, 1, rfl, _, rfl, line_ok (by rw [sW_len]; exact hl), a.drop 1, ?_, ?_, fun H2 s2 => q _ (s1.trans s2)⟩
        · rw [cut_from1]
        · rw [List.length_drop]; omega
      · rw [show isTake a = false from Bool.eq_false_iff.mpr e] at q
        exact q _ s1
/-! ### is_integer, is_within, check_place -/
def spInt : Sp := fun vs H Q _ => ∃ i : Int, vs = [.int i] ∧ Q (.bl true) H
theorem c_is_integer {f : Addr} {fd : FuncData} (F : FnP K "is_integer" s_is_integer f fd) (g : mg "is_integer" = some (.ref f)) (G : Gb mg) : Cal P w K mg base 1 "is_integer" spInt := by
  have S : FnScope ["thing"] ["thing"] (defScope s_is_integer) := C8.fnScope_by (by decide +kernel)
  refine cal_of F g S (FunD.bindsN F fun _ _ _ _ _ _ us hl => match us, hl with | [_], _ => rfl) (fun vs H Q E ⟨_, e, _⟩ => by rw [e]; rfl) (fun cdv A outer s H vs Q E hr h => ?_)
  obtain ⟨i, rfl, q⟩ := h
  refine ⟨_, pss_one (ps_ret (pe_and (pe_callB call_isi (by rfl) G.isinst (by decide +kernel) (pa_cons (pv 0) (pa_cons (pe_bltn (v := .ty "int") (by rfl) G.int (by decide +kernel) rfl) pa_nil)))
    (pe_one (pe_not (pe_callB call_isi (by rfl) G.isinst (by decide +kernel) (pa_cons (pv 0) (pa_cons (pe_bltn (v := .ty "bool") (by rfl) G.bool (by decide +kernel) rfl) pa_nil))))))), ?_⟩
  refine ⟨_, rfl, _, _, _, _, true, rfl, .ty _, .base (.int _), kit_ty (a := "int") (b := "int") (by decide +kernel), true, rfl, ?_⟩
  refine ⟨_, rfl, _, _, _, _, false, rfl, .ty _, .base (.int _), kit_ty (a := "int") (b := "bool") (by decide +kernel), false, rfl, q⟩
def spWithin : Sp := fun vs H Q _ => ∃ i lo hi : Int, vs = [.int i, .int lo, .int hi] ∧ lo ≤ i ∧ i ≤ hi ∧ Q (.bl true) H
theorem c_is_within {f : Addr} {fd : FuncData} (F : FnP K "is_within" s_is_within f fd) (g : mg "is_within" = some (.ref f)) (Ci : Cal P w K mg base 1 "is_integer" spInt) : Cal P w K mg base 2 "is_within" spWithin := by
  have S : FnScope ["thing", "least", "most"] ["thing", "least", "most"] (defScope s_is_within) := C8.fnScope_by (by decide +kernel)
  refine cal_of F g S (FunD.bindsN F fun _ _ _ _ _ _ us hl => match us, hl with | [_, _, _], _ => rfl) (fun vs H Q E ⟨_, _, _, e, _⟩ => by rw [e]; rfl) (fun cdv A outer s H vs Q E hr h => ?_)
  obtain ⟨i, lo, hi, rfl, h1, h2, q⟩ := h
  refine ⟨_, pss_one (ps_ret (pe_and (pe_c Ci hr (by decide) (by rfl) (pa_cons (pv 0) pa_nil)) (pe_one (pe_chain op_le op_le (pv 1) (pv 0) (pv 2))))), ?_⟩
  refine ⟨_, rfl, i, rfl, true, rfl, ?_⟩
  refine ⟨_, rfl, _, rfl, _, _, rfl, rfl, _, rfl, ?_⟩
  rw [decide_eq_true h1]
  refine ⟨_, rfl, _, _, rfl, rfl, ?_⟩
  show Q (.bl (decide (i ≤ hi))) H
  rw [decide_eq_true h2]
  exact q
def spCheck (K : PySem.W.Frag) : Sp := fun vs H Q _ => ∃ (p : Addr) (ws : List Wd) (i : Int), vs = [.ref p, .int i] ∧ PAt K H p ws ∧ 0 ≤ i ∧ i < ws.length ∧ Q .non H
theorem c_check_place {f : Addr} {fd : FuncData} (F : FnP K "check_place" s_check_place f fd) (g : mg "check_place" = some (.ref f)) (G : Gb mg) (Cw : Cal P w K mg base 2 "is_within" spWithin) : Cal P w K mg base 3 "check_place" (spCheck K) := by
  have S : FnScope ["program", "thing"] ["program", "thing"] (defScope s_check_place) := C8.fnScope_by (by decide +kernel)
  refine cal_of F g S (FunD.bindsN F fun _ _ _ _ _ _ us hl => match us, hl with | [_, _], _ => rfl) (fun vs H Q E ⟨_, _, _, e, _⟩ => by rw [e]; rfl) (fun cdv A outer s H vs Q E hr h => ?_)
  obtain ⟨p, ws, i, rfl, hp, h1, h2, q⟩ := h
  obtain ⟨C, dx, a, e1, cl, na, ht⟩ := hp.ex
  refine ⟨_, pss_one (ps_if (pt_not (pt_val (pe_c Cw hr (by decide) (by rfl) (pa_cons (pv 1) (pa_cons pe_int (pa_cons (pe_op op_sub (pe_callB call_len_seq (by rfl) G.len PySem.boot_len (pa_cons (pe_fld (pv 0) rfl) pa_nil)) pe_int) pa_nil)))))) (pss_one ps_never) pss_nil), ?_⟩
  refine ⟨_, rfl, _, rfl, p, C, dx, _, _, rfl, e1, cl, na, words_look, a, _, rfl, .inr ht, _, _, rfl, rfl, i, 0, _, rfl, h1, ?_, true, rfl, q⟩
  rw [List.length_map]; omega
end
end K11

set_option Elab.async false
set_option linter.all false
set_option maxRecDepth 100000
set_option maxHeartbeats 4000000
namespace K11
open PySem PySem.Spec PyProof.Rows L2
/-! ### lists of words as values -/
theorem get_map {α : Type} {g : α → V} {l : List α} {i : Nat} {x : V} (h : (l.map g)[i]? = some x) : ∃ y, l[i]? = some y ∧ x = g y := by
  rw [List.getElem?_map] at h
  cases e : l[i]? with
  | none => rw [e] at h; cases h
  | some y => rw [e] at h; exact ⟨y, rfl, (Option.some.inj h).symm⟩
theorem map_get {α : Type} {g : α → V} {l : List α} {i : Nat} {y : α} (h : l[i]? = some y) : (l.map g)[i]? = some (g y) := by
  rw [List.getElem?_map, h]; rfl
theorem drop_get {α : Type} {l : List α} {i : Nat} {y : α} (h : l[i]? = some y) : l.drop i = y :: l.drop (i + 1) := by
  obtain ⟨h1, h2⟩ := List.getElem?_eq_some_iff.mp h
  rw [List.drop_eq_getElem_cons h1, h2]
theorem lt_of_get {α : Type} {l : List α} {i : Nat} {y : α} (h : l[i]? = some y) : i < l.length := (List.getElem?_eq_some_iff.mp h).1
theorem nd_ix2 {α : Type} {p : α → Bool} {l : List α} (h : (l.filter p).Nodup) {i j : Nat} {x : α} (hij : i < j) (hi : l[i]? = some x) (hj : l[j]? = some x) (hp : p x = true) : False := by
  have h := List.pairwise_filter.mp h
  obtain ⟨a1, a2⟩ := List.getElem?_eq_some_iff.mp hi
  obtain ⟨b1, b2⟩ := List.getElem?_eq_some_iff.mp hj
  have := List.pairwise_iff_getElem.mp h i j a1 b1 hij
  rw [a2, b2] at this
  exact this hp hp rfl
/-- short words -/
def Sh (ws : List Wd) : Prop := ws.length ≤ 1000 ∧ ∀ w ∈ ws, w.length ≤ 2000000 ∧ ∀ c ∈ w, c < 128
theorem Sh.at {ws : List Wd} (h : Sh ws) {i : Nat} {w : Wd} (e : ws[i]? = some w) : w.length ≤ 4000000 := Nat.le_trans (h.2 w (List.mem_of_getElem? e)).1 (by decide)
section
variable {P : Program} {w : World} {K : PySem.W.Frag} {mg : Str → Option Value} {base : Heap}
/-- a function of a tuple of words -/
def spT (K : PySem.W.Frag) (C : List Wd → Prop) (R : List Wd → Hp → V → Hp → Prop) : Sp := fun vs H Q _ => ∃ (a : Addr) (ws : List Wd), vs = [.ref a] ∧ SqT K H a (ws.map sV) ∧ Sh ws ∧ C ws ∧ ∀ v H', Same H H' → R ws H v H' → Q v H'
theorem spT_len {K : PySem.W.Frag} {C : List Wd → Prop} {R : List Wd → Hp → V → Hp → Prop} : ∀ vs H Q E, spT K C R vs H Q E → vs.length = 1 := fun vs H Q E ⟨_, _, e, _⟩ => by rw [e]; rfl
abbrev rNon : List Wd → Hp → V → Hp → Prop := fun _ _ v _ => v = .non
/-! ### wrong_end -/
theorem c_wrong_end {f : Addr} {fd : FuncData} (F : FnP K "wrong_end" s_wrong_end f fd) (g : mg "wrong_end" = some (.ref f)) (G : Gb mg) (Ca : Cal P w K mg base 2 "asked_by" (spW fun a => .int (arity a : Nat))) : Cal P w K mg base 3 "wrong_end" (spT K Good rNon) := by
  have S : FnScope ["words", "asked", "place", "word"] ["words"] (defScope s_wrong_end) := C8.fnScope_by (by decide +kernel)
  refine cal_of F g S (FunD.bindsN F fun _ _ _ _ _ _ us hl => match us, hl with | [_], _ => rfl) spT_len (fun cdv A outer s H vs Q E hr h => ?_)
  obtain ⟨a, ws, rfl, hS, hsh, hg, q⟩ := h
  refine ⟨_, pss_cons (ps_set (i := 1) S.nd rfl (.inl rfl) pe_int) (pss_cons (ps_for PassesOwn.never rfl (pi_enumT (by rfl) G.enum (pa_cons (pv 0) pa_nil))
      (pg_tup rfl (pgs_cons (pg_name (i := 2) S.nd rfl (.inl rfl)) (pgs_cons (pg_name (i := 3) S.nd rfl (.inl rfl)) pgs_nil)))
      (pss_cons (ps_if (pt_cmpR op_eq (pv 1) pe_int (nomark _)) (pss_one (ps_ret (pv 2))) pss_nil)
        (pss_one (ps_aug (i := 1) S.nd rfl (.inl rfl) (pe_op op_sub (pe_c Ca hr (by decide) (by rfl) (pa_cons (pv 3) pa_nil)) pe_int) ip_add))))
    (pss_one (ps_ret (pe_ifExp (pt_cmpR op_gt (pv 1) pe_int (nomark _)) (pe_callB call_len_seq (by rfl) G.len PySem.boot_len (pa_cons (pv 0) pa_nil)) pe_non)))), ?_⟩
  refine ⟨.ref a, rfl, a, _, rfl, hS, for_it walk_enumT (fun i σ H1 => ∃ y2 y3, σ = [some (.ref a), some (.int (sz (ws.drop i))), y2, y3] ∧ Same H H1) ⟨none, none, ?_, Same.refl _⟩ (fun i σ H1 _ ⟨_, _, _, s1⟩ => Same.tup s1 hS) ?_ ?_⟩
  · rw [List.drop_zero, hg.s]; rfl
  · rintro i x σ H1 H2 hi ⟨y2, y3, rfl, s1⟩ ⟨T, x1, x2, rfl, hT, rfl, e1, e2⟩
    cases e1
    obtain ⟨wd, ew, rfl⟩ := get_map e2
    have hd := drop_get ew
    have hb : 1 ≤ sz (ws.drop i) := by
      have := Bal_drop i hg.b
      rw [hd] at this ⊢
      exact this.2
    refine ⟨T, _, rfl, SqT.mk upd_same, rfl, _, _, rfl, _, _, rfl, rfl, ?_⟩
    refine ⟨_, rfl, rfl, _, rfl, ite2 (fun e => ?_) (fun e => ?_)⟩
    · have : V.int (sz (ws.drop i)) = V.int 0 := of_decide_eq_true e
      injection this with this
      omega
    · refine ⟨_, rfl, _, rfl, wd, rfl, hsh.at ew, _, _, rfl, rfl, _, _, rfl, rfl, ?_⟩
      have e3 : sz (ws.drop i) + ((arity wd : Nat) - 1 : Int) = sz (ws.drop (i + 1)) := by
        rw [hd]
        show sz (ws.drop (i + 1)) + 1 - (arity wd : Int) + _ = _
        omega
      exact ⟨some (.int (i : Nat)), some (sV wd), congrArg (fun z => [some (V.ref a), some (V.int z), some (V.int (i : Nat)), some (sV wd)]) e3, s1.trans (same_upd hT)⟩
  · rintro σ H1 ⟨y2, y3, rfl, s1⟩
    have e0 : ws.drop (ws.map sV).length = [] := by rw [List.length_map]; exact List.drop_length
    refine ⟨_, rfl, _, _, rfl, rfl, _, rfl, ite2 (fun e => ?_) (fun e => q _ _ s1 rfl)⟩
    have := of_decide_eq_true e
    rw [e0] at this
    exact absurd this (by decide)
/-! ### wrong_second -/
theorem c_wrong_second {f : Addr} {fd : FuncData} (F : FnP K "wrong_second" s_wrong_second f fd) (g : mg "wrong_second" = some (.ref f)) (G : Gb mg) (Cg : Cal P w K mg base 1 "is_give" (spW fun a => .bl (isGive a))) : Cal P w K mg base 2 "wrong_second" (spT K (fun ws => (ws.filter ng).Nodup) rNon) := by
  have S : FnScope ["words", "met", "place", "word"] ["words"] (defScope s_wrong_second) := C8.fnScope_by (by decide +kernel)
  refine cal_of F g S (FunD.bindsN F fun _ _ _ _ _ _ us hl => match us, hl with | [_], _ => rfl) spT_len (fun cdv A outer s H vs Q E hr h => ?_)
  obtain ⟨a, ws, rfl, hS, hsh, hg, q⟩ := h
  have hu := hu_of hr
  refine ⟨_, pss_cons (ps_set (i := 1) S.nd rfl (.inl rfl) pe_dnewK) (pss_cons (ps_for PassesOwn.never rfl (pi_enumT (by rfl) G.enum (pa_cons (pv 0) pa_nil))
      (pg_tup rfl (pgs_cons (pg_name (i := 2) S.nd rfl (.inl rfl)) (pgs_cons (pg_name (i := 3) S.nd rfl (.inl rfl)) pgs_nil)))
      (pss_one (ps_if (pt_not (pt_val (pe_c Cg hr (by decide) (by rfl) (pa_cons (pv 3) pa_nil))))
        (pss_cons (ps_if (pt_cmp (pc_din hu (pv 3) (pv 1))) (pss_one (ps_ret (pv 2))) pss_nil) (pss_one (ps_dput hu (pv 1) (pv 3) pe_bl rfl))) pss_nil)))
    (pss_one (ps_ret pe_non))), ?_⟩
  intro d hd
  refine ⟨.ref a, rfl, a, _, rfl, Same.tup (same_upd hd) hS, for_it walk_enumT (fun i σ H1 => ∃ y2 y3 kvs, σ = [some (.ref a), some (.ref d), y2, y3] ∧ Same H H1 ∧ H1 d = some (.dK kvs) ∧ kvs.length ≤ i ∧
      ∀ x : Wd, (valV kvs (sK x)).isSome = true → ∃ q, q < i ∧ ws[q]? = some x ∧ ng x = true) ⟨none, none, [], rfl, same_upd hd, upd_same, Nat.le_refl _, fun x hx => by cases hx⟩ (fun i σ H1 _ ⟨_, _, _, _, s1, _⟩ => Same.tup s1 hS) ?_ ?_⟩
  · rintro i x σ H1 H2 hi ⟨y2, y3, kvs, rfl, s1, h1, hl, hm⟩ ⟨T, x1, x2, rfl, hT, rfl, e1, e2⟩
    cases e1
    obtain ⟨wd, ew, rfl⟩ := get_map e2
    have hi : i < ws.length := by rw [List.length_map] at hi; exact hi
    have s2 := s1.trans (same_upd (o := .tup [.int (i : Nat), sV wd]) hT)
    have h2 : (upd H1 T (.tup [.int (i : Nat), sV wd])) d = some (.dK kvs) := by rw [upd_ne (ne_of_none h1 hT)]; exact h1
    refine ⟨T, _, rfl, SqT.mk upd_same, rfl, _, _, rfl, _, _, rfl, rfl, ?_⟩
    refine ⟨_, rfl, wd, rfl, hsh.at ew, _, rfl, ?_⟩
    cases hgv : isGive wd with
    | true =>
      refine ⟨_, _, kvs, rfl, s2, h2, by omega, fun x hx => ?_⟩
      obtain ⟨q, h1, h2⟩ := hm x hx
      exact ⟨q, by omega, h2⟩
    | false =>
      refine ⟨_, rfl, _, rfl, d, _, rfl, DGet.k (k := sK wd) h2, _, rfl, ?_⟩
      have hno : valV kvs (sK wd) = none := by
        cases e : valV kvs (sK wd) with
        | none => rfl
        | some v =>
          obtain ⟨q, h1, h2, h3⟩ := hm wd (by rw [e]; rfl)
          exact (nd_ix2 hg h1 h2 ew h3).elim
      rw [hno]
      refine ⟨_, rfl, _, rfl, d, _, rfl, DPut.k (k := sK wd) h2 (line_lt (by have := hsh.1; omega)), ?_⟩
      refine ⟨_, _, _, rfl, fun p o e => ?_, upd_same, ?_, fun x hx => ?_⟩
      · rw [upd_ne (ne_of_none e hd)]; exact s2 _ _ e
      · rw [putK_new _ hno, List.length_append]; show kvs.length + 1 ≤ i + 1; omega
      · rw [valV_put] at hx
        by_cases e : sK x = sK wd
        · exact ⟨i, by omega, by rw [sK_inj e]; exact ew, by rw [sK_inj e]; exact ng_of hgv⟩
        · rw [if_neg e] at hx
          obtain ⟨q, h1, h2⟩ := hm x hx
          exact ⟨q, by omega, h2⟩
  · rintro σ H1 ⟨y2, y3, kvs, rfl, s1, _⟩
    exact q _ _ s1 rfl
end
end K11

set_option Elab.async false
set_option linter.all false
set_option maxRecDepth 100000
set_option maxHeartbeats 4000000
namespace K11
open PySem PySem.Spec PyProof.Rows L2
abbrev nV (n : Nat) : V := .int (n : Int)
abbrev rTupN (f : List Wd → List Nat) : List Wd → Hp → V → Hp → Prop := fun ws H v H' => ∃ p, v = .ref p ∧ H p = none ∧ H' p = some (.tup ((f ws).map nV))
theorem rep_flat (k : Nat) (x : V) : (List.replicate k [x]).flatten = List.replicate k x := by
  induction k with
  | zero => rfl
  | succ k ih => rw [List.replicate_succ, List.flatten_cons, ih]; rfl
theorem set_mid {l r : List V} {x y : V} {n : Nat} (h : l.length = n) : (l ++ x :: r).set n y = l ++ y :: r := by
  rw [List.set_append_right _ _ (by omega)]
  rw [h, Nat.sub_self]
  rfl
theorem ixN_nat {n k : Nat} (h : k < n) : ixN n (k : Int) = some k := by
  unfold ixN
  rw [if_pos (by omega), if_pos (by omega)]
  simp
section
variable {P : Program} {w : World} {K : PySem.W.Frag} {mg : Str → Option Value} {base : Heap}
/-! ### raw_ends -/
theorem c_raw_ends {f : Addr} {fd : FuncData} (F : FnP K "raw_ends" s_raw_ends f fd) (g : mg "raw_ends" = some (.ref f)) (G : Gb mg) (Ca : Cal P w K mg base 2 "asked_by" (spW fun a => .int (arity a : Nat))) : Cal P w K mg base 3 "raw_ends" (spT K Bal (rTupN endsOf)) := by
  have S : FnScope ["words", "found", "whole", "place", "end", "turn"] ["words"] (defScope s_raw_ends) := C8.fnScope_by (by decide +kernel)
  refine cal_of F g S (FunD.bindsN F fun _ _ _ _ _ _ us hl => match us, hl with | [_], _ => rfl) spT_len (fun cdv A outer s H vs Q E hr h => ?_)
  obtain ⟨a, ws, rfl, hS, hsh, hb, q⟩ := h
  refine ⟨_, pss_cons (ps_set (i := 1) S.nd rfl (.inl rfl) (pe_op op_rep (pe_lst (pa_cons pe_int pa_nil)) (pe_callB call_len_seq (by rfl) G.len PySem.boot_len (pa_cons (pv 0) pa_nil))))
    (pss_cons (ps_set (i := 2) S.nd rfl (.inl rfl) (pe_lst pa_nil))
    (pss_cons (ps_for PassesOwn.never rfl (pi_range3 (by rfl) G.range (pa_cons (pe_op op_sub (pe_callB call_len_seq (by rfl) G.len PySem.boot_len (pa_cons (pv 0) pa_nil)) pe_int) (pa_cons (pe_un un_neg pe_int) (pa_cons (pe_un un_neg pe_int) pa_nil)))) (pg_name (i := 3) S.nd rfl (.inl rfl))
      (pss_cons (ps_set (i := 4) S.nd rfl (.inl rfl) (pe_op op_add (pv 3) pe_int))
      (pss_cons (ps_for PassesOwn.never rfl (pi_range1 (by rfl) G.range (pa_cons (pe_c Ca hr (by decide) (by rfl) (pa_cons (pe_ix ix_tup (pv 0) (pv 3) (fun _ _ => rfl)) pa_nil)) pa_nil)) (pg_name (i := 5) S.nd rfl (.inl rfl))
        (pss_one (ps_set (i := 4) S.nd rfl (.inl rfl) (pe_bm0 PySem.F.plainAttrs_list PySem.F.slot_list_pop PySem.F.type_list_pop mt_pop (pv 2)))))
      (pss_cons (ps_asg (pv 4) (pg_sub (pv 1) (pv 3) set_list))
      (pss_one (ps_expr (pe_bm PySem.F.plainAttrs_list PySem.F.slot_list_append PySem.F.type_list_append mt_append (pv 2) (pa_cons (pv 4) pa_nil))))))))
    (pss_one (ps_ret (pe_callTy call_tuple_of (by rfl) G.tuple (by decide +kernel) (pa_cons (pv 1) pa_nil)))))), ?_⟩
  have hlen : (ws.map sV).length = ws.length := List.length_map ..
  have hle := hsh.1
  -- found
  refine ⟨by show 1 ≤ sizeLine; decide, fun l nl => ?_⟩
  have s1 : Same H (upd H l (.lst [.int 0])) := same_upd nl
  refine ⟨.ref a, rfl, a, _, rfl, .inr (Same.tup s1 hS), l, _, [.int 0], rfl, rfl, upd_same, by omega, by rw [hlen]; omega, line_ok (by rw [hlen]; simp; omega), fun fo nfo => ?_⟩
  have s2 := s1.trans (same_upd (o := .lst (List.replicate (((ws.map sV).length : Nat) : Int).toNat [V.int 0]).flatten) nfo)
  -- whole
  refine ⟨Nat.zero_le _, fun wh nwh => ?_⟩
  have s3 := s2.trans (same_upd (o := .lst []) nwh)
  have nfw : fo ≠ wh := ne_of_none upd_same nwh
  have hfoH : H fo = none := s1.free nfo
  have hwhH : H wh = none := s2.free nwh
  refine ⟨.ref a, rfl, a, _, rfl, .inr (Same.tup s3 hS), _, _, rfl, rfl, 1, rfl, 1, rfl, _, _, _, _, rfl, RgC.neg (by rw [hlen]; omega) (by rw [hlen]; omega) (by decide) (by decide), ?_⟩
  have en : (((ws.map sV).length : Int) - 1 - -1).toNat = ws.length := by rw [hlen]; omega
  rw [en]
  refine for_rangeC (fun t σ H1 => ∃ y3 y4 y5, σ = [some (.ref a), some (.ref fo), some (.ref wh), y3, y4, y5] ∧ Same H H1 ∧
    H1 fo = some (.lst (List.replicate (ws.length - t) (V.int 0) ++ (endsSt (ws.length - t) (ws.drop (ws.length - t))).1.map nV)) ∧ H1 wh = some (.lst ((endsSt (ws.length - t) (ws.drop (ws.length - t))).2.map nV).reverse)) ?_ ?_ ?_
  · refine ⟨none, none, none, rfl, s3, ?_, ?_⟩
    · rw [upd_ne nfw, upd_same, Nat.sub_zero, List.drop_length, rep_flat, hlen]
      simp [endsSt]
    · rw [upd_same, Nat.sub_zero, List.drop_length]; rfl
  · rintro t σ H1 ht ⟨y3, y4, y5, rfl, s4, hfo, hwh⟩
    obtain ⟨k, hk⟩ : ∃ k : Nat, k + 1 + t = ws.length := ⟨ws.length - 1 - t, by omega⟩
    have ek : V.int (((ws.map sV).length : Int) - 1 + (t : Int) * -1) = nV k := congrArg V.int (by rw [hlen]; omega)
    rw [ek]
    have em : ws.length - t = k + 1 := by omega
    have em2 : ws.length - (t + 1) = k := by omega
    rw [em] at hfo hwh
    have hkl : k < ws.length := by omega
    have gk : ws[k]? = some ws[k] := List.getElem?_eq_getElem hkl
    have hdk := drop_get gk
    generalize ws[k] = wd at gk hdk
    have hbk := Bal_drop k hb
    rw [hdk] at hbk
    have room := stack_room k hbk
    have hEn : endsSt k (ws.drop k) = ((if arity wd = 0 then k + 1 else (endsSt (k + 1) (ws.drop (k + 1))).2.getD (arity wd - 1) 0) :: (endsSt (k + 1) (ws.drop (k + 1))).1,
      (if arity wd = 0 then k + 1 else (endsSt (k + 1) (ws.drop (k + 1))).2.getD (arity wd - 1) 0) :: (endsSt (k + 1) (ws.drop (k + 1))).2.drop (arity wd)) := by rw [hdk]; rfl
    have hsl := stack_len (k + 1) (Bal_drop (k + 1) hb)
    have hlenS : (endsSt (k + 1) (ws.drop (k + 1))).2.length ≤ 1000 := by
      have : ∀ l : List Wd, sz l ≤ (l.length : Int) := by
        intro l
        induction l with
        | nil => exact Int.le_refl _
        | cons x r ih => show sz r + 1 - (arity x : Int) ≤ ((r.length + 1 : Nat) : Int); omega
      have h2 := this (ws.drop (k + 1))
      rw [List.length_drop] at h2
      omega
    revert hfo hwh hEn room hlenS
    generalize (endsSt (k + 1) (ws.drop (k + 1))).2 = st
    generalize (endsSt (k + 1) (ws.drop (k + 1))).1 = fn
    intro hwh hfo room hEn hlenS
    -- end = place + 1
    refine ⟨_, rfl, _, _, rfl, rfl, ?_⟩
    -- the inner loop
    refine ⟨.ref a, rfl, _, rfl, a, _, _, _, rfl, rfl, Same.tup s4 hS, atI_nat (map_get gk), wd, rfl, hsh.at gk, _, rfl, by omega, by have := arity_le wd; omega, ?_⟩
    have ea : ((arity wd : Nat) : Int).toNat = arity wd := by simp
    rw [ea]
    refine for_range (fun j σ H2 => ∃ y5, σ = [some (.ref a), some (.ref fo), some (.ref wh), some (nV k), some (nV (if j = 0 then k + 1 else st.getD (j - 1) 0)), y5] ∧ Same H H2 ∧
      H2 fo = some (.lst (List.replicate (k + 1) (V.int 0) ++ fn.map nV)) ∧ H2 wh = some (.lst ((st.drop j).map nV).reverse)) ⟨_, rfl, s4, hfo, hwh⟩ ?_ ?_
    · rintro j σ H2 hj ⟨y, rfl, s5, h1, h2⟩
      have hjl : j < st.length := by omega
      have gj : st[j]? = some st[j] := List.getElem?_eq_getElem hjl
      have e1 : st.drop j = st[j] :: st.drop (j + 1) := drop_get gj
      rw [e1, List.map_cons, List.reverse_cons] at h2
      refine ⟨.ref wh, rfl, .inl ⟨rfl, _, SqL.mk h2⟩, wh, _, nV st[j], rfl, rfl, h2, ?_, ?_⟩
      · rw [List.length_append, List.length_singleton, Nat.add_sub_cancel, List.getElem?_append_right (Nat.le_refl _), Nat.sub_self]; rfl
      · rw [List.dropLast_concat]
        refine ⟨some (.int (0 + (j : Int))), ?_, fun p o e => ?_, ?_, upd_same⟩
        · have : (if j + 1 = 0 then k + 1 else st.getD (j + 1 - 1) 0) = st[j] := by
            rw [if_neg (by omega), Nat.add_sub_cancel, List.getD_eq_getElem?_getD, gj]; rfl
          rw [this]; rfl
        · rw [upd_ne (ne_of_none e hwhH)]; exact s5 _ _ e
        · rw [upd_ne nfw]; exact h1
    · rintro σ H2 ⟨y, rfl, s5, h1, h2⟩
      -- found[place] = end
      refine ⟨_, rfl, .ref fo, rfl, _, rfl, fo, _, _, k, rfl, rfl, h1, ixN_nat (by rw [List.length_append, List.length_replicate]; omega), ?_⟩
      generalize (if arity wd = 0 then k + 1 else st.getD (arity wd - 1) 0) = en at hEn
      have h3 : (List.replicate (k + 1) (V.int 0) ++ fn.map nV).set k (nV en) = List.replicate k (V.int 0) ++ (nV en :: fn.map nV) := by
        rw [show k + 1 = k.succ from rfl, List.replicate_succ', List.append_assoc]
        exact set_mid (List.length_replicate ..)
      rw [h3]
      -- whole.append(end)
      have h4 : (upd H2 fo (.lst (List.replicate k (V.int 0) ++ (nV en :: fn.map nV)))) wh = some (.lst ((st.drop (arity wd)).map nV).reverse) := by rw [upd_ne nfw.symm]; exact h2
      refine ⟨.ref wh, rfl, .inl ⟨rfl, _, SqL.mk h4⟩, _, rfl, wh, _, _, rfl, rfl, h4, line_lt (by rw [List.length_reverse, List.length_map, List.length_drop]; omega), ?_⟩
      refine ⟨_, _, _, rfl, fun p o e => ?_, ?_, ?_⟩
      · rw [upd_ne (ne_of_none e hwhH), upd_ne (ne_of_none e hfoH)]; exact s5 _ _ e
      · rw [upd_ne nfw, upd_same, em2, hEn]; rfl
      · rw [upd_same, em2, hEn]
        show _ = some (HO.lst (nV en :: (st.drop (arity wd)).map nV).reverse)
        rw [List.reverse_cons]
  · rintro σ H1 ⟨y3, y4, y5, rfl, s4, hfo, hwh⟩
    rw [Nat.sub_self] at hfo
    refine ⟨.ref fo, rfl, fo, _, rfl, .inl ⟨SqL.mk hfo, fun p np => q _ _ (s4.trans (same_upd np)) ⟨p, rfl, s4.free np, ?_⟩⟩⟩
    rw [upd_same]; rfl
end
end K11

set_option Elab.async false
set_option linter.all false
set_option maxRecDepth 100000
set_option maxHeartbeats 4000000
namespace K11
open PySem PySem.Spec PyProof.Rows L2
theorem takeNames_app (a b : List Wd) : takeNames (a ++ b) = takeNames a ++ takeNames b := by
  unfold takeNames; rw [List.filter_append, List.map_append]
theorem takeNames_one (x : Wd) : takeNames [x] = if isTake x = true then [x.drop 1] else [] := by
  unfold takeNames
  cases e : isTake x with
  | true => rw [List.filter_cons_of_pos e]; rfl
  | false => rw [List.filter_cons_of_neg (by rw [e]; simp)]; rfl
theorem takeNames_step {ws : List Wd} {i : Nat} {x : Wd} (h : ws[i]? = some x) : takeNames (ws.take (i + 1)) = takeNames (ws.take i) ++ if isTake x = true then [x.drop 1] else [] := by
  rw [List.take_add_one, h, ← takeNames_one, ← takeNames_app]; rfl
theorem nameOf_of {x : Wd} (h : isTake x = true) : nameOf x = x.drop 1 := by unfold nameOf; rw [if_pos h]
section
variable {P : Program} {w : World} {K : PySem.W.Frag} {mg : Str → Option Value} {base : Heap}
/-! ### uses -/
abbrev rUses : List Wd → Hp → V → Hp → Prop := fun ws H v H' => ∃ d kvs, v = .ref d ∧ H d = none ∧ H' d = some (.dK kvs) ∧ ∀ (q : Nat) (x : Wd), ws[q]? = some x → isNm x = true → valV kvs (sK x) = some (nV q)
theorem c_uses {f : Addr} {fd : FuncData} (F : FnP K "uses" s_uses f fd) (g : mg "uses" = some (.ref f)) (G : Gb mg) (Cg : Cal P w K mg base 1 "is_give" (spW fun a => .bl (isGive a))) (Ct : Cal P w K mg base 1 "is_take" (spW fun a => .bl (isTake a))) :
    Cal P w K mg base 2 "uses" (spT K (fun ws => (ws.filter ng).Nodup) rUses) := by
  have S : FnScope ["words", "place", "word"] ["words"] (defScope s_uses) := C8.fnScope_by (by decide +kernel)
  refine cal_of F g S (FunD.bindsN F fun _ _ _ _ _ _ us hl => match us, hl with | [_], _ => rfl) spT_len (fun cdv A outer s H vs Q E hr h => ?_)
  obtain ⟨a, ws, rfl, hS, hsh, hnd, q⟩ := h
  refine ⟨_, pss_one (ps_ret (pe_dc (own := [("place", 1), ("word", 2)]) (g := gTup K 2 (gCons (gName 1) (gCons (gName 2) gNil))) rfl S.nd (pi_enumT (by rfl) G.enum (pa_cons (pv 0) pa_nil))
    (blkOk_by (N := ["words", "place", "word"]) (sc := defScope s_uses) (by decide +kernel))
    (fun _ _ _ _ _ => pg_tup rfl (pgs_cons (pg_name (i := 1) S.nd rfl (Or.inl rfl)) (pgs_cons (pg_name (i := 2) S.nd rfl (Or.inl rfl)) pgs_nil)))
    (fun _ _ _ _ _ => pts_one (PW.pt (pw_and (pt_not (pt_val (pe_c Cg hr (by decide) (by rfl) (pa_cons (pv 2) pa_nil)))) (pw_and1 (pt_not (pt_val (pe_c Ct hr (by decide) (by rfl) (pa_cons (pv 2) pa_nil))))))))
    (fun _ _ _ _ _ => pv 2) (fun _ _ _ _ _ => pv 1))), ?_⟩
  refine ⟨.ref a, rfl, a, _, rfl, hS, fun D hD => dc_it walk_enumT (fun i H1 => ∃ kvs, Same H H1 ∧ H1 D = some (.dK kvs) ∧ kvs.length ≤ i ∧ ∀ (q : Nat) (x : Wd), q < i → ws[q]? = some x → isNm x = true → valV kvs (sK x) = some (nV q))
    ⟨[], same_upd hD, upd_same, Nat.le_refl _, fun q x hq => by omega⟩ (fun i H1 _ ⟨_, s1, _⟩ => Same.tup s1 hS) ?_ ?_⟩
  · rintro i x H1 H2 hi ⟨kvs, s1, h1, hl, hm⟩ ⟨T, x1, x2, rfl, hT, rfl, e1, e2⟩
    cases e1
    obtain ⟨wd, ew, rfl⟩ := get_map e2
    have hi : i < ws.length := by rw [List.length_map] at hi; exact hi
    have s2 := s1.trans (same_upd (o := .tup [.int (i : Nat), sV wd]) hT)
    have h2 : (upd H1 T (.tup [.int (i : Nat), sV wd])) D = some (.dK kvs) := by rw [upd_ne (ne_of_none h1 hT)]; exact h1
    refine ⟨T, _, rfl, SqT.mk upd_same, rfl, _, _, rfl, _, _, rfl, rfl, rfl, ?_⟩
    have skip : isNm wd = false → ∃ kvs, Same H (upd H1 T (.tup [.int (i : Nat), sV wd])) ∧ (upd H1 T (.tup [.int (i : Nat), sV wd])) D = some (.dK kvs) ∧ kvs.length ≤ i + 1 ∧ ∀ (q : Nat) (x : Wd), q < i + 1 → ws[q]? = some x → isNm x = true → valV kvs (sK x) = some (nV q) := fun hn => by
      refine ⟨kvs, s2, h2, by omega, fun q x hq hx hxn => ?_⟩
      by_cases e : q = i
      · subst e
        rw [ew] at hx; cases hx
        rw [hn] at hxn; cases hxn
      · exact hm q x (by omega) hx hxn
    refine ⟨_, rfl, wd, rfl, hsh.at ew, _, rfl, ?_⟩
    cases hg : isGive wd with
    | true => exact skip (by unfold isNm; rw [hg]; rfl)
    | false =>
      refine ⟨_, rfl, wd, rfl, hsh.at ew, _, rfl, ?_⟩
      cases ht : isTake wd with
      | true => exact skip (by unfold isNm; rw [hg, ht]; rfl)
      | false =>
        refine ⟨_, rfl, _, rfl, kvs, sK wd, rfl, h2, line_lt (by have := hsh.1; omega), _, fun p o e => ?_, upd_same, ?_, fun q x hq hx hxn => ?_⟩
        · rw [upd_ne (ne_of_none e hD)]; exact s2 _ _ e
        · have := length_putK kvs (sK wd) (V.int (i : Nat)); omega
        · rw [valV_put]
          by_cases e : q = i
          · subst e
            rw [ew] at hx; cases hx
            rw [if_pos rfl]
          · have hne : ¬ sK x = sK wd := fun z => by
              have z := sK_inj z
              subst z
              exact nd_ix2 hnd (show q < i by omega) hx ew (ng_of hg)
            rw [if_neg hne]
            exact hm q x (by omega) hx hxn
  · rintro H1 ⟨kvs, s1, h1, hl, hm⟩
    refine q _ _ s1 ⟨D, kvs, rfl, hD, h1, fun q x hx hxn => hm q x ?_ hx hxn⟩
    rw [List.length_map]; exact lt_of_get hx
/-! ### taken -/
abbrev rTaken : List Wd → Hp → V → Hp → Prop := fun ws H v H' => ∃ d kvs, v = .ref d ∧ H d = none ∧ H' d = some (.dK kvs) ∧ ∀ x : Wd, (valV kvs (sK x)).isSome = decide (x ∈ takeNames ws)
theorem c_taken {f : Addr} {fd : FuncData} (F : FnP K "taken" s_taken f fd) (g : mg "taken" = some (.ref f)) (G : Gb mg) (Cn : Cal P w K mg base 2 "name_of" (spW fun a => sV (nameOf a))) (Ct : Cal P w K mg base 1 "is_take" (spW fun a => .bl (isTake a))) :
    Cal P w K mg base 3 "taken" (spT K (fun _ => True) rTaken) := by
  have S : FnScope ["words", "place", "word"] ["words"] (defScope s_taken) := C8.fnScope_by (by decide +kernel)
  refine cal_of F g S (FunD.bindsN F fun _ _ _ _ _ _ us hl => match us, hl with | [_], _ => rfl) spT_len (fun cdv A outer s H vs Q E hr h => ?_)
  obtain ⟨a, ws, rfl, hS, hsh, _, q⟩ := h
  refine ⟨_, pss_one (ps_ret (pe_dc (own := [("place", 1), ("word", 2)]) (g := gTup K 2 (gCons (gName 1) (gCons (gName 2) gNil))) rfl S.nd (pi_enumT (by rfl) G.enum (pa_cons (pv 0) pa_nil))
    (blkOk_by (N := ["words", "place", "word"]) (sc := defScope s_taken) (by decide +kernel))
    (fun _ _ _ _ _ => pg_tup rfl (pgs_cons (pg_name (i := 1) S.nd rfl (Or.inl rfl)) (pgs_cons (pg_name (i := 2) S.nd rfl (Or.inl rfl)) pgs_nil)))
    (fun _ _ _ _ _ => pts_one (pt_val (pe_c Ct hr (by decide) (by rfl) (pa_cons (pv 2) pa_nil))))
    (fun _ _ _ _ _ => pe_c Cn hr (by decide) (by rfl) (pa_cons (pv 2) pa_nil)) (fun _ _ _ _ _ => pv 1))), ?_⟩
  refine ⟨.ref a, rfl, a, _, rfl, hS, fun D hD => dc_it walk_enumT (fun i H1 => ∃ kvs, Same H H1 ∧ H1 D = some (.dK kvs) ∧ kvs.length ≤ i ∧ ∀ x : Wd, (valV kvs (sK x)).isSome = decide (x ∈ takeNames (ws.take i)))
    ⟨[], same_upd hD, upd_same, Nat.le_refl _, fun x => rfl⟩ (fun i H1 _ ⟨_, s1, _⟩ => Same.tup s1 hS) ?_ ?_⟩
  · rintro i x H1 H2 hi ⟨kvs, s1, h1, hl, hm⟩ ⟨T, x1, x2, rfl, hT, rfl, e1, e2⟩
    cases e1
    obtain ⟨wd, ew, rfl⟩ := get_map e2
    have hi : i < ws.length := by rw [List.length_map] at hi; exact hi
    have s2 := s1.trans (same_upd (o := .tup [.int (i : Nat), sV wd]) hT)
    have h2 : (upd H1 T (.tup [.int (i : Nat), sV wd])) D = some (.dK kvs) := by rw [upd_ne (ne_of_none h1 hT)]; exact h1
    refine ⟨T, _, rfl, SqT.mk upd_same, rfl, _, _, rfl, _, _, rfl, rfl, rfl, ?_⟩
    refine ⟨_, rfl, wd, rfl, hsh.at ew, _, rfl, ?_⟩
    rw [takeNames_step ew]
    cases ht : isTake wd with
    | false =>
      refine ⟨kvs, s2, h2, by omega, fun x => ?_⟩
      rw [hm x]; simp
    | true =>
      refine ⟨_, rfl, wd, rfl, hsh.at ew, _, rfl, kvs, sK (nameOf wd), rfl, h2, line_lt (by have := hsh.1; omega), _, fun p o e => ?_, upd_same, ?_, fun x => ?_⟩
      · rw [upd_ne (ne_of_none e hD)]; exact s2 _ _ e
      · have := length_putK kvs (sK (nameOf wd)) (V.int (i : Nat)); omega
      · rw [valV_put, nameOf_of ht]
        by_cases e : sK x = sK (wd.drop 1)
        · have e2 := sK_inj e
          rw [if_pos e, e2]
          simp
        · have e2 : ¬ x = wd.drop 1 := fun z => e (by rw [z])
          rw [if_neg e, hm x]
          have e3 : (x ∈ takeNames (ws.take i)) ↔ (x ∈ takeNames (ws.take i) ++ [wd.drop 1]) := ⟨fun z => List.mem_append_left _ z, fun z => (List.mem_append.mp z).elim id fun z => absurd (List.mem_singleton.mp z) e2⟩
          by_cases h : x ∈ takeNames (ws.take i)
          · rw [decide_eq_true h]; exact (decide_eq_true (e3.mp h)).symm
          · rw [decide_eq_false h]; exact (decide_eq_false fun z => h (e3.mpr z)).symm
  · rintro H1 ⟨kvs, s1, h1, hl, hm⟩
    refine q _ _ s1 ⟨D, kvs, rfl, hD, h1, fun x => ?_⟩
    rw [hm x, List.length_map, List.take_length]
end
end K11

set_option Elab.async false
set_option linter.all false
set_option maxRecDepth 100000
set_option maxHeartbeats 4000000
namespace K11
open PySem PySem.Spec PyProof.Rows L2
abbrev isPW (ws : List Wd) : Prop := ∃ many, PW many ws
section
variable {P : Program} {w : World} {K : PySem.W.Frag} {mg : Str → Option Value} {base : Heap}
/-! ### wrong_take -/
theorem c_wrong_take {f : Addr} {fd : FuncData} (F : FnP K "wrong_take" s_wrong_take f fd) (g : mg "wrong_take" = some (.ref f)) (G : Gb mg) (Ce : Cal P w K mg base 3 "raw_ends" (spT K Bal (rTupN endsOf))) (Cu : Cal P w K mg base 2 "uses" (spT K (fun ws => (ws.filter ng).Nodup) rUses))
    (Ct : Cal P w K mg base 1 "is_take" (spW fun a => .bl (isTake a))) (Cn : Cal P w K mg base 2 "name_of" (spW fun a => sV (nameOf a))) : Cal P w K mg base 4 "wrong_take" (spT K isPW rNon) := by
  have S : FnScope ["words", "ends", "there", "place", "word"] ["words"] (defScope s_wrong_take) := C8.fnScope_by (by decide +kernel)
  refine cal_of F g S (FunD.bindsN F fun _ _ _ _ _ _ us hl => match us, hl with | [_], _ => rfl) spT_len (fun cdv A outer s H vs Q E hr h => ?_)
  obtain ⟨a, ws, rfl, hS, hsh, ⟨many, hp⟩, q⟩ := h
  have hu := hu_of hr
  refine ⟨_, pss_cons (ps_set (i := 1) S.nd rfl (.inl rfl) (pe_c Ce hr (by decide) (by rfl) (pa_cons (pv 0) pa_nil)))
    (pss_cons (ps_set (i := 2) S.nd rfl (.inl rfl) (pe_c Cu hr (by decide) (by rfl) (pa_cons (pv 0) pa_nil)))
    (pss_cons (ps_for PassesOwn.never rfl (pi_enumT (by rfl) G.enum (pa_cons (pv 0) pa_nil))
      (pg_tup rfl (pgs_cons (pg_name (i := 3) S.nd rfl (.inl rfl)) (pgs_cons (pg_name (i := 4) S.nd rfl (.inl rfl)) pgs_nil)))
      (pss_one (ps_if (PW.pt (pw_and (pt_val (pe_c Ct hr (by decide) (by rfl) (pa_cons (pv 4) pa_nil))) (pw_and1 (pt_not (pt_chain op_lt op_lt (pv 3)
        (pe_dget2 hu (pv 2) (pe_c Cn hr (by decide) (by rfl) (pa_cons (pv 4) pa_nil)) (pe_un un_neg pe_int) ⟨by rfl, by rfl, by rfl, by rfl⟩) (pe_ix ix_tup (pv 1) (pv 3) (fun _ _ => rfl)))))))
        (pss_one (ps_ret (pv 3))) pss_nil)))
    (pss_one (ps_ret pe_non)))), ?_⟩
  refine ⟨.ref a, rfl, a, ws, rfl, hS, hsh, hp.good.b, ?_⟩
  rintro _ H1 s1 ⟨e, rfl, he0, he⟩
  refine ⟨.ref a, rfl, a, ws, rfl, Same.tup s1 hS, hsh, hp.nd, ?_⟩
  rintro _ H2 s2 ⟨d, kvs, rfl, hd0, hd, hval⟩
  have s12 := s1.trans s2
  refine ⟨.ref a, rfl, a, _, rfl, Same.tup s12 hS, for_it walk_enumT (fun i σ H3 => ∃ y3 y4, σ = [some (.ref a), some (.ref e), some (.ref d), y3, y4] ∧ Same H2 H3) ⟨none, none, rfl, Same.refl _⟩
    (fun i σ H3 _ ⟨_, _, _, s3⟩ => Same.tup (s12.trans s3) hS) ?_ ?_⟩
  · rintro i x σ H3 H4 hi ⟨y3, y4, rfl, s3⟩ ⟨T, x1, x2, rfl, hT, rfl, e1, e2⟩
    cases e1
    obtain ⟨wd, ew, rfl⟩ := get_map e2
    have hi : i < ws.length := by rw [List.length_map] at hi; exact hi
    have s4 := s3.trans (same_upd (o := .tup [.int (i : Nat), sV wd]) hT)
    refine ⟨T, _, rfl, SqT.mk upd_same, rfl, _, _, rfl, _, _, rfl, rfl, ?_⟩
    refine ⟨_, rfl, wd, rfl, hsh.at ew, _, rfl, ?_⟩
    have fin : ∃ y3 y4, ([some (V.ref a), some (V.ref e), some (V.ref d), some (V.int (i : Nat)), some (sV wd)] : L2.St) = [some (.ref a), some (.ref e), some (.ref d), y3, y4] ∧ Same H2 (upd H3 T (.tup [.int (i : Nat), sV wd])) := ⟨_, _, rfl, s4⟩
    cases ht : isTake wd with
    | false => exact fin
    | true =>
      obtain ⟨hz, qq, hq1, hq2⟩ := hp.body i wd ew ht
      have hqn : isNm (wd.drop 1) = true := isLet_isNm (hp.tk wd (List.mem_of_getElem? ew) ht)
      have hv := hval qq _ hq2 hqn
      have hend := end_whole hp.good.b hi hz
      have hql := lt_of_get hq2
      have h4 : (upd H3 T (.tup [.int (i : Nat), sV wd])) d = some (.dK kvs) := s4 _ _ hd
      refine ⟨_, rfl, .ref d, rfl, d, rfl, .inl ⟨kvs, .inl h4⟩, _, rfl, wd, rfl, hsh.at ew, 1, rfl, _, DGet.k (k := sK (nameOf wd)) h4, ?_⟩
      rw [nameOf_of ht, hv]
      refine ⟨_, _, rfl, rfl, _, rfl, ?_⟩
      rw [decide_eq_true (show (i : Int) < (qq : Int) by omega)]
      refine ⟨.ref e, rfl, _, rfl, e, _, _, _, rfl, rfl, SqT.mk (s4 _ _ (s2 _ _ he)), atI_nat (map_get hend), _, _, rfl, rfl, _, rfl, ?_⟩
      show if (!decide ((qq : Int) < (ws.length : Int))) = true then _ else _
      rw [decide_eq_true (show (qq : Int) < (ws.length : Int) by omega)]
      exact fin
  · rintro σ H3 ⟨y3, y4, rfl, s3⟩
    exact q _ _ (s12.trans s3) rfl
/-! ### fault_in -/
theorem fnok_weak {k : Nat} {f : Addr} {fd : FuncData} {ps : List Str} {C C' : List Wd → Prop} {R : List Wd → Hp → V → Hp → Prop} (F : FnOk P w K mg base CX0 k f fd ps (spT K C R)) (h : ∀ ws, C' ws → C ws) : FnOk P w K mg base CX0 k f fd ps (spT K C' R) :=
  F.imp fun vs H Q E ⟨a, ws, e, h1, h2, h3, q⟩ => ⟨a, ws, e, h1, h2, h ws h3, q⟩
theorem c_fault_in {f : Addr} {fd : FuncData} (F : FnP K "fault_in" s_fault_in f fd) (g : mg "fault_in" = some (.ref f)) (G : Gb mg) (Cw : Cal P w K mg base 2 "is_word" (spWs fun a => .bl (isWd a))) (C1 : Cal P w K mg base 3 "wrong_end" (spT K Good rNon))
    (C2 : Cal P w K mg base 2 "wrong_second" (spT K (fun ws => (ws.filter ng).Nodup) rNon)) (C3 : Cal P w K mg base 4 "wrong_take" (spT K isPW rNon)) : Cal P w K mg base 5 "fault_in" (spT K isPW rNon) := by
  have S : FnScope ["words", "place", "word", "wrong", "found"] ["words"] (defScope s_fault_in) := C8.fnScope_by (by decide +kernel)
  refine cal_of F g S (FunD.bindsN F fun _ _ _ _ _ _ us hl => match us, hl with | [_], _ => rfl) spT_len (fun cdv A outer s H vs Q E hr h => ?_)
  obtain ⟨a, ws, rfl, hS, hsh, hpw, q⟩ := h
  obtain ⟨f1, fd1, ps1, F1, g1, k1, b1⟩ := C1.ex
  obtain ⟨f2, fd2, ps2, F2, g2, k2, b2⟩ := C2.ex
  obtain ⟨f3, fd3, ps3, F3, g3, k3, b3⟩ := C3.ex
  have F1' := (fnok_weak (C' := isPW) F1 fun ws ⟨_, h⟩ => h.good).mono (show 3 ≤ 4 by decide)
  have F2' := (fnok_weak (C' := isPW) F2 fun ws (⟨_, h⟩ : isPW ws) => h.nd).mono (show 2 ≤ 4 by decide)
  have hA : ∀ f sp, (if f = f1 ∨ f = f2 ∨ f = f3 then some (spT K isPW rNon) else none) = some sp → Held P w K mg base 4 f sp := by
    intro f sp e
    by_cases h : f = f1 ∨ f = f2 ∨ f = f3
    · rw [if_pos h] at e
      cases e
      rcases h with rfl | rfl | rfl
      · exact ⟨fd1, ps1, F1', k1, b1⟩
      · exact ⟨fd2, ps2, F2', k2, b2⟩
      · exact ⟨fd3, ps3, F3, k3, b3⟩
    · rw [if_neg h] at e; cases e
  refine ⟨_, pss_cons (ps_for PassesOwn.never rfl (pi_enumT (by rfl) G.enum (pa_cons (pv 0) pa_nil))
      (pg_tup rfl (pgs_cons (pg_name (i := 1) S.nd rfl (.inl rfl)) (pgs_cons (pg_name (i := 2) S.nd rfl (.inl rfl)) pgs_nil)))
      (pss_one (ps_if (pt_not (pt_val (pe_c Cw hr (by decide) (by rfl) (pa_cons (pv 2) pa_nil)))) (pss_one (ps_ret (pv 1))) pss_nil)))
    (pss_cons (ps_for PassesOwn.never rfl (pi_tup (pe_tup (pa_cons (pe_glob (v := .ref f1) (by rfl) g1 rfl) (pa_cons (pe_glob (v := .ref f2) (by rfl) g2 rfl) (pa_cons (pe_glob (v := .ref f3) (by rfl) g3 rfl) pa_nil))))) (pg_name (i := 3) S.nd rfl (.inl rfl))
      (pss_cons (ps_set (i := 4) S.nd rfl (.inl rfl) (pe_callA (i := 3) hA hr rfl (.inl rfl) (pa_cons (pv 0) pa_nil)))
        (pss_one (ps_if (pt_cmp (pc_notN (pv 4))) (pss_one (ps_ret (pv 4))) pss_nil))))
    (pss_one (ps_ret pe_non))), ?_⟩
  refine ⟨.ref a, rfl, a, _, rfl, hS, for_it walk_enumT (fun i σ H1 => ∃ y1 y2, σ = [some (.ref a), y1, y2, none, none] ∧ Same H H1) ⟨none, none, rfl, Same.refl _⟩ (fun i σ H1 _ ⟨_, _, _, s1⟩ => Same.tup s1 hS) ?_ ?_⟩
  · rintro i x σ H1 H2 hi ⟨y1, y2, rfl, s1⟩ ⟨T, x1, x2, rfl, hT, rfl, e1, e2⟩
    cases e1
    obtain ⟨wd, ew, rfl⟩ := get_map e2
    refine ⟨T, _, rfl, SqT.mk upd_same, rfl, _, _, rfl, _, _, rfl, rfl, ?_⟩
    refine ⟨_, rfl, wd, rfl, hsh.at ew, fun H3 s3 => ⟨_, rfl, ?_⟩⟩
    obtain ⟨many, hp⟩ := hpw
    have hwd : isWd wd = true := hp.word wd (List.mem_of_getElem? ew)
    show if (!isWd wd) = true then _ else _
    rw [hwd]
    exact ⟨_, _, rfl, (s1.trans (same_upd hT)).trans s3⟩
  · rintro σ H1 ⟨y1, y2, rfl, s1⟩
    refine ⟨by show 3 ≤ sizeLine; decide, fun t nt => ?_⟩
    have st := s1.trans (same_upd (o := .tup [.ref f1, .ref f2, .ref f3]) nt)
    refine ⟨t, rfl, ⟨_, SqT.mk upd_same⟩, for_tup (K := K) (a := t) (xs := [.ref f1, .ref f2, .ref f3]) (fun i σ H2 => ∃ y3 y4, σ = [some (.ref a), y1, y2, y3, y4] ∧ Same H H2 ∧ H2 t = some (.tup [.ref f1, .ref f2, .ref f3]))
      ⟨none, none, rfl, st, upd_same⟩ (fun i σ H2 _ ⟨_, _, _, _, h⟩ => SqT.mk h) ?_ ?_⟩
    · rintro i x σ H2 hx ⟨y3, y4, rfl, s2, ht⟩
      have hx3 : ∃ f, x = .ref f ∧ (f = f1 ∨ f = f2 ∨ f = f3) := by
        have := List.mem_of_getElem? hx
        rcases List.mem_cons.mp this with e | this
        · exact ⟨f1, e, .inl rfl⟩
        rcases List.mem_cons.mp this with e | this
        · exact ⟨f2, e, .inr (.inl rfl)⟩
        · exact ⟨f3, List.mem_singleton.mp this, .inr (.inr rfl)⟩
      obtain ⟨fx, rfl, hfx⟩ := hx3
      refine ⟨fx, _, rfl, if_pos hfx, _, rfl, a, ws, rfl, Same.tup s2 hS, hsh, hpw, ?_⟩
      rintro v H3 s3 rfl
      refine ⟨_, rfl, _, rfl, ?_⟩
      exact ⟨_, _, rfl, s2.trans s3, s3 _ _ ht⟩
    · rintro σ H2 ⟨y3, y4, rfl, s2, _⟩
      exact q _ _ s2 rfl
end
end K11

set_option Elab.async false
set_option linter.all false
set_option maxRecDepth 100000
set_option maxHeartbeats 4000000
namespace K11
open PySem PySem.Spec PyProof.Rows L2
/-- a class of programs -/
structure Cp (K : PySem.W.Frag) (mg : Str → Option Value) (x : Str) (C : Addr) : Prop where
  cl : Cls K C
  na : NoAttr K C "words"
  g : mg x = some (.ref C)
section
variable {P : Program} {w : World} {K : PySem.W.Frag} {mg : Str → Option Value} {base : Heap}
/-! ### the classes -/
def spInit (C : Addr) (A : Hp → Addr → List Wd → Prop) : Sp := fun vs H Q _ => ∃ (p dx a : Addr) (ws : List Wd), vs = [.ref p, .ref a] ∧ H p = some (.ins C dx []) ∧ A H a ws ∧ Sh ws ∧
  ∀ H', (∀ b o, H b = some o → b ≠ p → H' b = some o) → H' p = some (.ins C dx [(("words" : Str), V.ref a)]) → Q .non H'
abbrev aProg (K : PySem.W.Frag) : Hp → Addr → List Wd → Prop := fun H a ws => SqT K H a (ws.map sV) ∧ isPW ws
theorem tyx_tup {K : PySem.W.Frag} {H : Hp} {a : Addr} {xs : List V} (h : SqT K H a xs) : TyX K H (.ref a) (.type "tuple") := by
  rcases h with (h | ⟨o, h⟩) | ⟨o, its, n, hk, hc, _⟩
  · exact .base (.tup h)
  · exact .fTuple h
  · exact .kTuple hk hc
abbrev aRaw (K : PySem.W.Frag) : Hp → Addr → List Wd → Prop := fun H a ws => SqT K H a (ws.map sV)
theorem c_raw_init {C f : Addr} {fd : FuncData} (F : FunD K "__init__" "RawProgram.__init__" (defArgs s_RawProgram_init) (defBody s_RawProgram_init) (defScope s_RawProgram_init) [] [] f fd) (T : Cp K mg "RawProgram" C) (M : Mk K C f) (G : Gb mg) : Mak P w K mg base 1 "RawProgram" C (spInit C (aRaw K)) := by
  have S : FnScope ["self", "words"] ["self", "words"] (defScope s_RawProgram_init) := C8.fnScope_by (by decide +kernel)
  refine ⟨f, fd, ["self", "words"], M, fnok_of F S (fun vs H Q E ⟨_, _, _, _, e, _⟩ => by rw [e]; rfl) (fun cdv A outer s H vs Q E hr h => ?_), T.g, FunD.bindsN F fun _ _ _ _ _ _ us hl => match us, hl with | [_, _], _ => rfl⟩
  obtain ⟨p, dx, a, ws, rfl, hp, hS, hsh, q⟩ := h
  refine ⟨_, pss_one (ps_fld (pv 0) (pe_callTy call_tuple_of (by rfl) G.tuple (by decide +kernel) (pa_cons (pv 1) pa_nil)) rfl), ?_⟩
  refine ⟨_, rfl, a, _, rfl, .inr ⟨hS, _, rfl, p, C, dx, [], rfl, hp, T.cl, T.na, by decide, ?_⟩⟩
  exact q _ (fun b o e hb => by rw [upd_ne hb]; exact e) upd_same
theorem c_prog_init {C f : Addr} {fd : FuncData} (F : FunD K "__init__" "Program.__init__" (defArgs s_Program_init) (defBody s_Program_init) (defScope s_Program_init) [] [] f fd) (T : Cp K mg "Program" C) (M : Mk K C f) (G : Gb mg)
    (Cf : Cal P w K mg base 5 "fault_in" (spT K isPW rNon)) : Mak P w K mg base 6 "Program" C (spInit C (aProg K)) := by
  have S : FnScope ["self", "words", "fault"] ["self", "words"] (defScope s_Program_init) := C8.fnScope_by (by decide +kernel)
  obtain ⟨tm, gm⟩ := G.most
  refine ⟨f, fd, ["self", "words"], M, fnok_of F S (fun vs H Q E ⟨_, _, _, _, e, _⟩ => by rw [e]; rfl) (fun cdv A outer s H vs Q E hr h => ?_), T.g, FunD.bindsN F fun _ _ _ _ _ _ us hl => match us, hl with | [_, _], _ => rfl⟩
  obtain ⟨p, dx, a, ws, rfl, hp, ⟨ha, hpw⟩, hsh, q⟩ := h
  refine ⟨_, pss_cons (ps_if (PW.pt (pw_or (pt_not (pt_val (pe_callB call_isi (by rfl) G.isinst (by decide +kernel) (pa_cons (pv 1) (pa_cons (pe_bltn (v := .ty "tuple") (by rfl) G.tuple (by decide +kernel) rfl) pa_nil)))))
      (pw_or1 (pt_not (pt_chain op_le op_le pe_int (pe_callB call_len_seq (by rfl) G.len PySem.boot_len (pa_cons (pv 1) pa_nil)) (pe_glob (v := .int 1000) (by rfl) gm ⟨_, rfl⟩)))))) (pss_one ps_never) pss_nil)
    (pss_cons (ps_set (i := 2) S.nd rfl (.inl rfl) (pe_c Cf hr (by decide) (by rfl) (pa_cons (pv 1) pa_nil)))
    (pss_cons (ps_if (pt_cmp (pc_notN (pv 2))) (pss_one ps_never) pss_nil)
    (pss_one (ps_fld (pv 0) (pv 1) rfl)))), ?_⟩
  refine ⟨_, rfl, _, _, _, _, true, rfl, .ty _, tyx_tup ha, kit_ty (a := "tuple") (b := "tuple") (by decide +kernel), true, rfl, ?_⟩
  have hpos : 0 < ws.length := by obtain ⟨m, h⟩ := hpw; exact h.pos
  have hle := hsh.1
  refine ⟨_, rfl, a, _, rfl, .inr (ha), _, _, rfl, rfl, _, rfl, ?_⟩
  rw [List.length_map, decide_eq_true (show (1 : Int) ≤ (ws.length : Int) by omega)]
  refine ⟨_, _, rfl, rfl, _, rfl, ?_⟩
  show if (!decide ((ws.length : Int) ≤ 1000)) = true then _ else _
  rw [decide_eq_true (show (ws.length : Int) ≤ 1000 by omega)]
  refine ⟨_, rfl, a, ws, rfl, ha, hsh, hpw, ?_⟩
  rintro _ H1 s1 rfl
  refine ⟨_, rfl, _, rfl, ?_⟩
  refine ⟨_, rfl, _, rfl, p, C, dx, [], rfl, s1 _ _ hp, T.cl, T.na, by decide, ?_⟩
  exact q _ (fun b o e hb => by rw [upd_ne hb]; exact s1 _ _ e) upd_same
/-! ### raw_open -/
abbrev rTupW (f : List Wd → List Wd) : List Wd → Hp → V → Hp → Prop := fun ws H v H' => ∃ p, v = .ref p ∧ H p = none ∧ H' p = some (.tup ((f ws).map sV))
theorem fs_no {α : Type} {p : α → Bool} {l : List α} {i : Nat} {x : α} (h : l[i]? = some x) (hp : p x = false) : (l.take (i + 1)).filter p = (l.take i).filter p := by
  rw [List.take_add_one, h, List.filter_append]
  show _ ++ [x].filter p = _
  rw [List.filter_cons_of_neg (by rw [hp]; simp)]
  exact List.append_nil _
theorem fs_yes {α : Type} {p : α → Bool} {l : List α} {i : Nat} {x : α} (h : l[i]? = some x) (hp : p x = true) : (l.take (i + 1)).filter p = (l.take i).filter p ++ [x] := by
  rw [List.take_add_one, h, List.filter_append]
  show _ ++ [x].filter p = _
  rw [List.filter_cons_of_pos hp]
  rfl
theorem fs_len {α : Type} (p : α → Bool) (l : List α) (i : Nat) : ((l.take i).filter p).length ≤ l.length := by
  have h1 := List.length_filter_le p (l.take i)
  rw [List.length_take] at h1
  exact Nat.le_trans h1 (Nat.min_le_right _ _)
def isOpen (ws : List Wd) (x : Wd) : Bool := isNm x && !decide (x ∈ takeNames ws)
theorem opens_is (ws : List Wd) : opens ws = ws.filter (isOpen ws) := rfl
theorem c_raw_open {f : Addr} {fd : FuncData} (F : FnP K "raw_open" s_raw_open f fd) (g : mg "raw_open" = some (.ref f)) (G : Gb mg) (Ck : Cal P w K mg base 3 "taken" (spT K (fun _ => True) rTaken)) (Cg : Cal P w K mg base 1 "is_give" (spW fun a => .bl (isGive a)))
    (Ct : Cal P w K mg base 1 "is_take" (spW fun a => .bl (isTake a))) : Cal P w K mg base 4 "raw_open" (spT K (fun _ => True) (rTupW opens)) := by
  have S : FnScope ["words", "known", "word"] ["words"] (defScope s_raw_open) := C8.fnScope_by (by decide +kernel)
  refine cal_of F g S (FunD.bindsN F fun _ _ _ _ _ _ us hl => match us, hl with | [_], _ => rfl) spT_len (fun cdv A outer s H vs Q E hr h => ?_)
  obtain ⟨a, ws, rfl, hS, hsh, _, q⟩ := h
  have hu := hu_of hr
  refine ⟨_, pss_cons (ps_set (i := 1) S.nd rfl (.inr rfl) (pe_c Ck hr (by decide) (by rfl) (pa_cons (pv 0) pa_nil)))
    (pss_one (ps_ret (pe_callTy call_tuple_of (by rfl) G.tuple (by decide +kernel) (pa_cons (pe_lc (own := [("word", 2)]) (g := gName 2) rfl S.nd (pi_tup (pv 0)) (blkOk_by (N := ["words", "known", "word"]) (sc := defScope s_raw_open) (by decide +kernel))
      (fun _ _ _ _ _ => pg_name (i := 2) S.nd rfl (Or.inl rfl))
      (fun _ _ _ _ _ => pts_one (PW.pt (pw_and (pt_not (pt_val (pe_c Cg hr (by decide) (by rfl) (pa_cons (pv 2) pa_nil)))) (pw_and (pt_not (pt_val (pe_c Ct hr (by decide) (by rfl) (pa_cons (pv 2) pa_nil)))) (pw_and1 (pt_cmp (pc_dnotin hu (pv 2) (pv 1))))))))
      (fun _ _ _ _ _ => pv 2)) pa_nil)))), ?_⟩
  refine ⟨_, rfl, a, ws, rfl, hS, hsh, trivial, ?_⟩
  rintro _ H1 s1 ⟨d, kvs, rfl, hd0, hd, hk⟩
  refine ⟨.ref a, rfl, a, rfl, ⟨_, Same.tup s1 hS⟩, fun D hD => lc_it walk_tup (fun i H2 => Same H1 H2 ∧ H2 D = some (.lst (((ws.take i).filter (isOpen ws)).map sV)))
    ⟨same_upd hD, upd_same⟩ (fun i H2 _ h => Same.tup (s1.trans h.1) hS) ?_ ?_⟩
  · rintro i x H2 H3 hi ⟨s2, h2⟩ ⟨rfl, ex⟩
    obtain ⟨wd, ew, rfl⟩ := get_map ex
    have hi : i < ws.length := lt_of_get ew
    refine ⟨rfl, ?_⟩
    have skip : isOpen ws wd = false → Same H1 H3 ∧ H3 D = some (.lst (((ws.take (i + 1)).filter (isOpen ws)).map sV)) := fun e => by
      rw [fs_no ew e]
      exact ⟨s2, h2⟩
    refine ⟨_, rfl, wd, rfl, hsh.at ew, _, rfl, ?_⟩
    cases hg : isGive wd with
    | true => exact skip (by unfold isOpen isNm; rw [hg]; rfl)
    | false =>
      refine ⟨_, rfl, wd, rfl, hsh.at ew, _, rfl, ?_⟩
      cases ht : isTake wd with
      | true => exact skip (by unfold isOpen isNm; rw [hg, ht]; rfl)
      | false =>
        refine ⟨_, rfl, _, rfl, d, _, rfl, DGet.k (k := sK wd) (s2 _ _ hd), _, rfl, ?_⟩
        rw [hk wd]
        have hn : isNm wd = true := isNm_iff.mpr ⟨hg, ht⟩
        cases hm : decide (wd ∈ takeNames ws) with
        | true => exact skip (by unfold isOpen; rw [hm]; simp)
        | false =>
          refine ⟨_, rfl, _, h2, line_lt (by rw [List.length_map]; have := fs_len (isOpen ws) ws i; have := hsh.1; omega), fun p o e => ?_, ?_⟩
          · rw [upd_ne (ne_of_none e hD)]; exact s2 _ _ e
          · rw [upd_same, fs_yes ew (by unfold isOpen; rw [hn, hm]; rfl), List.map_append]; rfl
  · rintro H2 ⟨s2, h2⟩
    rw [List.length_map, List.take_length] at h2
    refine ⟨D, _, rfl, .inl ⟨SqL.mk h2, fun p np => q _ _ ((s1.trans s2).trans (same_upd np)) ⟨p, rfl, (s1.trans s2).free np, upd_same⟩⟩⟩
/-! ### open_names, givens, takes, ends, part -/
/-- a function of a program object -/
def spP (K : PySem.W.Frag) (C : List Wd → Prop) (R : List Wd → Hp → V → Hp → Prop) : Sp := fun vs H Q _ => ∃ (p : Addr) (ws : List Wd), vs = [.ref p] ∧ PAt K H p ws ∧ Sh ws ∧ C ws ∧ ∀ v H', Same H H' → R ws H v H' → Q v H'
theorem spP_len {K : PySem.W.Frag} {C : List Wd → Prop} {R : List Wd → Hp → V → Hp → Prop} : ∀ vs H Q E, spP K C R vs H Q E → vs.length = 1 := fun vs H Q E ⟨_, _, e, _⟩ => by rw [e]; rfl
theorem c_open_names {f : Addr} {fd : FuncData} (F : FnP K "open_names" s_open_names f fd) (g : mg "open_names" = some (.ref f)) (Co : Cal P w K mg base 4 "raw_open" (spT K (fun _ => True) (rTupW opens))) : Cal P w K mg base 5 "open_names" (spP K (fun _ => True) (rTupW opens)) := by
  have S : FnScope ["program"] ["program"] (defScope s_open_names) := C8.fnScope_by (by decide +kernel)
  refine cal_of F g S (FunD.bindsN F fun _ _ _ _ _ _ us hl => match us, hl with | [_], _ => rfl) spP_len (fun cdv A outer s H vs Q E hr h => ?_)
  obtain ⟨p, ws, rfl, hp, hsh, _, q⟩ := h
  obtain ⟨C, dx, a, h1, h2, h3, h4⟩ := hp.ex
  refine ⟨_, pss_one (ps_ret (pe_c Co hr (by decide) (by rfl) (pa_cons (pe_fld (pv 0) rfl) pa_nil))), ?_⟩
  exact ⟨_, rfl, p, C, dx, _, _, rfl, h1, h2, h3, words_look, a, ws, rfl, h4, hsh, trivial, q⟩
theorem c_ends {f : Addr} {fd : FuncData} (F : FnP K "ends" s_ends f fd) (g : mg "ends" = some (.ref f)) (Ce : Cal P w K mg base 3 "raw_ends" (spT K Bal (rTupN endsOf))) : Cal P w K mg base 4 "ends" (spP K Bal (rTupN endsOf)) := by
  have S : FnScope ["program"] ["program"] (defScope s_ends) := C8.fnScope_by (by decide +kernel)
  refine cal_of F g S (FunD.bindsN F fun _ _ _ _ _ _ us hl => match us, hl with | [_], _ => rfl) spP_len (fun cdv A outer s H vs Q E hr h => ?_)
  obtain ⟨p, ws, rfl, hp, hsh, hb, q⟩ := h
  obtain ⟨C, dx, a, h1, h2, h3, h4⟩ := hp.ex
  refine ⟨_, pss_one (ps_ret (pe_c Ce hr (by decide) (by rfl) (pa_cons (pe_fld (pv 0) rfl) pa_nil))), ?_⟩
  exact ⟨_, rfl, p, C, dx, _, _, rfl, h1, h2, h3, words_look, a, ws, rfl, h4, hsh, hb, q⟩
abbrev rCount (p : Wd → Bool) : List Wd → Hp → V → Hp → Prop := fun ws H v H' => v = nV (ws.filter p).length
theorem c_givens {f : Addr} {fd : FuncData} (F : FnP K "givens" s_givens f fd) (g : mg "givens" = some (.ref f)) (G : Gb mg) (Cg : Cal P w K mg base 1 "is_give" (spW fun a => .bl (isGive a))) : Cal P w K mg base 2 "givens" (spP K (fun _ => True) (rCount isGive)) := by
  have S : FnScope ["program", "word"] ["program"] (defScope s_givens) := C8.fnScope_by (by decide +kernel)
  refine cal_of F g S (FunD.bindsN F fun _ _ _ _ _ _ us hl => match us, hl with | [_], _ => rfl) spP_len (fun cdv A outer s H vs Q E hr h => ?_)
  obtain ⟨p, ws, rfl, hp, hsh, hb, q⟩ := h
  obtain ⟨C, dx, a, h1, h2, h3, h4⟩ := hp.ex
  refine ⟨_, pss_one (ps_ret (pe_callB call_len_seq (by rfl) G.len PySem.boot_len (pa_cons (pe_lc (own := [("word", 1)]) (g := gName 1) rfl S.nd (pi_tup (pe_fld (pv 0) rfl)) (blkOk_by (N := ["program", "word"]) (sc := defScope s_givens) (by decide +kernel))
      (fun _ _ _ _ _ => pg_name (i := 1) S.nd rfl (Or.inl rfl)) (fun _ _ _ _ _ => pts_one (pt_val (pe_c Cg hr (by decide) (by rfl) (pa_cons (pv 1) pa_nil)))) (fun _ _ _ _ _ => pv 1)) pa_nil))), ?_⟩
  refine ⟨_, rfl, p, C, dx, _, _, rfl, h1, h2, h3, words_look, a, rfl, ⟨_, h4⟩, fun D hD => lc_it walk_tup (fun i H2 => Same H H2 ∧ H2 D = some (.lst (((ws.take i).filter isGive).map sV)))
    ⟨same_upd hD, upd_same⟩ (fun i H2 _ h => Same.tup h.1 h4) ?_ ?_⟩
  · rintro i x H2 H3 hi ⟨s2, hd⟩ ⟨rfl, ex⟩
    obtain ⟨wd, ew, rfl⟩ := get_map ex
    have hi : i < ws.length := lt_of_get ew
    refine ⟨rfl, ?_⟩
    refine ⟨_, rfl, wd, rfl, hsh.at ew, _, rfl, ?_⟩
    cases hg : isGive wd with
    | false => exact ⟨s2, by rw [fs_no ew hg]; exact hd⟩
    | true =>
      refine ⟨_, rfl, _, hd, line_lt (by rw [List.length_map]; have := fs_len isGive ws i; have := hsh.1; omega), fun p o e => ?_, ?_⟩
      · rw [upd_ne (ne_of_none e hD)]; exact s2 _ _ e
      · rw [upd_same, fs_yes ew hg, List.map_append]; rfl
  · rintro H2 ⟨s2, hd⟩
    rw [List.length_map, List.take_length] at hd
    refine ⟨D, _, rfl, .inl (SqL.mk hd), q _ _ s2 ?_⟩
    rw [List.length_map]
theorem c_takes {f : Addr} {fd : FuncData} (F : FnP K "takes" s_takes f fd) (g : mg "takes" = some (.ref f)) (G : Gb mg) (Cg : Cal P w K mg base 1 "is_take" (spW fun a => .bl (isTake a))) : Cal P w K mg base 2 "takes" (spP K (fun _ => True) (rCount isTake)) := by
  have S : FnScope ["program", "word"] ["program"] (defScope s_takes) := C8.fnScope_by (by decide +kernel)
  refine cal_of F g S (FunD.bindsN F fun _ _ _ _ _ _ us hl => match us, hl with | [_], _ => rfl) spP_len (fun cdv A outer s H vs Q E hr h => ?_)
  obtain ⟨p, ws, rfl, hp, hsh, hb, q⟩ := h
  obtain ⟨C, dx, a, h1, h2, h3, h4⟩ := hp.ex
  refine ⟨_, pss_one (ps_ret (pe_callB call_len_seq (by rfl) G.len PySem.boot_len (pa_cons (pe_lc (own := [("word", 1)]) (g := gName 1) rfl S.nd (pi_tup (pe_fld (pv 0) rfl)) (blkOk_by (N := ["program", "word"]) (sc := defScope s_takes) (by decide +kernel))
      (fun _ _ _ _ _ => pg_name (i := 1) S.nd rfl (Or.inl rfl)) (fun _ _ _ _ _ => pts_one (pt_val (pe_c Cg hr (by decide) (by rfl) (pa_cons (pv 1) pa_nil)))) (fun _ _ _ _ _ => pv 1)) pa_nil))), ?_⟩
  refine ⟨_, rfl, p, C, dx, _, _, rfl, h1, h2, h3, words_look, a, rfl, ⟨_, h4⟩, fun D hD => lc_it walk_tup (fun i H2 => Same H H2 ∧ H2 D = some (.lst (((ws.take i).filter isTake).map sV)))
    ⟨same_upd hD, upd_same⟩ (fun i H2 _ h => Same.tup h.1 h4) ?_ ?_⟩
  · rintro i x H2 H3 hi ⟨s2, hd⟩ ⟨rfl, ex⟩
    obtain ⟨wd, ew, rfl⟩ := get_map ex
    have hi : i < ws.length := lt_of_get ew
    refine ⟨rfl, ?_⟩
    refine ⟨_, rfl, wd, rfl, hsh.at ew, _, rfl, ?_⟩
    cases hg : isTake wd with
    | false => exact ⟨s2, by rw [fs_no ew hg]; exact hd⟩
    | true =>
      refine ⟨_, rfl, _, hd, line_lt (by rw [List.length_map]; have := fs_len isTake ws i; have := hsh.1; omega), fun p o e => ?_, ?_⟩
      · rw [upd_ne (ne_of_none e hD)]; exact s2 _ _ e
      · rw [upd_same, fs_yes ew hg, List.map_append]; rfl
  · rintro H2 ⟨s2, hd⟩
    rw [List.length_map, List.take_length] at hd
    refine ⟨D, _, rfl, .inl (SqL.mk hd), q _ _ s2 ?_⟩
    rw [List.length_map]
end
end K11

set_option Elab.async false
set_option linter.all false
set_option maxRecDepth 100000
set_option maxHeartbeats 4000000
namespace K11
open PySem PySem.Spec PyProof.Rows L2
/-! ### a slice of words; a new program -/
def cutW (ws : List Wd) (i e : Nat) : List Wd := (ws.drop (min i ws.length)).take (min e ws.length - min i ws.length)
theorem cutV_map {ws : List Wd} {i e : Nat} : cutV (ws.map sV) (some (i : Int)) (some (e : Int)) = (cutW ws i e).map sV := by
  unfold cutV cutW
  rw [List.length_map, show HT.sIx ws.length 0 (some (i : Int)) = min i ws.length from HT.sIx_nat ws.length 0 i, show HT.sIx ws.length ws.length (some (e : Int)) = min e ws.length from HT.sIx_nat ws.length ws.length e]
  rw [← List.map_drop, ← List.map_take]
theorem sl_words {K : PySem.W.Frag} {H : Hp} {a : Addr} {ws : List Wd} {i e : Nat} {Q : VK} (hS : SqT K H a (ws.map sV)) (q : ∀ p H', Same H H' → SqT K H' p ((cutW ws i e).map sV) → Q (.ref p) H') : rSlA K (.ref a) (some (i : Int)) (some (e : Int)) H Q := by
  refine ⟨a, _, rfl, hS, fun h => ?_, fun _ p np => ?_⟩
  · refine q a H (Same.refl _) ?_
    have e2 : cutW ws i e = ws := by
      rw [List.length_map, show HT.sIx ws.length 0 (some (i : Int)) = min i ws.length from HT.sIx_nat ws.length 0 i, show HT.sIx ws.length ws.length (some (e : Int)) = min e ws.length from HT.sIx_nat ws.length ws.length e] at h
      unfold cutW
      rw [h.1, h.2, Nat.sub_zero, List.drop_zero, List.take_length]
    rw [e2]; exact hS
  · refine q p _ (same_upd np) (SqT.mk ?_)
    rw [upd_same, cutV_map]
theorem cutW_mem {ws : List Wd} {i e : Nat} {x : Wd} (h : x ∈ cutW ws i e) : x ∈ ws := List.mem_of_mem_drop (List.mem_of_mem_take h)
theorem cutW_len (ws : List Wd) (i e : Nat) : (cutW ws i e).length ≤ ws.length := by
  unfold cutW; rw [List.length_take, List.length_drop]; omega
theorem Sh.cut {ws : List Wd} (h : Sh ws) (i e : Nat) : Sh (cutW ws i e) := ⟨Nat.le_trans (cutW_len ws i e) h.1, fun x hx => h.2 x (cutW_mem hx)⟩
theorem mk_raw {K : PySem.W.Frag} {mg : Str → Option Value} {C : Addr} (T : Cp K mg "RawProgram" C) {H1 : Hp} {a : Addr} {ws : List Wd} {Q : VK} (hS : SqT K H1 a (ws.map sV)) (hsh : Sh ws) (q : ∀ x H2, H1 x = none → Same H1 H2 → PAt K H2 x ws → Q (.ref x) H2) :
    ∀ x dx, H1 x = none → H1 dx = none → dx ≠ x → spInit C (aRaw K) (.ref x :: [.ref a]) (upd (upd H1 dx (.own x)) x (.ins C dx [])) (fun v H2 => v = .non ∧ Q (.ref x) H2) E0 := by
  intro x dx nx nd ne
  have s1 : Same H1 (upd (upd H1 dx (.own x)) x (.ins C dx [])) := fun b o e => by rw [upd_ne (ne_of_none e nx), upd_ne (ne_of_none e nd)]; exact e
  refine ⟨x, dx, a, ws, rfl, upd_same, Same.tup s1 hS, hsh, fun H' k hx => ⟨rfl, ?_⟩⟩
  have s2 : Same H1 H' := fun b o e => k b o (s1 _ _ e) (ne_of_none e nx)
  exact q x H' nx s2 ⟨C, dx, a, hx, T.cl, T.na, Same.tup s2 hS⟩
section
variable {P : Program} {w : World} {K : PySem.W.Frag} {mg : Str → Option Value} {base : Heap}
/-! ### part -/
def spPart (K : PySem.W.Frag) : Sp := fun vs H Q _ => ∃ (p : Addr) (ws : List Wd) (i e : Nat), vs = [.ref p, nV i] ∧ PAt K H p ws ∧ Sh ws ∧ Bal ws ∧ (endsOf ws)[i]? = some e ∧ ∀ x H', Same H H' → PAt K H' x (cutW ws i e) → Q (.ref x) H'
theorem c_part {f C : Addr} {fd : FuncData} (F : FnP K "part" s_part f fd) (g : mg "part" = some (.ref f)) (G : Gb mg) (T : Cp K mg "RawProgram" C) (Cc : Cal P w K mg base 3 "check_place" (spCheck K)) (Mr : Mak P w K mg base 1 "RawProgram" C (spInit C (aRaw K)))
    (Ce : Cal P w K mg base 3 "raw_ends" (spT K Bal (rTupN endsOf))) : Cal P w K mg base 4 "part" (spPart K) := by
  have S : FnScope ["program", "place"] ["program", "place"] (defScope s_part) := C8.fnScope_by (by decide +kernel)
  refine cal_of F g S (FunD.bindsN F fun _ _ _ _ _ _ us hl => match us, hl with | [_, _], _ => rfl) (fun vs H Q E ⟨_, _, _, _, e, _⟩ => by rw [e]; rfl) (fun cdv A outer s H vs Q E hr h => ?_)
  obtain ⟨p, ws, i, e, rfl, hp, hsh, hb, he, q⟩ := h
  have hi : i < ws.length := by have := lt_of_get he; rw [endsOf_len] at this; exact this
  obtain ⟨C', dx, a, h1, h2, h3, h4⟩ := hp.ex
  refine ⟨_, pss_cons (ps_expr (pe_c Cc hr (by decide) (by rfl) (pa_cons (pv 0) (pa_cons (pv 1) pa_nil))))
    (pss_one (ps_ret (pe_mk Mr hr (by decide) (by rfl) (pa_cons (pe_slice sl_tupA (pe_fld (pv 0) rfl) (po_some (pv 1)) (po_some (pe_ix ix_tup (pe_c Ce hr (by decide) (by rfl) (pa_cons (pe_fld (pv 0) rfl) pa_nil)) (pv 1) (fun _ _ => rfl)))) pa_nil)))), ?_⟩
  refine ⟨_, rfl, _, rfl, p, ws, i, rfl, hp, by omega, by omega, ?_⟩
  refine ⟨_, rfl, p, C', dx, _, _, rfl, h1, h2, h3, words_look, _, rfl, _, rfl, _, rfl, p, C', dx, _, _, rfl, h1, h2, h3, words_look, a, ws, rfl, h4, hsh, hb, ?_⟩
  rintro _ H1 s1 ⟨t, rfl, ht0, ht⟩
  refine ⟨_, rfl, t, _, _, _, rfl, rfl, SqT.mk ht, atI_nat (map_get he), e, rfl, sl_words (Same.tup s1 h4) fun b H2 s2 hS2 => ?_⟩
  exact mk_raw T hS2 (hsh.cut i e) fun x H3 nx s3 hx => q x H3 ((s1.trans s2).trans s3) hx
/-! ### letters_name -/
def spLet : Sp := fun vs H Q _ => ∃ n : Nat, vs = [nV n] ∧ n ≤ 3000000 ∧ Q (sV (letters n)) H
theorem abc_codes : ("abcdefghijklmnopqrstuvwxyz" : Str).cps.toList = (List.range 26).map (fun k => 97 + k) := by decide +kernel
theorem abc_at {k : Nat} (h : k < 26) : atI ("abcdefghijklmnopqrstuvwxyz" : Str).cps.toList (k : Int) = some (97 + k) := by
  refine atI_nat ?_
  rw [abc_codes, List.getElem?_map, List.getElem?_range h]; rfl
theorem c_letters_name {f : Addr} {fd : FuncData} (F : FnP K "letters_name" s_letters_name f fd) (g : mg "letters_name" = some (.ref f)) (G : Gb mg) : Cal P w K mg base 1 "letters_name" spLet := by
  have S : FnScope ["number", "found", "left"] ["number"] (defScope s_letters_name) := C8.fnScope_by (by decide +kernel)
  obtain ⟨tl, gl⟩ := G.lets
  refine cal_of F g S (FunD.bindsN F fun _ _ _ _ _ _ us hl => match us, hl with | [_], _ => rfl) (fun vs H Q E ⟨_, e, _⟩ => by rw [e]; rfl) (fun cdv A outer s H vs Q E hr h => ?_)
  obtain ⟨n, rfl, hn, q⟩ := h
  refine ⟨_, pss_cons (ps_set (i := 1) S.nd rfl (.inl rfl) pe_str) (pss_cons (ps_set (i := 2) S.nd rfl (.inl rfl) (pe_op op_add (pv 0) pe_int))
    (pss_cons (ps_while PassesOwn.never (pt_cmpR op_gt (pv 2) pe_int (nomark _)) (pss_cons (ps_aug (i := 2) S.nd rfl (.inl rfl) pe_int ip_sub)
      (pss_cons (ps_set (i := 1) S.nd rfl (.inl rfl) (pe_op op_add_str (pe_ix ix_str (pe_glob (v := .str "abcdefghijklmnopqrstuvwxyz") (by rfl) gl ⟨_, rfl⟩) (pe_op op_mod (pv 2) pe_int) (fun _ _ => rfl)) (pv 1)))
      (pss_one (ps_set (i := 2) S.nd rfl (.inl rfl) (pe_op op_fdiv (pv 2) pe_int))))))
    (pss_one (ps_ret (pv 1))))), ?_⟩
  refine ⟨_, rfl, _, _, rfl, rfl, fun m σ H' => H' = H ∧ ∃ acc : Wd, σ = [some (nV n), some (sV acc), some (nV m)] ∧ lett m acc = letters n ∧ acc.length + m ≤ n + 1, ⟨n + 1, rfl, [], rfl, rfl, Nat.le_of_eq (Nat.zero_add _)⟩, ?_⟩
  rintro m σ H' ⟨rfl, acc, rfl, hl, hb⟩
  refine ⟨_, rfl, _, _, rfl, rfl, _, rfl, ?_⟩
  cases m with
  | zero =>
    refine ite2 (fun e => absurd (of_decide_eq_true e) (by decide)) (fun _ => ?_)
    rw [lett_zero] at hl
    refine ⟨_, rfl, ?_⟩
    rw [hl]
    exact q
  | succ m =>
    rw [decide_eq_true (show (0 : Int) < ((m + 1 : Nat) : Int) by omega)]
    refine ⟨fun σ' H'' => H'' = H' ∧ ∃ acc : Wd, σ' = [some (nV n), some (sV acc), some (nV (m / 26))] ∧ lett (m / 26) acc = letters n ∧ acc.length + m / 26 ≤ n + 1, fun σ' H'' h => ⟨m / 26, by have := Nat.div_le_self m 26; omega, h⟩, ?_⟩
    have e1 : (((m + 1 : Nat) : Int) - 1) = (m : Int) := by omega
    refine ⟨_, rfl, _, _, rfl, rfl, ?_⟩
    show tSeq _ _ _ [some (nV n), some (sV acc), some (V.int (((m + 1 : Nat) : Int) - 1))] _
    rw [e1]
    have e2 : ((m : Int) % 26) = ((m % 26 : Nat) : Int) := by omega
    refine ⟨_, rfl, _, _, rfl, rfl, (by show (0 : Int) < 26; decide), _, _, 97 + m % 26, rfl, rfl, by decide, ?_, ?_⟩
    · show atI _ ((m : Int) % 26) = _
      rw [e2]
      exact abc_at (Nat.mod_lt _ (by decide))
    · refine ⟨_, rfl, sW [97 + m % 26], sW acc, rfl, rfl, ?_, ?_⟩
      · rw [sW_len, sW_len]
        exact line_ok (by simp only [List.length_cons, List.length_nil]; omega)
      · rw [sW_app]
        refine ⟨_, rfl, _, _, rfl, rfl, ⟨by decide, by decide⟩, rfl, (97 + m % 26) :: acc, ?_, ?_, ?_⟩
        · have e3 : ((m : Int) / 26) = ((m / 26 : Nat) : Int) := by omega
          exact congrArg (fun z => [some (nV n), some (sV ((97 + m % 26) :: acc)), some (V.int z)]) e3
        · rw [← lett_succ]; exact hl
        · simp only [List.length_cons]; have := Nat.div_le_self m 26; omega
/-! ### word_renamed, words_renamed -/
def rnm (m : Wd → Wd) (x : Wd) : Wd := if isGive x = true then x else if isTake x = true then 47 :: m (nameOf x) else m (nameOf x)
def spRen : Sp := fun vs H Q _ => ∃ (x : Wd) (d : Addr) (kvs : List (Key × V)) (m : Wd → Wd), vs = [sV x, .ref d] ∧ H d = some (.dK kvs) ∧ x.length ≤ 4000000 ∧ (m (nameOf x)).length ≤ 3000000 ∧ (isGive x = false → valV kvs (sK (nameOf x)) = some (sV (m (nameOf x)))) ∧ Q (sV (rnm m x)) H
theorem c_word_renamed {f : Addr} {fd : FuncData} (F : FnP K "word_renamed" s_word_renamed f fd) (g : mg "word_renamed" = some (.ref f)) (Cg : Cal P w K mg base 1 "is_give" (spW fun a => .bl (isGive a))) (Ct : Cal P w K mg base 1 "is_take" (spW fun a => .bl (isTake a)))
    (Cn : Cal P w K mg base 2 "name_of" (spW fun a => sV (nameOf a))) : Cal P w K mg base 3 "word_renamed" spRen := by
  have S : FnScope ["word", "called"] ["word", "called"] (defScope s_word_renamed) := C8.fnScope_by (by decide +kernel)
  refine cal_of F g S (FunD.bindsN F fun _ _ _ _ _ _ us hl => match us, hl with | [_, _], _ => rfl) (fun vs H Q E ⟨_, _, _, _, e, _⟩ => by rw [e]; rfl) (fun cdv A outer s H vs Q E hr h => ?_)
  obtain ⟨x, d, kvs, m, rfl, hd, hx, hm, hv, q⟩ := h
  have hu := hu_of hr
  refine ⟨_, pss_cons (ps_if (pt_val (pe_c Cg hr (by decide) (by rfl) (pa_cons (pv 0) pa_nil))) (pss_one (ps_ret (pv 0))) pss_nil)
    (pss_one (ps_ret (pe_ifExp (pt_val (pe_c Ct hr (by decide) (by rfl) (pa_cons (pv 0) pa_nil))) (pe_op op_add_str pe_str (pe_dget hu (pv 1) (pe_c Cn hr (by decide) (by rfl) (pa_cons (pv 0) pa_nil)) (fun _ _ => rfl))) (pe_dget hu (pv 1) (pv 0) (fun _ _ => rfl))))), ?_⟩
  refine ⟨_, rfl, x, rfl, hx, _, rfl, ?_⟩
  unfold rnm at q
  cases hg : isGive x with
  | true =>
    rw [if_pos hg] at q
    exact ⟨_, rfl, q⟩
  | false =>
    rw [if_neg (by rw [hg]; simp)] at q
    have hv := hv hg
    refine ⟨_, rfl, x, rfl, hx, _, rfl, ?_⟩
    cases ht : isTake x with
    | true =>
      rw [if_pos ht] at q
      refine ⟨_, rfl, _, rfl, x, rfl, hx, d, sV (m (nameOf x)), rfl, ?_, ?_⟩
      · rw [← hv]; exact DGet.k (k := sK (nameOf x)) hd
      · refine ⟨sW [47], sW (m (nameOf x)), by rw [s_sl], rfl, ?_, ?_⟩
        · rw [sW_len, sW_len]
          exact line_ok (by simp only [List.length_cons, List.length_nil]; omega)
        · rw [sW_app]; exact q
    | false =>
      rw [if_neg (by rw [ht]; simp)] at q
      have hn : nameOf x = x := by unfold nameOf; rw [if_neg (by rw [ht]; simp)]
      rw [hn] at q hv
      refine ⟨_, rfl, _, rfl, d, sV (m x), rfl, ?_, q⟩
      rw [← hv]; exact DGet.k (k := sK x) hd
def spRens (K : PySem.W.Frag) : Sp := fun vs H Q _ => ∃ (a d : Addr) (ws : List Wd) (kvs : List (Key × V)) (m : Wd → Wd), vs = [.ref a, .ref d] ∧ SqT K H a (ws.map sV) ∧ Sh ws ∧ H d = some (.dK kvs) ∧ (∀ x ∈ ws, (m (nameOf x)).length ≤ 3000000 ∧ (isGive x = false → valV kvs (sK (nameOf x)) = some (sV (m (nameOf x))))) ∧
  ∀ p H', Same H H' → H p = none → H' p = some (.tup ((ws.map (rnm m)).map sV)) → Q (.ref p) H'
theorem c_words_renamed {f : Addr} {fd : FuncData} (F : FnP K "words_renamed" s_words_renamed f fd) (g : mg "words_renamed" = some (.ref f)) (G : Gb mg) (Cr : Cal P w K mg base 3 "word_renamed" spRen) : Cal P w K mg base 4 "words_renamed" (spRens K) := by
  have S : FnScope ["words", "called", "word"] ["words", "called"] (defScope s_words_renamed) := C8.fnScope_by (by decide +kernel)
  refine cal_of F g S (FunD.bindsN F fun _ _ _ _ _ _ us hl => match us, hl with | [_, _], _ => rfl) (fun vs H Q E ⟨_, _, _, _, _, e, _⟩ => by rw [e]; rfl) (fun cdv A outer s H vs Q E hr h => ?_)
  obtain ⟨a, d, ws, kvs, m, rfl, hS, hsh, hd, hm, q⟩ := h
  refine ⟨_, pss_one (ps_ret (pe_callTy call_tuple_of (by rfl) G.tuple (by decide +kernel) (pa_cons (pe_lc (own := [("word", 2)]) (g := gName 2) rfl S.nd (pi_tup (pv 0)) (blkOk_by (N := ["words", "called", "word"]) (sc := defScope s_words_renamed) (by decide +kernel))
      (fun _ _ _ _ _ => pg_name (i := 2) S.nd rfl (Or.inl rfl)) (fun _ _ _ _ _ => pts_nil) (fun _ _ _ _ _ => pe_c Cr hr (by decide) (by rfl) (pa_cons (pv 2) (pa_cons (pv 1) pa_nil)))) pa_nil))), ?_⟩
  refine ⟨.ref a, rfl, a, rfl, ⟨_, hS⟩, fun D hD => lc_it walk_tup (fun i H2 => Same H H2 ∧ H2 D = some (.lst (((ws.take i).map (rnm m)).map sV))) ⟨same_upd hD, upd_same⟩ (fun i H2 _ h => Same.tup h.1 hS) ?_ ?_⟩
  · rintro i x H2 H3 hi ⟨s2, h2⟩ ⟨rfl, ex⟩
    obtain ⟨wd, ew, rfl⟩ := get_map ex
    have hi : i < ws.length := lt_of_get ew
    obtain ⟨hm1, hm2⟩ := hm wd (List.mem_of_getElem? ew)
    refine ⟨rfl, ?_⟩
    refine ⟨_, rfl, _, rfl, wd, d, kvs, m, rfl, s2 _ _ hd, hsh.at ew, hm1, hm2, ?_⟩
    refine ⟨_, h2, line_lt (by rw [List.length_map, List.length_map, List.length_take]; have := hsh.1; omega), fun p o e => ?_, ?_⟩
    · rw [upd_ne (ne_of_none e hD)]; exact s2 _ _ e
    · rw [upd_same, List.take_add_one, ew, List.map_append, List.map_append]; rfl
  · rintro H2 ⟨s2, h2⟩
    rw [List.length_map, List.take_length] at h2
    exact ⟨D, _, rfl, .inl ⟨SqL.mk h2, fun p np => q p _ (s2.trans (same_upd np)) (s2.free np) upd_same⟩⟩
end
end K11

set_option Elab.async false
set_option linter.all false
set_option maxRecDepth 100000
set_option maxHeartbeats 4000000
namespace K11
open PySem PySem.Spec PyProof.Rows L2
/-! ### standard words -/
theorem opens_len (ws : List Wd) : (opens ws).length ≤ ws.length := List.length_filter_le _ _
theorem takeNames_len (ws : List Wd) : (takeNames ws).length ≤ ws.length := by unfold takeNames; rw [List.length_map]; exact List.length_filter_le _ _
theorem sname_small {ops : List Wd} {k : Nat} (h1 : ops.length ≤ 1000) (h2 : k ≤ 1000) : (sname ops k).length ≤ 1002002 := by
  have := sname_length ops k
  have h3 : (k + 1) * (ops.length + 1) ≤ 1001 * 1001 := Nat.mul_le_mul (by omega) (by omega)
  omega
theorem nmOf_small {ws : List Wd} (h : Sh ws) {x : Wd} (hx : x ∈ takeNames ws ∨ x ∈ ws) : (nmOf ws x).length ≤ 2000000 := by
  unfold nmOf
  split
  · rename_i hm
    have h1 := opens_len ws
    have h2 := takeNames_len ws
    have h3 := List.idxOf_lt_length_iff.mpr hm
    have := sname_small (ops := opens ws) (k := (takeNames ws).idxOf x) (by have := h.1; omega) (by have := h.1; omega)
    omega
  · rename_i hm
    rcases hx with hx | hx
    · exact absurd hx hm
    · exact (h.2 x hx).1
theorem nmOf_chars {ws : List Wd} (h : Sh ws) {x : Wd} (hx : x ∈ takeNames ws ∨ x ∈ ws) : ∀ c ∈ nmOf ws x, c < 128 := by
  unfold nmOf
  split
  · intro c hc
    have := letters_chars _ c hc
    omega
  · rename_i hm
    rcases hx with hx | hx
    · exact absurd hx hm
    · exact (h.2 x hx).2
theorem nameOf_in {ws : List Wd} {x : Wd} (hx : x ∈ ws) : nameOf x ∈ takeNames ws ∨ nameOf x ∈ ws := by
  cases ht : isTake x with
  | true => rw [nameOf_of ht]; exact .inl (mem_takeNames.mpr (by rw [take_eq ht]; exact hx))
  | false => unfold nameOf; rw [if_neg (by rw [ht]; simp)]; exact .inr hx
theorem rnm_ren (ws : List Wd) (x : Wd) : rnm (nmOf ws) x = ren ws x := by
  unfold rnm ren nameOf
  cases ht : isTake x with
  | true => rw [if_pos rfl, if_pos rfl, if_pos rfl]
  | false => rw [if_neg (show ¬ false = true by simp), if_neg (show ¬ false = true by simp), if_neg (show ¬ false = true by simp)]
theorem ren_small {ws : List Wd} (h : Sh ws) (hk : ∀ n ∈ takeNames ws, True) {x : Wd} (hx : x ∈ ws) : (ren ws x).length ≤ 2000000 ∧ ∀ c ∈ ren ws x, c < 128 := by
  rw [← rnm_ren]
  have h1 := nmOf_chars h (nameOf_in hx)
  unfold rnm
  split
  · exact h.2 x hx
  · split
    · rename_i ht
      refine ⟨?_, fun c hc => ?_⟩
      · rw [nameOf_of ht]
        have hm : x.drop 1 ∈ takeNames ws := mem_takeNames.mpr (by rw [take_eq ht]; exact hx)
        unfold nmOf
        rw [if_pos hm]
        have h1 := opens_len ws
        have h2 := takeNames_len ws
        have h3 := List.idxOf_lt_length_iff.mpr hm
        have := sname_small (ops := opens ws) (k := (takeNames ws).idxOf (x.drop 1)) (by have := h.1; omega) (by have := h.1; omega)
        simp only [List.length_cons]; omega
      · rcases List.mem_cons.mp hc with e | e
        · omega
        · exact h1 c e
    · exact ⟨nmOf_small h (nameOf_in hx), h1⟩
theorem Sh.std {ws : List Wd} (h : Sh ws) : Sh (rawStd ws) := by
  refine ⟨by unfold rawStd; rw [List.length_map]; exact h.1, fun x hx => ?_⟩
  unfold rawStd at hx
  obtain ⟨y, hy, rfl⟩ := List.mem_map.mp hx
  exact ren_small h (fun _ _ => trivial) hy
section
variable {P : Program} {w : World} {K : PySem.W.Frag} {mg : Str → Option Value} {base : Heap}
abbrev ndT (ws : List Wd) : Prop := (takeNames ws).Nodup
theorem c_raw_standard {f : Addr} {fd : FuncData} (F : FnP K "raw_standard" s_raw_standard f fd) (g : mg "raw_standard" = some (.ref f)) (Co : Cal P w K mg base 4 "raw_open" (spT K (fun _ => True) (rTupW opens))) (Ct : Cal P w K mg base 1 "is_take" (spW fun a => .bl (isTake a)))
    (Cl : Cal P w K mg base 1 "letters_name" spLet) (Cn : Cal P w K mg base 2 "name_of" (spW fun a => sV (nameOf a))) (Cw : Cal P w K mg base 4 "words_renamed" (spRens K)) : Cal P w K mg base 5 "raw_standard" (spT K ndT (rTupW rawStd)) := by
  have S : FnScope ["words", "called", "barred", "number", "word", "name"] ["words"] (defScope s_raw_standard) := C8.fnScope_by (by decide +kernel)
  refine cal_of F g S (FunD.bindsN F fun _ _ _ _ _ _ us hl => match us, hl with | [_], _ => rfl) spT_len (fun cdv A outer s H vs Q E hr h => ?_)
  obtain ⟨a, ws, rfl, hS, hsh, hnd, q⟩ := h
  have hu := hu_of hr
  refine ⟨_, pss_cons (ps_setDc (i := 1) (own := [("name", 5)]) (g := gName 5) (tt := tYes) rfl S.nd rfl rfl (swd_true rfl rfl rfl (by decide +kernel)) (pi_tup (pe_c Co hr (by decide) (by rfl) (pa_cons (pv 0) pa_nil)))
      (blkOk_by (N := ["words", "called", "barred", "number", "word", "name"]) (sc := defScope s_raw_standard) (by decide +kernel)) (fun _ _ _ _ _ => pg_name (i := 5) S.nd rfl (Or.inl rfl)) (fun _ _ _ _ _ => pts_nil) (fun _ _ _ _ _ => pv 5) (fun _ _ _ _ _ => pv 5))
    (pss_cons (ps_set (i := 2) S.nd rfl (.inl rfl) (pe_bm0 PySem.F.plainAttrs_dict PySem.F.slot_dict_copy PySem.F.type_dict_copy mt_dcopy (pv 1)))
    (pss_cons (ps_set (i := 3) S.nd rfl (.inl rfl) pe_int)
    (pss_cons (ps_for PassesOwn.never rfl (pi_tup (pv 0)) (pg_name (i := 4) S.nd rfl (.inl rfl))
      (pss_one (ps_if (pt_val (pe_c Ct hr (by decide) (by rfl) (pa_cons (pv 4) pa_nil)))
        (pss_cons (ps_while PassesOwn.never (pt_cmp (pc_din hu (pe_c Cl hr (by decide) (by rfl) (pa_cons (pv 3) pa_nil)) (pv 2))) (pss_one (ps_aug (i := 3) S.nd rfl (.inl rfl) pe_int ip_add)))
        (pss_cons (ps_dput hu (pv 1) (pe_c Cn hr (by decide) (by rfl) (pa_cons (pv 4) pa_nil)) (pe_c Cl hr (by decide) (by rfl) (pa_cons (pv 3) pa_nil)) rfl)
        (pss_one (ps_aug (i := 3) S.nd rfl (.inl rfl) pe_int ip_add)))) pss_nil)))
    (pss_one (ps_ret (pe_c Cw hr (by decide) (by rfl) (pa_cons (pv 0) (pa_cons (pv 1) pa_nil)))))))), ?_⟩
  have hlw := hsh.1
  have hol := opens_len ws
  -- called
  refine ⟨_, rfl, a, ws, rfl, hS, hsh, trivial, ?_⟩
  rintro _ H1 s1 ⟨o, rfl, ho0, ho⟩
  refine ⟨o, rfl, ⟨_, SqT.mk ho⟩, fun d nd => dc_it (walk_tup (xs := (opens ws).map sV)) (fun i H2 => ∃ kvs, Same H1 H2 ∧ H2 d = some (.dK kvs) ∧ kvs.length ≤ i ∧ ∀ x : Wd, valV kvs (sK x) = if x ∈ (opens ws).take i then some (sV x) else none)
    ⟨[], same_upd nd, upd_same, Nat.le_refl _, fun x => by rw [List.take_zero, if_neg (by simp)]; rfl⟩ (fun i H2 _ ⟨_, s2, _⟩ => SqT.mk (s2 _ _ ho)) ?_ ?_⟩
  · rintro i x H2 H3 hi ⟨kvs, s2, h2, hl, hm⟩ ⟨rfl, ex⟩
    obtain ⟨wd, ew, rfl⟩ := get_map ex
    have hi : i < (opens ws).length := lt_of_get ew
    refine ⟨rfl, ?_⟩
    refine ⟨_, rfl, _, rfl, kvs, sK wd, rfl, h2, line_lt (by omega), _, fun p oo e => ?_, upd_same, ?_, fun x => ?_⟩
    · rw [upd_ne (ne_of_none e nd)]; exact s2 _ _ e
    · have := length_putK kvs (sK wd) (sV wd); omega
    · rw [valV_put, List.take_add_one, ew]
      by_cases e : sK x = sK wd
      · have e2 := sK_inj e
        subst e2
        rw [if_pos rfl, if_pos (List.mem_append_right _ (by simp))]
      · rw [if_neg e, hm x]
        have e2 : x ≠ wd := fun z => e (by rw [z])
        have e3 : x ∈ (opens ws).take i ↔ x ∈ (opens ws).take i ++ (some wd).toList := ⟨fun z => List.mem_append_left _ z, fun z => (List.mem_append.mp z).elim id fun z => absurd (by simpa using z) e2⟩
        by_cases hx : x ∈ (opens ws).take i
        · rw [if_pos hx, if_pos (e3.mp hx)]
        · rw [if_neg hx, if_neg fun z => hx (e3.mpr z)]
  · rintro H2 ⟨kvs0, s2, h2, hl0, hm0⟩
    rw [List.length_map] at hl0
    rw [List.length_map, List.take_length] at hm0
    -- barred
    refine ⟨.ref d, rfl, .inr (.inr (.inl ⟨rfl, .inl ⟨_, h2⟩⟩)), d, kvs0, rfl, rfl, h2, fun b nb => ?_⟩
    have nbd : b ≠ d := fun e => by rw [e, h2] at nb; cases nb
    -- number = 0; the loop
    refine ⟨.ref a, rfl, a, rfl, ⟨_, Same.tup ((s1.trans s2).trans (same_upd nb)) hS⟩, for_it walk_tup (fun i σ H3 => ∃ y4 kvs, σ = [some (.ref a), some (.ref d), some (.ref b), some (nV (num (opens ws) (takeNames (ws.take i)).length)), y4, none] ∧ Same H1 H3 ∧ H3 d = some (.dK kvs) ∧ H3 b = some (.dK kvs0) ∧
        kvs.length ≤ (opens ws).length + i ∧ ∀ x : Wd, valV kvs (sK x) = if x ∈ takeNames (ws.take i) then some (sV (sname (opens ws) ((takeNames ws).idxOf x))) else if x ∈ opens ws then some (sV x) else none)
      ⟨none, kvs0, rfl, s2.trans (same_upd nb), ?_, upd_same, by omega, fun x => ?_⟩ (fun i σ H3 _ ⟨_, _, _, s3, _⟩ => Same.tup (s1.trans s3) hS) ?_ ?_⟩
    · rw [upd_ne nbd.symm]; exact h2
    · rw [if_neg (show ¬ x ∈ takeNames (ws.take 0) by simp [takeNames]), hm0 x]
    · rintro i x σ H3 H4 hi ⟨y4, kvs, rfl, s3, hd, hb, hl, hm⟩ ⟨rfl, ex⟩
      obtain ⟨wd, ew, rfl⟩ := get_map ex
      have hi : i < ws.length := lt_of_get ew
      have ets := takeNames_step ew
      refine ⟨_, rfl, wd, rfl, hsh.at ew, _, rfl, ?_⟩
      cases ht : isTake wd with
      | false =>
        rw [ht, if_neg (by simp), List.append_nil] at ets
        refine ⟨some (sV wd), kvs, ?_, s3, hd, hb, by omega, fun x => ?_⟩
        · rw [ets]; rfl
        · rw [ets]; exact hm x
      | true =>
        rw [ht, if_pos rfl] at ets
        have hkl : (takeNames (ws.take i)).length ≤ 1000 := by have := takeNames_len (ws.take i); rw [List.length_take] at this; omega
        generalize hk : (takeNames (ws.take i)).length = k at hkl
        have hnk : num (opens ws) k ≤ 1001 * 1001 := Nat.le_trans (num_le _ _) (Nat.mul_le_mul (by omega) (by omega))
        have hnx := nxt_le (opens ws) (num (opens ws) k)
        have hng := nxt_ge (opens ws) (num (opens ws) k)
        -- the while
        refine ⟨fun m σ H' => H' = H4 ∧ ∃ n, n + m = nxt (opens ws) (num (opens ws) k) ∧ num (opens ws) k ≤ n ∧ σ = [some (V.ref a), some (.ref d), some (.ref b), some (nV n), some (sV wd), none], ⟨nxt (opens ws) (num (opens ws) k) - num (opens ws) k, rfl, num (opens ws) k, by omega, Nat.le_refl _, rfl⟩, ?_⟩
        rintro m σ H' ⟨rfl, n, en, gn, rfl⟩
        refine ⟨_, rfl, n, rfl, by omega, _, rfl, b, _, rfl, DGet.k (k := sK (letters n)) hb, _, rfl, ?_⟩
        rw [hm0 (letters n)]
        cases m with
        | succ m =>
          have hin : letters n ∈ opens ws := nxt_below gn (by omega)
          rw [if_pos hin]
          refine ⟨fun σ' H'' => H'' = H' ∧ ∃ n, n + m = nxt (opens ws) (num (opens ws) k) ∧ num (opens ws) k ≤ n ∧ σ' = [some (V.ref a), some (.ref d), some (.ref b), some (nV n), some (sV wd), none], fun σ' H'' h => ⟨m, Nat.lt_succ_self m, h⟩, ?_⟩
          exact ⟨_, rfl, _, _, rfl, rfl, rfl, n + 1, by omega, by omega, rfl⟩
        | zero =>
          have en : n = nxt (opens ws) (num (opens ws) k) := en
          have hout : letters n ∉ opens ws := by rw [en]; exact nxt_free _ _
          rw [if_neg hout]
          have hx0 : wd.drop 1 ∉ takeNames (ws.take i) := fun hm => by
            have e0 : takeNames ws = takeNames (ws.take i) ++ takeNames (ws.drop i) := by rw [← takeNames_app, List.take_append_drop]
            rw [drop_get ew, show wd :: ws.drop (i + 1) = [wd] ++ ws.drop (i + 1) from rfl, takeNames_app, takeNames_one, if_pos ht] at e0
            have hnd := hnd
            unfold ndT at hnd
            rw [e0, List.nodup_append] at hnd
            exact hnd.2.2 _ hm (wd.drop 1) (by simp) rfl
          have hidx : (takeNames ws).idxOf (wd.drop 1) = k := by
            have e0 : takeNames ws = takeNames (ws.take i) ++ ([wd.drop 1] ++ takeNames (ws.drop (i + 1))) := by
              have : takeNames ws = takeNames (ws.take i) ++ takeNames (ws.drop i) := by rw [← takeNames_app, List.take_append_drop]
              rw [this, drop_get ew, show wd :: ws.drop (i + 1) = [wd] ++ ws.drop (i + 1) from rfl, takeNames_app, takeNames_one, if_pos ht]
            rw [e0, List.idxOf_append, if_neg hx0, hk]
            simp [List.idxOf_cons]
          refine ⟨_, rfl, n, rfl, by omega, _, rfl, _, rfl, wd, rfl, hsh.at ew, d, _, rfl, DPut.k (k := sK (nameOf wd)) hd (line_lt (by omega)), ?_⟩
          refine ⟨_, rfl, _, _, rfl, rfl, some (sV wd), _, ?_, fun p oo e => ?_, upd_same, ?_, ?_, fun x => ?_⟩
          · rw [ets, List.length_append, List.length_singleton, hk]
            show [_, _, _, some (V.int ((n : Int) + 1)), _, _] = _
            rw [show ((n : Int) + 1) = ((num (opens ws) (k + 1) : Nat) : Int) by
              show ((n : Int) + 1) = ((nxt (opens ws) (num (opens ws) k) + 1 : Nat) : Int)
              omega]
          · rw [upd_ne (ne_of_none e nd)]; exact s3 _ _ e
          · rw [upd_ne nbd]; exact hb
          · have := length_putK kvs (sK (nameOf wd)) (sV (letters n)); omega
          · rw [valV_put, nameOf_of ht, ets]
            by_cases e : sK x = sK (wd.drop 1)
            · have e2 := sK_inj e
              rw [if_pos e, if_pos (List.mem_append_right _ (by rw [e2]; simp)), e2, hidx]
              unfold sname
              rw [en]
            · have e2 : ¬ x = wd.drop 1 := fun z => e (by rw [z])
              have e3 : x ∈ takeNames (ws.take i) ↔ x ∈ takeNames (ws.take i) ++ [wd.drop 1] := ⟨fun z => List.mem_append_left _ z, fun z => (List.mem_append.mp z).elim id fun z => absurd (List.mem_singleton.mp z) e2⟩
              rw [if_neg e, hm x]
              by_cases hx : x ∈ takeNames (ws.take i)
              · rw [if_pos hx, if_pos (e3.mp hx)]
              · rw [if_neg hx, if_neg fun z => hx (e3.mpr z)]
    · rintro σ H3 ⟨y4, kvs, rfl, s3, hd, hb, hl, hm⟩
      rw [List.length_map, List.take_length] at hm
      refine ⟨_, rfl, _, rfl, a, d, ws, kvs, nmOf ws, rfl, Same.tup (s1.trans s3) hS, hsh, hd, fun x hx => ⟨Nat.le_trans (nmOf_small hsh (nameOf_in hx)) (by decide), fun hg => ?_⟩, fun p H4 s4 np hp => ?_⟩
      · rw [hm]
        unfold nmOf
        by_cases hT : nameOf x ∈ takeNames ws
        · rw [if_pos hT, if_pos hT]
        · have ht : isTake x = false := by
            cases e : isTake x with
            | false => rfl
            | true => exact absurd (mem_takeNames.mpr (by rw [nameOf_of e, take_eq e]; exact hx)) hT
          have hn : nameOf x = x := by unfold nameOf; rw [if_neg (by rw [ht]; simp)]
          rw [hn] at hT ⊢
          rw [if_neg hT, if_neg hT, if_pos (mem_opens.mpr ⟨hx, isNm_iff.mpr ⟨hg, ht⟩, hT⟩)]
      · refine q _ _ ((s1.trans s3).trans s4) ⟨p, rfl, (s1.trans s3).free np, ?_⟩
        rw [hp]
        congr 3
        exact List.map_congr_left fun x _ => rnm_ren ws x
end
end K11

set_option Elab.async false
set_option linter.all false
set_option maxRecDepth 100000
set_option maxHeartbeats 4000000
namespace K11
open PySem PySem.Spec PyProof.Rows L2
/-! ### tuples compared -/
def dW (ws : List Wd) : List PyData := ws.map fun w => PyData.str (sW w)
def dN (ns : List Nat) : List PyData := ns.map fun (n : Nat) => PyData.int (n : Int)
theorem dpa_words {K : PySem.W.Frag} {H : Hp} : ∀ ws : List Wd, DpAll K H (ws.map sV) (dW ws)
  | [] => .nil
  | w :: ws => .cons (.str _) (dpa_words ws)
theorem dpa_nats {K : PySem.W.Frag} {H : Hp} : ∀ ns : List Nat, DpAll K H (ns.map nV) (dN ns)
  | [] => .nil
  | n :: ns => .cons (.int _) (dpa_nats ns)
theorem lay_words : ∀ {ws : List Wd}, (∀ w ∈ ws, ∀ c ∈ w, c < 128) → PyData.canLayAll0 (dW ws) = true ∧ PyData.depthAll (dW ws) = 0
  | [], _ => ⟨rfl, rfl⟩
  | w :: ws, h => by
    obtain ⟨h1, h2⟩ := lay_words (ws := ws) fun x hx => h x (List.mem_cons_of_mem _ hx)
    refine ⟨?_, ?_⟩
    · show (PyData.canLay0 (.str (sW w)) && PyData.canLayAll0 (dW ws)) = true
      rw [h1, Bool.and_true]
      show (w.toArray.all fun c => decide (c < 1114112)) = true
      rw [List.all_toArray, List.all_eq_true]
      intro c hc
      have := h w (by simp) c hc
      exact decide_eq_true (by omega)
    · show max (PyData.depth (.str (sW w))) (PyData.depthAll (dW ws)) = 0
      rw [h2]; rfl
theorem lay_nats : ∀ {ns : List Nat}, PyData.canLayAll0 (dN ns) = true ∧ PyData.depthAll (dN ns) = 0
  | [] => ⟨rfl, rfl⟩
  | n :: ns => by
    obtain ⟨h1, h2⟩ := lay_nats (ns := ns)
    refine ⟨?_, ?_⟩
    · show (PyData.canLay0 (.int n) && PyData.canLayAll0 (dN ns)) = true
      rw [h1]; rfl
    · show max (PyData.depth (.int n)) (PyData.depthAll (dN ns)) = 0
      rw [h2]; rfl
theorem shaped_of {ds : List PyData} (h : PyData.canLayAll0 ds = true ∧ PyData.depthAll ds = 0) : SeqAt.shaped (.tuple ds) = true ∧ SeqAt.shaped (.list ds) = true := by
  constructor
  · show (PyData.canLayAll0 ds && decide (PyData.depthAll ds + 1 ≤ 64)) = true
    rw [h.1, h.2]; rfl
  · show (PyData.canLayAll0 ds && decide (PyData.depthAll ds + 1 ≤ 64)) = true
    rw [h.1, h.2]; rfl
/-- two tuples of the same words are equal -/
theorem eq_words {K : PySem.W.Frag} {H : Hp} {a b : Addr} {ws : List Wd} {Q : VK} (hc : ∀ w ∈ ws, ∀ c ∈ w, c < 128) (ha : SqT K H a (ws.map sV)) (hb : SqT K H b (ws.map sV)) (q : Q (.bl true) H) : rEqD K (.ref a) (.ref b) H Q := by
  have l := lay_words hc
  refine ⟨_, _, .tup ha (dpa_words ws), .tup hb (dpa_words ws), (shaped_of l).1, (shaped_of l).1, ?_⟩
  rw [SeqAt.eqv_refl _ (show PyData.canLay0 (.tuple (dW ws)) = true from l.1)]
  exact q
theorem ne_words {K : PySem.W.Frag} {H : Hp} {a b : Addr} {ws : List Wd} {Q : VK} (hc : ∀ w ∈ ws, ∀ c ∈ w, c < 128) (ha : SqT K H a (ws.map sV)) (hb : SqT K H b (ws.map sV)) (q : Q (.bl false) H) : rNeD K (.ref a) (.ref b) H Q := by
  have l := lay_words hc
  refine ⟨_, _, .tup ha (dpa_words ws), .tup hb (dpa_words ws), (shaped_of l).1, (shaped_of l).1, ?_⟩
  rw [SeqAt.eqv_refl _ (show PyData.canLay0 (.tuple (dW ws)) = true from l.1)]
  exact q
theorem ne_wordsL {K : PySem.W.Frag} {H : Hp} {a b : Addr} {ws : List Wd} {Q : VK} (hc : ∀ w ∈ ws, ∀ c ∈ w, c < 128) (ha : SqL K H a (ws.map sV)) (hb : SqL K H b (ws.map sV)) (q : Q (.bl false) H) : rNeD K (.ref a) (.ref b) H Q := by
  have l := lay_words hc
  refine ⟨_, _, .lst ha (dpa_words ws), .lst hb (dpa_words ws), (shaped_of l).2, (shaped_of l).2, ?_⟩
  rw [SeqAt.eqv_refl _ (show PyData.canLay0 (.list (dW ws)) = true from l.1)]
  exact q
theorem ne_nats {K : PySem.W.Frag} {H : Hp} {a b : Addr} {ns : List Nat} {Q : VK} (ha : SqT K H a (ns.map nV)) (hb : SqT K H b (ns.map nV)) (q : Q (.bl false) H) : rNeD K (.ref a) (.ref b) H Q := by
  have l := lay_nats (ns := ns)
  refine ⟨_, _, .tup ha (dpa_nats ns), .tup hb (dpa_nats ns), (shaped_of l).1, (shaped_of l).1, ?_⟩
  rw [SeqAt.eqv_refl _ (show PyData.canLay0 (.tuple (dN ns)) = true from l.1)]
  exact q
/-- tuples of words put together -/
theorem cat_words {K : PySem.W.Frag} {H : Hp} {a b : Addr} {xs ys : List Wd} {Q : VK} (ha : SqT K H a (xs.map sV)) (hb : SqT K H b (ys.map sV)) (hl : xs.length + ys.length ≤ 4000000) (q : ∀ p H', Same H H' → SqT K H' p ((xs ++ ys).map sV) → Q (.ref p) H') : rCatA K (.ref a) (.ref b) H Q := by
  refine ⟨a, b, _, _, rfl, rfl, ha, hb, line_ok (by rw [List.length_map, List.length_map]; exact hl), fun e => ?_, fun _ e => ?_, fun _ _ p np => ?_⟩
  · have e : xs = [] := List.map_eq_nil_iff.mp e
    subst e
    exact q b H (Same.refl _) hb
  · have e : ys = [] := List.map_eq_nil_iff.mp e
    subst e
    exact q a H (Same.refl _) (by rw [List.append_nil]; exact ha)
  · refine q p _ (same_upd np) (SqT.mk ?_)
    rw [upd_same, List.map_append]
section
variable {P : Program} {w : World} {K : PySem.W.Frag} {mg : Str → Option Value} {base : Heap}
/-! ### standard, same -/
theorem c_standard {f C : Addr} {fd : FuncData} (F : FnP K "standard" s_standard f fd) (g : mg "standard" = some (.ref f)) (T : Cp K mg "RawProgram" C) (Mr : Mak P w K mg base 1 "RawProgram" C (spInit C (aRaw K))) (Cs : Cal P w K mg base 5 "raw_standard" (spT K ndT (rTupW rawStd))) :
    Cal P w K mg base 6 "standard" (spP K ndT fun ws H v H' => ∃ x, v = .ref x ∧ PAt K H' x (rawStd ws)) := by
  have S : FnScope ["program"] ["program"] (defScope s_standard) := C8.fnScope_by (by decide +kernel)
  refine cal_of F g S (FunD.bindsN F fun _ _ _ _ _ _ us hl => match us, hl with | [_], _ => rfl) spP_len (fun cdv A outer s H vs Q E hr h => ?_)
  obtain ⟨p, ws, rfl, hp, hsh, hnd, q⟩ := h
  obtain ⟨C', dx, a, h1, h2, h3, h4⟩ := hp.ex
  refine ⟨_, pss_one (ps_ret (pe_mk Mr hr (by decide) (by rfl) (pa_cons (pe_c Cs hr (by decide) (by rfl) (pa_cons (pe_fld (pv 0) rfl) pa_nil)) pa_nil))), ?_⟩
  refine ⟨_, rfl, p, C', dx, _, _, rfl, h1, h2, h3, words_look, a, ws, rfl, h4, hsh, hnd, ?_⟩
  rintro _ H1 s1 ⟨t, rfl, ht0, ht⟩
  exact mk_raw T (SqT.mk ht) hsh.std fun x H2 nx s2 hx => q _ _ (s1.trans s2) ⟨x, rfl, hx⟩
def spSame (K : PySem.W.Frag) : Sp := fun vs H Q _ => ∃ (p o : Addr) (ws xs : List Wd), vs = [.ref p, .ref o] ∧ PAt K H p ws ∧ PAt K H o xs ∧ Sh ws ∧ Sh xs ∧ ndT ws ∧ ndT xs ∧ rawStd ws = rawStd xs ∧ ∀ H', Same H H' → Q (.bl true) H'
theorem c_same {f : Addr} {fd : FuncData} (F : FnP K "same" s_same f fd) (g : mg "same" = some (.ref f)) (Cs : Cal P w K mg base 5 "raw_standard" (spT K ndT (rTupW rawStd))) : Cal P w K mg base 6 "same" (spSame K) := by
  have S : FnScope ["program", "other"] ["program", "other"] (defScope s_same) := C8.fnScope_by (by decide +kernel)
  refine cal_of F g S (FunD.bindsN F fun _ _ _ _ _ _ us hl => match us, hl with | [_, _], _ => rfl) (fun vs H Q E ⟨_, _, _, _, e, _⟩ => by rw [e]; rfl) (fun cdv A outer s H vs Q E hr h => ?_)
  obtain ⟨p, o, ws, xs, rfl, hp, ho, hsh, hsx, hnd, hnx, he, q⟩ := h
  obtain ⟨C1, d1, a1, h1, h2, h3, h4⟩ := hp.ex
  refine ⟨_, pss_one (ps_ret (pe_cmpR (op_eqD hr.units) (pe_c Cs hr (by decide) (by rfl) (pa_cons (pe_fld (pv 0) rfl) pa_nil)) (pe_c Cs hr (by decide) (by rfl) (pa_cons (pe_fld (pv 1) rfl) pa_nil)) (nomark _))), ?_⟩
  refine ⟨_, rfl, p, C1, d1, _, _, rfl, h1, h2, h3, words_look, a1, ws, rfl, h4, hsh, hnd, ?_⟩
  rintro _ H1 s1 ⟨t, rfl, ht0, ht⟩
  obtain ⟨C2, d2, a2, g1, g2, g3, g4⟩ := (ho.same s1).ex
  refine ⟨_, rfl, o, C2, d2, _, _, rfl, g1, g2, g3, words_look, a2, xs, rfl, g4, hsx, hnx, ?_⟩
  rintro _ H2 s2 ⟨t2, rfl, ht02, ht2⟩
  rw [he] at ht
  exact eq_words (fun x hx => (hsx.std.2 x hx).2) (SqT.mk (s2 _ _ ht)) (SqT.mk ht2) (q _ (s1.trans s2))
/-! ### apart, applied -/
def spApart (K : PySem.W.Frag) : Sp := fun vs H Q _ => ∃ (a : Addr) (ws : List Wd) (mk : Wd), vs = [.ref a, sV mk] ∧ SqT K H a (ws.map sV) ∧ Sh ws ∧ mk.length ≤ 10 ∧ ∀ p H', Same H H' → H p = none → H' p = some (.tup ((apartOf ws mk).map sV)) → Q (.ref p) H'
def apW (ws : List Wd) (mk w : Wd) : Wd := if (isGive w || decide (nameOf w ∈ opens ws)) = true then w else if isTake w = true then 47 :: (mk ++ nameOf w) else mk ++ w
theorem apartOf_is (ws : List Wd) (mk : Wd) : apartOf ws mk = ws.map (apW ws mk) := rfl
theorem c_apart {f : Addr} {fd : FuncData} (F : FnP K "apart" s_apart f fd) (g : mg "apart" = some (.ref f)) (G : Gb mg) (Co : Cal P w K mg base 4 "raw_open" (spT K (fun _ => True) (rTupW opens))) (Cg : Cal P w K mg base 1 "is_give" (spW fun a => .bl (isGive a)))
    (Ct : Cal P w K mg base 1 "is_take" (spW fun a => .bl (isTake a))) (Cn : Cal P w K mg base 2 "name_of" (spW fun a => sV (nameOf a))) : Cal P w K mg base 5 "apart" (spApart K) := by
  have S : FnScope ["words", "mark", "barred", "found", "word", "name"] ["words", "mark"] (defScope s_apart) := C8.fnScope_by (by decide +kernel)
  refine cal_of F g S (FunD.bindsN F fun _ _ _ _ _ _ us hl => match us, hl with | [_, _], _ => rfl) (fun vs H Q E ⟨_, _, _, e, _⟩ => by rw [e]; rfl) (fun cdv A outer s H vs Q E hr h => ?_)
  obtain ⟨a, ws, mk, rfl, hS, hsh, hmk, q⟩ := h
  have hu := hu_of hr
  refine ⟨_, pss_cons (ps_setDc (i := 2) (own := [("name", 5)]) (g := gName 5) (tt := tYes) rfl S.nd rfl rfl (swd_true rfl rfl rfl (by decide +kernel)) (pi_tup (pe_c Co hr (by decide) (by rfl) (pa_cons (pv 0) pa_nil)))
      (blkOk_by (N := ["words", "mark", "barred", "found", "word", "name"]) (sc := defScope s_apart) (by decide +kernel)) (fun _ _ _ _ _ => pg_name (i := 5) S.nd rfl (Or.inl rfl)) (fun _ _ _ _ _ => pts_nil) (fun _ _ _ _ _ => pv 5) (fun _ _ _ _ _ => pe_bl))
    (pss_cons (ps_set (i := 3) S.nd rfl (.inl rfl) (pe_lst pa_nil))
    (pss_cons (ps_for PassesOwn.never rfl (pi_tup (pv 0)) (pg_name (i := 4) S.nd rfl (.inl rfl))
      (pss_one (ps_if (PW.pt (pw_or (pt_val (pe_c Cg hr (by decide) (by rfl) (pa_cons (pv 4) pa_nil))) (pw_or1 (pt_cmp (pc_din hu (pe_c Cn hr (by decide) (by rfl) (pa_cons (pv 4) pa_nil)) (pv 2))))))
        (pss_one (ps_expr (pe_bm PySem.F.plainAttrs_list PySem.F.slot_list_append PySem.F.type_list_append mt_append (pv 3) (pa_cons (pv 4) pa_nil))))
        (pss_one (ps_expr (pe_bm PySem.F.plainAttrs_list PySem.F.slot_list_append PySem.F.type_list_append mt_append (pv 3) (pa_cons
          (pe_ifExp (pt_val (pe_c Ct hr (by decide) (by rfl) (pa_cons (pv 4) pa_nil))) (pe_op op_add_str (pe_op op_add_str pe_str (pv 1)) (pe_c Cn hr (by decide) (by rfl) (pa_cons (pv 4) pa_nil))) (pe_op op_add_str (pv 1) (pv 4))) pa_nil)))))))
    (pss_one (ps_ret (pe_callTy call_tuple_of (by rfl) G.tuple (by decide +kernel) (pa_cons (pv 3) pa_nil)))))), ?_⟩
  have hlw := hsh.1
  have hol := opens_len ws
  refine ⟨_, rfl, a, ws, rfl, hS, hsh, trivial, ?_⟩
  rintro _ H1 s1 ⟨o, rfl, ho0, ho⟩
  refine ⟨o, rfl, ⟨_, SqT.mk ho⟩, fun d nd => dc_it (walk_tup (xs := (opens ws).map sV)) (fun i H2 => ∃ kvs, Same H1 H2 ∧ H2 d = some (.dK kvs) ∧ kvs.length ≤ i ∧ ∀ x : Wd, (valV kvs (sK x)).isSome = decide (x ∈ (opens ws).take i))
    ⟨[], same_upd nd, upd_same, Nat.le_refl _, fun x => by rw [List.take_zero]; rfl⟩ (fun i H2 _ ⟨_, s2, _⟩ => SqT.mk (s2 _ _ ho)) ?_ ?_⟩
  · rintro i x H2 H3 hi ⟨kvs, s2, h2, hl, hm⟩ ⟨rfl, ex⟩
    obtain ⟨wd, ew, rfl⟩ := get_map ex
    have hi : i < (opens ws).length := lt_of_get ew
    refine ⟨rfl, ?_⟩
    refine ⟨_, rfl, kvs, sK wd, rfl, h2, line_lt (by omega), _, fun p oo e => ?_, upd_same, ?_, fun x => ?_⟩
    · rw [upd_ne (ne_of_none e nd)]; exact s2 _ _ e
    · have := length_putK kvs (sK wd) (.bl true); omega
    · rw [valV_put, List.take_add_one, ew]
      by_cases e : sK x = sK wd
      · have e2 := sK_inj e
        subst e2
        rw [if_pos rfl, decide_eq_true (List.mem_append_right _ (by simp))]; rfl
      · rw [if_neg e, hm x]
        have e2 : x ≠ wd := fun z => e (by rw [z])
        have e3 : x ∈ (opens ws).take i ↔ x ∈ (opens ws).take i ++ (some wd).toList := ⟨fun z => List.mem_append_left _ z, fun z => (List.mem_append.mp z).elim id fun z => absurd (by simpa using z) e2⟩
        by_cases hx : x ∈ (opens ws).take i
        · rw [decide_eq_true hx, decide_eq_true (e3.mp hx)]
        · rw [decide_eq_false hx, decide_eq_false fun z => hx (e3.mpr z)]
  · rintro H2 ⟨kvs, s2, h2, hl0, hm⟩
    rw [List.length_map, List.take_length] at hm
    refine ⟨Nat.zero_le _, fun fo nf => ?_⟩
    have s12 := (s1.trans s2).trans (same_upd (o := .lst []) nf)
    have nfd : d ≠ fo := ne_of_none h2 nf
    refine ⟨.ref a, rfl, a, rfl, ⟨_, Same.tup s12 hS⟩, for_it walk_tup (fun i σ H3 => ∃ y4, σ = [some (.ref a), some (sV mk), some (.ref d), some (.ref fo), y4, none] ∧ Same H2 H3 ∧ H3 d = some (.dK kvs) ∧ H3 fo = some (.lst (((ws.take i).map (apW ws mk)).map sV)))
      ⟨none, rfl, same_upd nf, by rw [upd_ne nfd]; exact h2, upd_same⟩ (fun i σ H3 _ ⟨_, _, s3, _⟩ => Same.tup ((s1.trans s2).trans s3) hS) ?_ ?_⟩
    · rintro i x σ H3 H4 hi ⟨y4, rfl, s3, hd, hf⟩ ⟨rfl, ex⟩
      obtain ⟨wd, ew, rfl⟩ := get_map ex
      have hi : i < ws.length := lt_of_get ew
      have hwl := hsh.at ew
      have fin : ∀ y : Wd, y = apW ws mk wd → tyV K "list" (.ref fo) H4 ∧ ∃ l xs z, V.ref fo = .ref l ∧ [sV y] = [z] ∧ H4 l = some (.lst xs) ∧ xs.length < sizeLine ∧
          (∃ y4, ([some (V.ref a), some (sV mk), some (.ref d), some (.ref fo), some (sV wd), none] : L2.St) = [some (.ref a), some (sV mk), some (.ref d), some (.ref fo), y4, none] ∧ Same H2 (upd H4 l (.lst (xs ++ [z]))) ∧ (upd H4 l (.lst (xs ++ [z]))) d = some (.dK kvs) ∧
            (upd H4 l (.lst (xs ++ [z]))) fo = some (.lst (((ws.take (i + 1)).map (apW ws mk)).map sV))) := by
        intro y ey
        refine ⟨.inl ⟨rfl, _, SqL.mk hf⟩, fo, _, _, rfl, rfl, hf, line_lt (by rw [List.length_map, List.length_map, List.length_take]; omega), _, rfl, fun p oo e => ?_, ?_, ?_⟩
        · rw [upd_ne (ne_of_none e nf)]; exact s3 _ _ e
        · rw [upd_ne nfd]; exact hd
        · rw [upd_same, List.take_add_one, ew, List.map_append, List.map_append, ey]; rfl
      refine ⟨_, rfl, wd, rfl, hwl, _, rfl, ?_⟩
      cases hg : isGive wd with
      | true =>
        obtain ⟨t, r⟩ := fin wd (by unfold apW; rw [hg]; rfl)
        exact ⟨_, rfl, t, _, rfl, r⟩
      | false =>
        refine ⟨_, rfl, wd, rfl, hwl, _, rfl, d, _, rfl, DGet.k (k := sK (nameOf wd)) hd, _, rfl, ?_⟩
        rw [hm (nameOf wd)]
        cases ho : decide (nameOf wd ∈ opens ws) with
        | true =>
          obtain ⟨t, r⟩ := fin wd (by unfold apW; rw [hg, ho]; rfl)
          exact ⟨_, rfl, t, _, rfl, r⟩
        | false =>
          cases ht : isTake wd with
          | true =>
            have hnl : (nameOf wd).length ≤ wd.length := by rw [nameOf_of ht, List.length_drop]; omega
            have hw2 := (hsh.2 wd (List.mem_of_getElem? ew)).1
            obtain ⟨t, r⟩ := fin (([47] ++ mk) ++ nameOf wd) (by unfold apW; rw [hg, ho, ht]; rfl)
            refine ⟨_, rfl, t, _, rfl, wd, rfl, hwl, _, rfl, ?_⟩
            rw [ht]
            refine ⟨_, rfl, sW [47], sW mk, by rw [s_sl], rfl, line_ok (by rw [sW_len, sW_len]; simp only [List.length_cons, List.length_nil]; omega), ?_⟩
            rw [sW_app]
            refine ⟨_, rfl, wd, rfl, hwl, sW ([47] ++ mk), sW (nameOf wd), rfl, rfl, line_ok (by rw [sW_len, sW_len, List.length_append]; simp only [List.length_cons, List.length_nil]; omega), ?_⟩
            rw [sW_app]
            exact r
          | false =>
            have hw2 := (hsh.2 wd (List.mem_of_getElem? ew)).1
            obtain ⟨t, r⟩ := fin (mk ++ wd) (by unfold apW; rw [hg, ho, ht]; rfl)
            refine ⟨_, rfl, t, _, rfl, wd, rfl, hwl, _, rfl, ?_⟩
            rw [ht]
            refine ⟨_, rfl, _, rfl, sW mk, sW wd, rfl, rfl, line_ok (by rw [sW_len, sW_len]; omega), ?_⟩
            rw [sW_app]
            exact r
    · rintro σ H3 ⟨y4, rfl, s3, hd, hf⟩
      rw [List.length_map, List.take_length] at hf
      exact ⟨_, rfl, fo, _, rfl, .inl ⟨SqL.mk hf, fun p np => q p _ (((s1.trans s2).trans s3).trans (same_upd np)) (((s1.trans s2).trans s3).free np) (by rw [upd_same, apartOf_is])⟩⟩
end
end K11

set_option Elab.async false
set_option linter.all false
set_option maxRecDepth 100000
set_option maxHeartbeats 4000000
namespace K11
open PySem PySem.Spec PyProof.Rows L2
theorem s_1 : ("1" : Str) = sW [49] := by decide +kernel
theorem s_2 : ("2" : Str) = sW [50] := by decide +kernel
section
variable {P : Program} {w : World} {K : PySem.W.Frag} {mg : Str → Option Value} {base : Heap}
/-! ### applied -/
def appW (ws xs : List Wd) : List Wd := ([64] :: apartOf ws [49]) ++ apartOf xs [50]
def spApplied (K : PySem.W.Frag) : Sp := fun vs H Q _ => ∃ (p o : Addr) (ws xs : List Wd), vs = [.ref p, .ref o] ∧ PAt K H p ws ∧ PAt K H o xs ∧ Sh ws ∧ Sh xs ∧ Sh (appW ws xs) ∧ ndT (appW ws xs) ∧ opens xs = [] ∧ ∀ x H', Same H H' → PAt K H' x (rawStd (appW ws xs)) → Q (.ref x) H'
theorem c_applied {f C : Addr} {fd : FuncData} (F : FnP K "applied" s_applied f fd) (g : mg "applied" = some (.ref f)) (G : Gb mg) (T : Cp K mg "RawProgram" C) (Mr : Mak P w K mg base 1 "RawProgram" C (spInit C (aRaw K)))
    (Cs : Cal P w K mg base 5 "raw_standard" (spT K ndT (rTupW rawStd))) (Co : Cal P w K mg base 4 "raw_open" (spT K (fun _ => True) (rTupW opens))) (Ca : Cal P w K mg base 5 "apart" (spApart K)) : Cal P w K mg base 6 "applied" (spApplied K) := by
  have S : FnScope ["program", "other", "name"] ["program", "other"] (defScope s_applied) := C8.fnScope_by (by decide +kernel)
  refine cal_of F g S (FunD.bindsN F fun _ _ _ _ _ _ us hl => match us, hl with | [_, _], _ => rfl) (fun vs H Q E ⟨_, _, _, _, e, _⟩ => by rw [e]; rfl) (fun cdv A outer s H vs Q E hr h => ?_)
  obtain ⟨p, o, ws, xs, rfl, hp, ho, hsh, hsx, hsa, hnd, hox, q⟩ := h
  refine ⟨_, pss_cons (ps_if (pt_cmpR op_gt (pe_callB call_len_seq (by rfl) G.len PySem.boot_len (pa_cons (pe_lc (own := [("name", 2)]) (g := gName 2) (tt := tTest (tOp (rIn K false) (tVar 2) (tCl (spT K (fun _ => True) (rTupW opens)) (tCons (tFld K (tVar 1) "words") tNil)))) rfl S.nd (pi_tup (pe_c Co hr (by decide) (by rfl) (pa_cons (pe_fld (pv 0) rfl) pa_nil)))
        (blkOk_by (N := ["program", "other", "name"]) (sc := defScope s_applied) (by decide +kernel)) (fun _ _ _ _ _ => pg_name (i := 2) S.nd rfl (Or.inl rfl))
        (fun _ _ _ _ _ => pts_one (pt_cmpR op_in_seq (pv 2) (pe_c Co hr (by decide) (by rfl) (pa_cons (pe_fld (pv 1) (by rfl)) pa_nil)) (by rfl))) (fun _ _ _ _ _ => pv 2)) pa_nil)) pe_int (nomark _)) (pss_one ps_never) pss_nil)
    (pss_one (ps_ret (pe_mk Mr hr (by decide) (by rfl) (pa_cons (pe_c Cs hr (by decide) (by rfl) (pa_cons (pe_op op_catA (pe_op op_catA (pe_tup (pa_cons pe_str pa_nil)) (pe_c Ca hr (by decide) (by rfl) (pa_cons (pe_fld (pv 0) rfl) (pa_cons pe_str pa_nil))))
      (pe_c Ca hr (by decide) (by rfl) (pa_cons (pe_fld (pv 1) rfl) (pa_cons pe_str pa_nil)))) pa_nil)) pa_nil)))), ?_⟩
  obtain ⟨C1, d1, a1, h1, h2, h3, h4⟩ := hp.ex
  refine ⟨_, rfl, p, C1, d1, _, _, rfl, h1, h2, h3, words_look, a1, ws, rfl, h4, hsh, trivial, ?_⟩
  rintro _ H1 s1 ⟨t, rfl, ht0, ht⟩
  refine ⟨t, rfl, ⟨_, SqT.mk ht⟩, fun D hD => lc_it (walk_tup (xs := (opens ws).map sV)) (fun i H2 => Same H1 H2 ∧ H2 D = some (.lst [])) ⟨same_upd hD, upd_same⟩ (fun i H2 _ h => SqT.mk (h.1 _ _ ht)) ?_ ?_⟩
  · rintro i x H2 H3 hi ⟨s2, h2'⟩ ⟨rfl, ex⟩
    obtain ⟨wd, ew, rfl⟩ := get_map ex
    obtain ⟨C2, d2, a2, g1, g2, g3, g4⟩ := (ho.same (s1.trans s2)).ex
    refine ⟨rfl, ?_⟩
    refine ⟨_, rfl, _, rfl, o, C2, d2, _, _, rfl, g1, g2, g3, words_look, a2, xs, rfl, g4, hsx, trivial, ?_⟩
    rintro _ H4 s4 ⟨t2, rfl, ht2', ht2⟩
    rw [hox] at ht2
    refine ⟨t2, [], rfl, .inr (SqT.mk ht2), rfl, rfl, _, rfl, ?_⟩
    exact ⟨s2.trans s4, s4 _ _ h2'⟩
  · rintro H2 ⟨s2, hd⟩
    refine ⟨D, _, rfl, .inl (SqL.mk hd), _, _, rfl, rfl, _, rfl, ?_⟩
    -- the words
    refine ⟨by show 1 ≤ sizeLine; decide, fun t1 nt1 => ?_⟩
    have s3 := (s1.trans s2).trans (same_upd (o := .tup [V.str "@"]) nt1)
    have ht1 : SqT K (upd H2 t1 (.tup [V.str "@"])) t1 (([[64]] : List Wd).map sV) := SqT.mk (by rw [upd_same, s_at]; rfl)
    obtain ⟨C1, d1, a1, h1, h2, h3, h4⟩ := (hp.same s3).ex
    refine ⟨_, rfl, p, C1, d1, _, _, rfl, h1, h2, h3, words_look, a1, ws, [49], by rw [s_1], h4, hsh, by decide, ?_⟩
    intro pa H3 s4 npa hpa
    refine cat_words (Same.tup s4 ht1) (SqT.mk hpa) (by have := hsa.1; unfold appW at this; simp only [List.length_append, List.length_cons, List.length_nil] at this ⊢; omega) fun c1 H4 s5 hc1 => ?_
    have s6 := (s3.trans s4).trans s5
    obtain ⟨C2, d2, a2, g1, g2, g3, g4⟩ := (ho.same s6).ex
    refine ⟨_, rfl, o, C2, d2, _, _, rfl, g1, g2, g3, words_look, a2, xs, [50], by rw [s_2], g4, hsx, by decide, ?_⟩
    intro pb H5 s7 npb hpb
    refine cat_words (Same.tup s7 hc1) (SqT.mk hpb) (by have := hsa.1; unfold appW at this; simp only [List.length_append, List.length_cons, List.length_nil] at this ⊢; omega) fun c2 H6 s8 hc2 => ?_
    refine ⟨c2, appW ws xs, rfl, hc2, hsa, hnd, ?_⟩
    rintro _ H7 s9 ⟨t7, rfl, _, ht7⟩
    exact mk_raw T (SqT.mk ht7) hsa.std fun x H8 nx s10 hx => q x H8 ((((s6.trans s7).trans s8).trans s9).trans s10) hx
end
end K11

set_option Elab.async false
set_option linter.all false
set_option maxRecDepth 100000
set_option maxHeartbeats 4000000
namespace K11
open PySem PySem.Spec PyProof.Rows L2
/-! ### the pot -/
structure Pot where
  pot : Addr
  g : Addr
  s : Addr
structure PotAt (H : Hp) (p : Pot) : Prop where
  ex : ∃ (t u : Int) (gs ss : List Int), H p.pot = some (.lst [.ref p.g, .ref p.s, .int t, .int u]) ∧ H p.g = some (.lst (gs.map V.int)) ∧ H p.s = some (.lst (ss.map V.int)) ∧ ss ≠ []
  gs : p.g ≠ p.s
/-- all but the pot is as it was -/
def Kp (p : Pot) (H H' : Hp) : Prop := ∀ b o, H b = some o → b ≠ p.pot → b ≠ p.g → H' b = some o
theorem Kp.refl (p : Pot) (H : Hp) : Kp p H H := fun _ _ e _ _ => e
theorem Kp.trans {p : Pot} {H H1 H2 : Hp} (a : Kp p H H1) (b : Kp p H1 H2) : Kp p H H2 := fun c o e h1 h2 => b c o (a c o e h1 h2) h1 h2
theorem Same.kp {p : Pot} {H H' : Hp} (s : Same H H') : Kp p H H' := fun b o e _ _ => s b o e
theorem PotAt.same {p : Pot} {H H' : Hp} (h : PotAt H p) (s : Same H H') : PotAt H' p := by
  obtain ⟨t, u, gs, ss, h1, h2, h3, h4⟩ := h.ex
  exact ⟨⟨t, u, gs, ss, s _ _ h1, s _ _ h2, s _ _ h3, h4⟩, h.gs⟩
/-- an address of something else is none of the pot's -/
def Off (p : Pot) (a : Addr) : Prop := a ≠ p.pot ∧ a ≠ p.g
theorem PotAt.off {p : Pot} {H : Hp} {a : Addr} (h : PotAt H p) (n : H a = none) : Off p a := by
  obtain ⟨t, u, gs, ss, h1, h2, h3, h4⟩ := h.ex
  exact ⟨(ne_of_none h1 n).symm, (ne_of_none h2 n).symm⟩
theorem PotAt.free {p : Pot} {H H' : Hp} {a : Addr} (k : Kp p H H') (h' : PotAt H' p) (n : H' a = none) : H a = none := by
  cases e : H a with
  | none => rfl
  | some o =>
    have q := h'.off n
    rw [k a o e q.1 q.2] at n
    cases n
theorem ints_get {ns : List Int} {i : Nat} {x : V} (h : (ns.map V.int)[i]? = some x) : ∃ z, ns[i]? = some z ∧ x = V.int z := get_map h
section
variable {P : Program} {w : World} {K : PySem.W.Frag} {mg : Str → Option Value} {base : Heap}
def spPot (K : PySem.W.Frag) : Sp := fun vs H Q _ => ∃ (a : Addr) (ns : List Int), vs = [.ref a] ∧ SqL K H a (ns.map V.int) ∧ ns.length ≤ 63 ∧ ∀ (p : Pot) (H' : Hp), Same H H' → PotAt H' p → Q (.ref p.pot) H'
theorem c_pot {f : Addr} {fd : FuncData} (F : FnP K "_law_pot" s_law_pot f fd) (g : mg "_law_pot" = some (.ref f)) (G : Gb mg) : Cal P w K mg base 1 "_law_pot" (spPot K) := by
  have S : FnScope ["_law_script", "_law_cells", "_law_greats", "_law_smalls", "_law_item"] ["_law_script"] (defScope s_law_pot) := C8.fnScope_by (by decide +kernel)
  refine cal_of F g S (FunD.bindsN F fun _ _ _ _ _ _ us hl => match us, hl with | [_], _ => rfl) (fun vs H Q E ⟨_, _, e, _⟩ => by rw [e]; rfl) (fun cdv A outer s H vs Q E hr h => ?_)
  obtain ⟨a, ns, rfl, hS, hlen, q⟩ := h
  refine ⟨_, pss_cons (ps_setLc (i := 1) (own := [("_law_item", 4)]) (g := gName 4) (tt := tYes) rfl S.nd rfl rfl (sw_true rfl rfl rfl (by decide +kernel)) (pi_list (pe_slice sl_list (pv 0) po_none (po_some pe_int)))
      (blkOk_by (N := ["_law_script", "_law_cells", "_law_greats", "_law_smalls", "_law_item"]) (sc := defScope s_law_pot) (by decide +kernel)) (fun _ _ _ _ _ => pg_name (i := 4) S.nd rfl (Or.inl rfl)) (fun _ _ _ _ _ => pts_nil) (fun _ _ _ _ _ => pe_callTy call_int1 (by rfl) G.int (by decide +kernel) (pa_cons (pv 4) pa_nil)))
    (pss_cons (ps_setLc (i := 2) (own := [("_law_item", 4)]) (g := gName 4) rfl S.nd rfl rfl (sw_true rfl rfl rfl (by decide +kernel)) (pi_list (pv 1))
      (blkOk_by (N := ["_law_script", "_law_cells", "_law_greats", "_law_smalls", "_law_item"]) (sc := defScope s_law_pot) (by decide +kernel)) (fun _ _ _ _ _ => pg_name (i := 4) S.nd rfl (Or.inl rfl))
        (fun _ _ _ _ _ => pts_one (pt_cmpR op_ge (pe_callB call_abs (by rfl) G.abs (by decide +kernel) (pa_cons (pv 4) pa_nil)) (pe_op op_pow pe_int pe_int) (nomark _))) (fun _ _ _ _ _ => pe_callB call_abs (by rfl) G.abs (by decide +kernel) (pa_cons (pv 4) pa_nil)))
    (pss_cons (ps_set (i := 3) S.nd rfl (.inl rfl) (pe_op op_cat (pe_lc (own := [("_law_item", 4)]) (g := gName 4) rfl S.nd (pi_list (pv 1))
      (blkOk_by (N := ["_law_script", "_law_cells", "_law_greats", "_law_smalls", "_law_item"]) (sc := defScope s_law_pot) (by decide +kernel)) (fun _ _ _ _ _ => pg_name (i := 4) S.nd rfl (Or.inl rfl))
        (fun _ _ _ _ _ => pts_one (pt_cmpR op_lt (pe_callB call_abs (by rfl) G.abs (by decide +kernel) (pa_cons (pv 4) pa_nil)) (pe_op op_pow pe_int pe_int) (nomark _))) (fun _ _ _ _ _ => pe_op op_mod (pe_callTy call_int1 (by rfl) G.int (by decide +kernel) (pa_cons (pv 4) pa_nil)) pe_int))
      (pe_lst (pa_cons (pe_op op_add (pe_callB call_len_seq (by rfl) G.len PySem.boot_len (pa_cons (pv 1) pa_nil)) pe_int) pa_nil))))
    (pss_one (ps_ret (pe_lst (pa_cons (pv 2) (pa_cons (pv 3) (pa_cons pe_int (pa_cons (pe_op op_mod (pe_callTy call_int1 (by rfl) G.int (by decide +kernel) (pa_cons (pe_callB (cr_sum rfl) (by rfl) G.sum (by decide +kernel) (pa_cons (pv 3) pa_nil)) pa_nil)) pe_int) pa_nil))))))))), ?_⟩
  -- the cells
  refine ⟨_, rfl, 63, rfl, a, _, rfl, hS, fun c nc => ?_⟩
  obtain ⟨ms, hms, hml⟩ : ∃ ms : List Int, cutV (ns.map V.int) none (some 63) = ms.map V.int ∧ ms.length ≤ 63 := by
    refine ⟨(ns.drop (HT.sIx (ns.map V.int).length 0 none)).take (HT.sIx (ns.map V.int).length (ns.map V.int).length (some 63) - HT.sIx (ns.map V.int).length 0 none), ?_, ?_⟩
    · unfold cutV; rw [List.map_take, List.map_drop]
    · rw [List.length_take, List.length_drop]; omega
  rw [hms]
  have s1 : Same H (upd H c (.lst (ms.map V.int))) := same_upd nc
  have hc : (upd H c (.lst (ms.map V.int))) c = some (.lst (ms.map V.int)) := upd_same
  revert s1 hc
  generalize upd H c (.lst (ms.map V.int)) = H1
  intro s1 hc
  refine ⟨c, rfl, ⟨_, SqL.mk hc⟩, fun D hD => lc_it (walk_list (xs := ms.map V.int)) (fun i H2 => Same H1 H2 ∧ H2 D = some (.lst ((ms.take i).map V.int))) ⟨same_upd hD, by rw [List.take_zero]; exact upd_same⟩ (fun i H2 _ h => SqL.mk (h.1 _ _ hc)) ?_ ?_⟩
  · rintro i x H2 H3 hi ⟨s2, h2⟩ ⟨rfl, ex⟩
    obtain ⟨z, ez, rfl⟩ := ints_get ex
    refine ⟨rfl, ?_⟩
    refine ⟨_, rfl, .inl ⟨z, rfl, _, h2, line_lt (by rw [List.length_map, List.length_take]; omega), fun p o e => ?_, ?_⟩⟩
    · rw [upd_ne (ne_of_none e hD)]; exact s2 _ _ e
    · rw [upd_same, List.take_add_one, ez, List.map_append]; rfl
  · rintro H2 ⟨s2, h2⟩
    rw [List.length_map, List.take_length] at h2
    -- the greats
    refine ⟨.ref D, rfl, D, rfl, ⟨_, SqL.mk h2⟩, fun D2 hD2 => lc_it (walk_list (xs := ms.map V.int)) (fun i H3 => Same H2 H3 ∧ ∃ gs : List Int, gs.length ≤ i ∧ H3 D2 = some (.lst (gs.map V.int))) ⟨same_upd hD2, [], Nat.le_refl _, upd_same⟩ (fun i H3 _ h => SqL.mk (h.1 _ _ h2)) ?_ ?_⟩
    · rintro i x H3 H4 hi ⟨s3, gs, hgl, h3⟩ ⟨rfl, ex⟩
      obtain ⟨z, ez, rfl⟩ := ints_get ex
      rw [List.length_map] at hi
      refine ⟨rfl, ?_⟩
      refine ⟨_, rfl, z, rfl, _, _, rfl, rfl, ⟨by decide, by decide, by decide⟩, _, _, rfl, rfl, _, rfl, ite2 (fun _ => ?_) (fun _ => ⟨s3, gs, by omega, h3⟩)⟩
      refine ⟨_, rfl, z, rfl, _, h3, line_lt (by rw [List.length_map]; omega), fun p o e => ?_, gs ++ [if z < 0 then -z else z], ?_, ?_⟩
      · rw [upd_ne (ne_of_none e hD2)]; exact s3 _ _ e
      · rw [List.length_append, List.length_singleton]; omega
      · rw [upd_same, List.map_append]; rfl
    · rintro H3 ⟨s3, gs, hgl, h3⟩
      -- the smalls
      refine ⟨.ref D, rfl, D, rfl, ⟨_, SqL.mk (s3 _ _ h2)⟩, fun D3 hD3 => lc_it (walk_list (xs := ms.map V.int)) (fun i H4 => Same H3 H4 ∧ ∃ ss : List Int, ss.length ≤ i ∧ H4 D3 = some (.lst (ss.map V.int))) ⟨same_upd hD3, [], Nat.le_refl _, upd_same⟩ (fun i H4 _ h => SqL.mk (h.1 _ _ (s3 _ _ h2))) ?_ ?_⟩
      · rintro i x H4 H5 hi ⟨s4, ss, hsl, h4⟩ ⟨rfl, ex⟩
        obtain ⟨z, ez, rfl⟩ := ints_get ex
        rw [List.length_map] at hi
        refine ⟨rfl, ?_⟩
        refine ⟨_, rfl, z, rfl, _, _, rfl, rfl, ⟨by decide, by decide, by decide⟩, _, _, rfl, rfl, _, rfl, ite2 (fun _ => ?_) (fun _ => ⟨s4, ss, by omega, h4⟩)⟩
        refine ⟨_, rfl, .inl ⟨z, rfl, _, _, rfl, rfl, (by show (0 : Int) < 1000000007; decide), _, h4, line_lt (by rw [List.length_map]; omega), fun p o e => ?_, ss ++ [z % 1000000007], ?_, ?_⟩⟩
        · rw [upd_ne (ne_of_none e hD3)]; exact s4 _ _ e
        · rw [List.length_append, List.length_singleton]; omega
        · rw [upd_same, List.map_append]; rfl
      · rintro H4 ⟨s4, ss, hsl, h4⟩
        rw [List.length_map] at hsl hgl
        have hD4 := s4 _ _ (s3 _ _ h2)
        refine ⟨_, rfl, D, _, rfl, .inl (SqL.mk hD4), _, _, rfl, rfl, by show 1 ≤ sizeLine; decide, fun l nl => ?_⟩
        have s5 : Same H4 (upd H4 l (.lst [V.int (((ms.map V.int).length : Int) + 1)])) := same_upd nl
        refine ⟨D3, l, _, _, rfl, rfl, s5 _ _ h4, upd_same, line_ok (by rw [List.length_map]; simp only [List.length_cons, List.length_nil]; omega), fun sm nsm => ?_⟩
        have ev : ss.map V.int ++ [V.int (((ms.map V.int).length : Int) + 1)] = (ss ++ [((ms.map V.int).length : Int) + 1]).map V.int := by rw [List.map_append]; rfl
        rw [ev]
        have nsm : (upd H4 l (.lst [V.int (((ms.map V.int).length : Int) + 1)])) sm = none := nsm
        have s6 := s5.trans (same_upd (o := .lst ((ss ++ [(((ms.map V.int).length : Int) + 1)]).map V.int)) nsm)
        have hsm : (upd (upd H4 l (.lst [V.int (((ms.map V.int).length : Int) + 1)])) sm (.lst ((ss ++ [(((ms.map V.int).length : Int) + 1)]).map V.int))) sm = some (.lst ((ss ++ [(((ms.map V.int).length : Int) + 1)]).map V.int)) := upd_same
        have hD2' : (upd H4 l (.lst [V.int (((ms.map V.int).length : Int) + 1)])) D2 = some (.lst (gs.map V.int)) := s5 _ _ (s4 _ _ h3)
        have hne : D2 ≠ sm := ne_of_none hD2' nsm
        refine ⟨.ref D2, rfl, .ref sm, rfl, _, rfl, sm, ss ++ [(((ms.map V.int).length : Int) + 1)], rfl, SqL.mk hsm, .inl ⟨_, rfl, _, _, rfl, rfl, (by show (0 : Int) < 999983; decide), by show 4 ≤ sizeLine; decide, fun pt npt => ?_⟩⟩
        refine q ⟨pt, D2, sm⟩ _ (((((s1.trans s2).trans s3).trans s4).trans s6).trans (same_upd npt)) ⟨⟨0, _, gs, ss ++ [(((ms.map V.int).length : Int) + 1)], upd_same, ?_, ?_, by simp⟩, hne⟩
        · show (upd _ pt _) D2 = _
          rw [upd_ne (ne_of_none (s6 _ _ (s4 _ _ h3)) npt)]
          exact s6 _ _ (s4 _ _ h3)
        · show (upd _ pt _) sm = _
          rw [upd_ne (ne_of_none hsm npt)]
          exact hsm
end
end K11

set_option Elab.async false
set_option linter.all false
set_option maxRecDepth 100000
set_option maxHeartbeats 4000000
namespace K11
open PySem PySem.Spec PyProof.Rows L2
theorem fmod_small {a m : Int} (hm : 0 < m) : 0 ≤ a % m ∧ a % m < m := ⟨Int.emod_nonneg a (by omega), Int.emod_lt_of_pos a hm⟩
section
variable {P : Program} {w : World} {K : PySem.W.Frag} {mg : Str → Option Value} {base : Heap}
/-! ### _law_draw -/
def spDraw : Sp := fun vs H Q _ => ∃ (p : Pot) (many : Nat), vs = [.ref p.pot, nV many] ∧ PotAt H p ∧ 0 < many ∧ many ≤ 217180140000 ∧ ∀ (r : Nat) (H' : Hp), r < many → PotAt H' p → Kp p H H' → Q (nV r) H'
theorem c_draw {f : Addr} {fd : FuncData} (F : FnP K "_law_draw" s_law_draw f fd) (g : mg "_law_draw" = some (.ref f)) (G : Gb mg) : Cal P w K mg base 1 "_law_draw" spDraw := by
  have S : FnScope ["_law_pot_here", "_law_many", "_law_turn", "_law_number", "_law_seed"] ["_law_pot_here", "_law_many"] (defScope s_law_draw) := C8.fnScope_by (by decide +kernel)
  refine cal_of F g S (FunD.bindsN F fun _ _ _ _ _ _ us hl => match us, hl with | [_, _], _ => rfl) (fun vs H Q E ⟨_, _, e, _⟩ => by rw [e]; rfl) (fun cdv A outer s H vs Q E hr h => ?_)
  obtain ⟨p, many, rfl, hp, hm0, hm1, q⟩ := h
  obtain ⟨pt, pg, ps⟩ := p
  obtain ⟨⟨t, u, gs, ss, h1, h2, h3, h4⟩, hgs⟩ := hp
  have h1 : H pt = some (.lst [.ref pg, .ref ps, .int t, .int u]) := h1
  have h2 : H pg = some (.lst (gs.map V.int)) := h2
  have h3 : H ps = some (.lst (ss.map V.int)) := h3
  have hgs : pg ≠ ps := hgs
  refine ⟨_, pss_cons (ps_set (i := 2) S.nd rfl (.inl rfl) (pe_ix ix_list (pv 0) pe_int (fun _ _ => rfl)))
    (pss_cons (ps_asg (pe_op op_add (pv 2) pe_int) (pg_sub (pv 0) pe_int set_list))
    (pss_cons (ps_if (pt_cmpR op_gt (pe_callB call_len_seq (by rfl) G.len PySem.boot_len (pa_cons (pe_ix ix_list (pv 0) pe_int (fun _ _ => rfl)) pa_nil)) pe_int (nomark _))
      (pss_cons (ps_set (i := 3) S.nd rfl (.inl rfl) (pe_ix ix_list (pe_ix ix_list (pv 0) pe_int (fun _ _ => rfl)) pe_int (fun _ _ => rfl)))
      (pss_cons (ps_asg (pe_op op_fdivW (pv 3) (pv 1)) (pg_sub (pe_ix ix_list (pv 0) pe_int (fun _ _ => rfl)) pe_int set_list))
      (pss_cons (ps_if (pt_cmpR op_lt (pv 3) (pv 1) (nomark _)) (pss_one (ps_expr (pe_bm PySem.F.plainAttrs_list PySem.F.slot_list_pop PySem.F.type_list_pop mt_popAt (pe_ix ix_list (pv 0) pe_int (fun _ _ => rfl)) (pa_cons pe_int pa_nil)))) pss_nil)
      (pss_one (ps_ret (pe_op op_mod (pe_callTy call_int1 (by rfl) G.int (by decide +kernel) (pa_cons (pv 3) pa_nil)) (pv 1))))))) pss_nil)
    (pss_cons (ps_set (i := 4) S.nd rfl (.inl rfl) (pe_op op_add (pe_op op_add (pe_op op_mul (pe_ix ix_list (pe_ix ix_list (pv 0) pe_int (fun _ _ => rfl)) (pe_op op_mod (pe_callTy call_int1 (by rfl) G.int (by decide +kernel) (pa_cons (pv 2) pa_nil)) (pe_callB call_len_seq (by rfl) G.len PySem.boot_len (pa_cons (pe_ix ix_list (pv 0) pe_int (fun _ _ => rfl)) pa_nil))) (fun _ _ => rfl)) pe_int)
        (pe_op op_mul pe_int (pv 2))) (pe_op op_mul (pe_ix ix_list (pv 0) pe_int (fun _ _ => rfl)) pe_int)))
    (pss_cons (ps_set (i := 3) S.nd rfl (.inl rfl) (pe_op op_mod (pe_callTy call_int1 (by rfl) G.int (by decide +kernel) (pa_cons (pe_op op_add (pe_op op_mul (pv 4) pe_int) pe_int) pa_nil)) pe_int))
    (pss_cons (ps_set (i := 3) S.nd rfl (.inl rfl) (pe_op op_mod (pe_callTy call_int1 (by rfl) G.int (by decide +kernel) (pa_cons (pe_op op_mul (pv 3) (pe_op op_add (pe_op op_fdiv (pv 3) pe_int) pe_int)) pa_nil)) pe_int))
    (pss_cons (ps_set (i := 3) S.nd rfl (.inl rfl) (pe_op op_mod (pe_callTy call_int1 (by rfl) G.int (by decide +kernel) (pa_cons (pe_op op_add (pe_op op_mul (pv 3) (pe_op op_add (pe_op op_fdiv (pv 3) pe_int) pe_int)) (pv 2)) pa_nil)) pe_int))
    (pss_one (ps_ret (pe_op op_mod (pe_callTy call_int1 (by rfl) G.int (by decide +kernel) (pa_cons (pe_op op_fdiv (pv 3) pe_int) pa_nil)) (pv 1)))))))))), ?_⟩
  have hpos : (0 : Int) < (many : Int) := by omega
  have npg : pt ≠ pg := ne_of h1 h2 (by intro z; injection z with z; cases gs <;> cases z)
  have nps : pt ≠ ps := ne_of h1 h3 (by intro z; injection z with z; cases ss <;> cases z)
  -- the turn
  refine ⟨_, rfl, pt, _, _, .int t, rfl, rfl, SqL.mk h1, atI_nat (j := 2) rfl, ?_⟩
  refine ⟨_, rfl, _, _, rfl, rfl, .ref pt, rfl, pt, _, _, 2, rfl, rfl, h1, ixN_nat (by show 2 < 4; decide), ?_⟩
  have e1 : ([V.ref pg, .ref ps, .int t, .int u] : List V).set 2 (.int (t + 1)) = [.ref pg, .ref ps, .int (t + 1), .int u] := rfl
  show tSeq _ _ _ _ (upd H pt (.lst [.ref pg, .ref ps, .int (t + 1), .int u]))
  have g1 : (upd H pt (.lst [.ref pg, .ref ps, .int (t + 1), .int u])) pt = some (.lst [.ref pg, .ref ps, .int (t + 1), .int u]) := upd_same
  have g2 : (upd H pt (.lst [.ref pg, .ref ps, .int (t + 1), .int u])) pg = some (.lst (gs.map V.int)) := by rw [upd_ne npg.symm]; exact h2
  have g3 : (upd H pt (.lst [.ref pg, .ref ps, .int (t + 1), .int u])) ps = some (.lst (ss.map V.int)) := by rw [upd_ne nps.symm]; exact h3
  have kp : Kp ⟨pt, pg, ps⟩ H (upd H pt (.lst [.ref pg, .ref ps, .int (t + 1), .int u])) := fun b o e n1 _ => by rw [upd_ne n1]; exact e
  revert g1 g2 g3 kp
  generalize upd H pt (.lst [.ref pg, .ref ps, .int (t + 1), .int u]) = H1
  intro g1 g2 g3 kp
  have fin : ∀ (a : Int) (H' : Hp), PotAt H' ⟨pt, pg, ps⟩ → Kp ⟨pt, pg, ps⟩ H H' → Q (.int (a % (many : Int))) H' := fun a H' hp hk => by
    obtain ⟨b1, b2⟩ := fmod_small (a := a) hpos
    have e : a % (many : Int) = (((a % (many : Int)).toNat : Nat) : Int) := by omega
    rw [e]
    exact q _ H' (by omega) hp hk
  refine ⟨_, rfl, pt, _, _, .ref pg, rfl, rfl, SqL.mk g1, atI_nat (j := 0) rfl, pg, _, rfl, .inl (SqL.mk g2), _, _, rfl, rfl, _, rfl, ite2 (fun e => ?_) (fun _ => ?_)⟩
  · -- from the greats
    have hl : 0 < gs.length := by
      have := of_decide_eq_true e
      rw [List.length_map] at this; omega
    obtain ⟨x, gr, rfl⟩ : ∃ x r, gs = x :: r := by
      cases gs with
      | nil => simp at hl
      | cons x r => exact ⟨x, r, rfl⟩
    refine ⟨_, rfl, pt, _, _, .ref pg, rfl, rfl, SqL.mk g1, atI_nat (j := 0) rfl, pg, _, _, .int x, rfl, rfl, SqL.mk g2, atI_nat (j := 0) rfl, ?_⟩
    refine ⟨_, rfl, _, rfl, x, many, rfl, rfl, wide_div hpos (b := 64) (show many < 2 ^ 64 by omega) (by decide) (by decide), ?_⟩
    refine ⟨_, rfl, pt, _, _, .ref pg, rfl, rfl, SqL.mk g1, atI_nat (j := 0) rfl, pg, _, _, 0, rfl, rfl, g2, ixN_nat (by rw [List.length_map, List.length_cons]; omega), ?_⟩
    have e2 : ((x :: gr).map V.int).set 0 (V.int (x / (many : Int))) = ((x / (many : Int)) :: gr).map V.int := rfl
    show tSeq _ _ _ _ (upd H1 pg (.lst (((x / (many : Int)) :: gr).map V.int)))
    have k1 : (upd H1 pg (.lst (((x / (many : Int)) :: gr).map V.int))) pt = some (.lst [.ref pg, .ref ps, .int (t + 1), .int u]) := by rw [upd_ne npg]; exact g1
    have k2 : (upd H1 pg (.lst (((x / (many : Int)) :: gr).map V.int))) pg = some (.lst (((x / (many : Int)) :: gr).map V.int)) := upd_same
    have k3 : (upd H1 pg (.lst (((x / (many : Int)) :: gr).map V.int))) ps = some (.lst (ss.map V.int)) := by rw [upd_ne hgs.symm]; exact g3
    have kk : Kp ⟨pt, pg, ps⟩ H (upd H1 pg (.lst (((x / (many : Int)) :: gr).map V.int))) := fun b o e n1 n2 => by rw [upd_ne n2]; exact kp b o e n1 n2
    revert k1 k2 k3 kk
    generalize upd H1 pg (.lst (((x / (many : Int)) :: gr).map V.int)) = H2
    intro k1 k2 k3 kk
    refine ⟨_, rfl, _, rfl, x, many, rfl, rfl, _, rfl, ite2 (fun _ => ?_) (fun _ => ?_)⟩
    · refine ⟨_, rfl, pt, _, _, .ref pg, rfl, rfl, SqL.mk k1, atI_nat (j := 0) rfl, .inl ⟨rfl, _, SqL.mk k2⟩, pg, _, 0, 0, .int (x / (many : Int)), rfl, rfl, k2, by decide, by decide, ?_, rfl, ?_⟩
      · rw [List.length_map, List.length_cons]
        unfold seqIndex?
        simp <;> omega
      · refine ⟨_, rfl, .inl ⟨x, rfl, _, rfl, _, _, rfl, rfl, hpos, ?_⟩⟩
        refine fin x _ ⟨⟨t + 1, u, gr, ss, ?_, upd_same, ?_, h4⟩, hgs⟩ fun b o e n1 n2 => by rw [upd_ne n2]; exact kk b o e n1 n2
        · show (upd H2 pg _) pt = _
          rw [upd_ne npg]; exact k1
        · show (upd H2 pg _) ps = _
          rw [upd_ne hgs.symm]; exact k3
    · refine ⟨_, rfl, .inl ⟨x, rfl, _, rfl, _, _, rfl, rfl, hpos, ?_⟩⟩
      exact fin x _ ⟨⟨t + 1, u, _, ss, k1, k2, k3, h4⟩, hgs⟩ kk
  · -- from the smalls
    have hsl : 0 < ss.length := List.length_pos_iff.mpr h4
    obtain ⟨b1, b2⟩ := fmod_small (a := t) (show (0 : Int) < ((ss.map V.int).length : Nat) by rw [List.length_map]; omega)
    obtain ⟨k, hk, hkl⟩ : ∃ k : Nat, t % ((ss.map V.int).length : Nat) = (k : Int) ∧ k < ss.length := by
      refine ⟨(t % ((ss.map V.int).length : Nat)).toNat, by omega, ?_⟩
      have : ((ss.map V.int).length : Nat) = ss.length := List.length_map ..
      omega
    have hget : (ss.map V.int)[k]? = some (V.int ss[k]) := map_get (List.getElem?_eq_getElem hkl)
    generalize ss[k] = y at hget
    refine ⟨_, rfl, pt, _, _, .ref ps, rfl, rfl, SqL.mk g1, atI_nat (j := 1) rfl, ?_⟩
    refine ⟨_, rfl, .inl ⟨t, rfl, _, rfl, pt, _, _, .ref ps, rfl, rfl, SqL.mk g1, atI_nat (j := 1) rfl, ps, _, rfl, .inl (SqL.mk g3), _, _, rfl, rfl, by rw [List.length_map]; omega, ?_⟩⟩
    refine ⟨ps, _, _, .int y, rfl, rfl, SqL.mk g3, ?_, ?_⟩
    · rw [hk]; exact atI_nat hget
    · refine ⟨y, 7919, rfl, rfl, .inr ⟨by decide, by decide⟩, ?_⟩
      refine ⟨_, rfl, 104729, t, rfl, rfl, .inl ⟨by decide, by decide⟩, _, _, rfl, rfl, ?_⟩
      refine ⟨_, rfl, pt, _, _, .int u, rfl, rfl, SqL.mk g1, atI_nat (j := 3) rfl, u, 31, rfl, rfl, .inr ⟨by decide, by decide⟩, _, _, rfl, rfl, ?_⟩
      show tSeq _ _ _ (List.set _ 4 (some (V.int (y * 7919 + 104729 * t + u * 31)))) _
      generalize y * 7919 + 104729 * t + u * 31 = sd
      -- the first number
      refine ⟨_, rfl, sd, 48271, rfl, rfl, .inr ⟨by decide, by decide⟩, _, _, rfl, rfl, .inl ⟨_, rfl, _, _, rfl, rfl, (by show (0 : Int) < 2147483647; decide), ?_⟩⟩
      show tSeq _ _ _ (List.set _ 3 (some (V.int ((sd * 48271 + 11) % 2147483647)))) _
      obtain ⟨c1, c2⟩ := fmod_small (a := sd * 48271 + 11) (show (0 : Int) < 2147483647 by decide)
      generalize (sd * 48271 + 11) % 2147483647 = n1 at c1 c2
      refine ⟨_, rfl, _, rfl, _, _, rfl, rfl, ⟨by decide, by decide⟩, _, _, rfl, rfl, n1, _, rfl, rfl, .inl ⟨by omega, by omega⟩, .inl ⟨_, rfl, _, _, rfl, rfl, (by show (0 : Int) < 2147483629; decide), ?_⟩⟩
      show tSeq _ _ _ (List.set _ 3 (some (V.int ((n1 * (n1 / 1009 + 69621)) % 2147483629)))) _
      obtain ⟨c3, c4⟩ := fmod_small (a := n1 * (n1 / 1009 + 69621)) (show (0 : Int) < 2147483629 by decide)
      generalize (n1 * (n1 / 1009 + 69621)) % 2147483629 = n2 at c3 c4
      refine ⟨_, rfl, _, rfl, _, _, rfl, rfl, ⟨by decide, by decide⟩, _, _, rfl, rfl, n2, _, rfl, rfl, .inl ⟨by omega, by omega⟩, _, rfl, _, _, rfl, rfl, .inl ⟨_, rfl, _, _, rfl, rfl, (by show (0 : Int) < 2147483399; decide), ?_⟩⟩
      refine ⟨_, rfl, _, _, rfl, rfl, ⟨by decide, by decide⟩, .inl ⟨_, rfl, _, rfl, _, _, rfl, rfl, hpos, ?_⟩⟩
      exact fin _ _ ⟨⟨t + 1, u, gs, ss, g1, g2, g3, h4⟩, hgs⟩ kp
end
end K11

set_option Elab.async false
set_option linter.all false
set_option maxRecDepth 100000
set_option maxHeartbeats 4000000
namespace K11
open PySem PySem.Spec PyProof.Rows L2
theorem inV_words (x : Wd) : ∀ ns : List Wd, inV (sV x) (ns.map sV) = decide (x ∈ ns)
  | [] => rfl
  | n :: ns => by
    have ih := inV_words x ns
    show (eqV (sV n) (sV x) || inV (sV x) (ns.map sV)) = _
    rw [ih]
    have e : eqV (sV n) (sV x) = decide (x = n) := by
      show (sW n == sW x) = _
      by_cases h : x = n
      · subst h; rw [decide_eq_true rfl]; exact beq_self_eq_true _
      · rw [decide_eq_false h]; exact beq_eq_false_iff_ne.mpr fun z => h (sW_inj z).symm
    rw [e]
    by_cases h : x = n
    · subst h; rw [decide_eq_true rfl]; exact (decide_eq_true (List.mem_cons_self ..)).symm
    · rw [decide_eq_false h, Bool.false_or]
      by_cases h2 : x ∈ ns
      · rw [decide_eq_true h2]; exact (decide_eq_true (List.mem_cons_of_mem _ h2)).symm
      · rw [decide_eq_false h2]; exact (decide_eq_false fun z => (List.mem_cons.mp z).elim h h2).symm
theorem flat_words : ∀ ns : List Wd, (ns.map sV).all flatV = true
  | [] => rfl
  | n :: ns => by rw [List.map_cons, List.all_cons, flat_words ns]; rfl
section
variable {P : Program} {w : World} {K : PySem.W.Frag} {mg : Str → Option Value} {base : Heap}
/-! ### _law_letters -/
def spLLet : Sp := fun vs H Q _ => ∃ n : Nat, vs = [nV n] ∧ n < 217180147158 ∧ Q (sV (letters n)) H
theorem c_lletters {f : Addr} {fd : FuncData} (F : FnP K "_law_letters" s_law_letters f fd) (g : mg "_law_letters" = some (.ref f)) (G : Gb mg) : Cal P w K mg base 1 "_law_letters" spLLet := by
  have S : FnScope ["_law_number", "_law_found", "_law_left", "_law_turn"] ["_law_number"] (defScope s_law_letters) := C8.fnScope_by (by decide +kernel)
  refine cal_of F g S (FunD.bindsN F fun _ _ _ _ _ _ us hl => match us, hl with | [_], _ => rfl) (fun vs H Q E ⟨_, e, _⟩ => by rw [e]; rfl) (fun cdv A outer s H vs Q E hr h => ?_)
  obtain ⟨n, rfl, hn, q⟩ := h
  refine ⟨_, pss_cons (ps_set (i := 1) S.nd rfl (.inl rfl) pe_str) (pss_cons (ps_set (i := 2) S.nd rfl (.inl rfl) (pe_op op_add (pv 0) pe_int))
    (pss_cons (ps_for PassesOwn.never rfl (pi_range1 (by rfl) G.range (pa_cons pe_int pa_nil)) (pg_name (i := 3) S.nd rfl (.inl rfl))
      (pss_one (ps_if (pt_cmpR op_gt (pv 2) pe_int (nomark _))
        (pss_cons (ps_set (i := 2) S.nd rfl (.inl rfl) (pe_op op_sub (pv 2) pe_int))
        (pss_cons (ps_set (i := 1) S.nd rfl (.inl rfl) (pe_op op_add_str (pe_ix ix_str pe_str (pe_op op_mod (pe_callTy call_int1 (by rfl) G.int (by decide +kernel) (pa_cons (pv 2) pa_nil)) pe_int) (fun _ _ => rfl)) (pv 1)))
        (pss_one (ps_set (i := 2) S.nd rfl (.inl rfl) (pe_op op_fdiv (pv 2) pe_int))))) pss_nil)))
    (pss_one (ps_ret (pv 1))))), ?_⟩
  refine ⟨_, rfl, _, _, rfl, rfl, 9, rfl, by decide, by decide, for_range (n := 9) (fun i σ H' => H' = H ∧ ∃ (m : Nat) (acc : Wd) (y : Option V), σ = [some (nV n), some (sV acc), some (nV m), y] ∧ lett m acc = letters n ∧ m < 26 ^ (9 - i) ∧ acc.length ≤ i)
    ⟨rfl, n + 1, [], none, rfl, rfl, ?_, Nat.le_refl _⟩ ?_ ?_⟩
  · have : 26 ^ (9 - 0) = 5429503678976 := by decide
    rw [this]; omega
  · rintro i σ H' hi ⟨rfl, m, acc, y, rfl, hl, hm, ha⟩
    refine ⟨_, rfl, _, _, rfl, rfl, _, rfl, ?_⟩
    cases m with
    | zero =>
      refine ite2 (fun e => absurd (of_decide_eq_true e) (by decide)) (fun _ => ?_)
      exact ⟨rfl, 0, acc, _, rfl, hl, Nat.pos_of_ne_zero (by have := Nat.pow_pos (n := 9 - (i + 1)) (show 0 < 26 by decide); omega), by omega⟩
    | succ m =>
      show if decide ((0 : Int) < ((m + 1 : Nat) : Int)) = true then _ else _
      rw [decide_eq_true (show (0 : Int) < ((m + 1 : Nat) : Int) by omega)]
      have e1 : (((m + 1 : Nat) : Int) - 1) = (m : Int) := by omega
      refine ⟨_, rfl, _, _, rfl, rfl, ?_⟩
      show tSeq _ _ _ [some (nV n), some (sV acc), some (V.int (((m + 1 : Nat) : Int) - 1)), _] _
      rw [e1]
      have e2 : ((m : Int) % 26) = ((m % 26 : Nat) : Int) := by omega
      refine ⟨_, rfl, .inl ⟨_, rfl, _, _, rfl, rfl, (by show (0 : Int) < 26; decide), _, _, 97 + m % 26, rfl, rfl, by decide, ?_, ?_⟩⟩
      · show atI _ ((m : Int) % 26) = _
        rw [e2]
        exact abc_at (Nat.mod_lt _ (by decide))
      · refine ⟨_, rfl, sW [97 + m % 26], sW acc, rfl, rfl, ?_, ?_⟩
        · rw [sW_len, sW_len]
          exact line_ok (by simp only [List.length_cons, List.length_nil]; omega)
        · rw [sW_app]
          refine ⟨_, rfl, _, _, rfl, rfl, ⟨by decide, by decide⟩, rfl, m / 26, (97 + m % 26) :: acc, some (V.int (0 + (i : Int))), ?_, ?_, ?_, ?_⟩
          · have e3 : ((m : Int) / 26) = ((m / 26 : Nat) : Int) := by omega
            exact congrArg (fun z => [some (nV n), some (sV ((97 + m % 26) :: acc)), some (V.int z), some (V.int (0 + (i : Int)))]) e3
          · rw [← lett_succ]; exact hl
          · have e4 : 9 - i = (9 - (i + 1)) + 1 := by omega
            rw [e4, Nat.pow_succ] at hm
            omega
          · simp only [List.length_cons]; omega
  · rintro σ H' ⟨rfl, m, acc, y, rfl, hl, hm, _⟩
    have : m = 0 := by have : 26 ^ (9 - 9) = 1 := rfl
                       omega
    subst this
    rw [lett_zero] at hl
    refine ⟨_, rfl, ?_⟩
    rw [hl]
    exact q
/-! ### _law_fresh -/
def Kpu (p : Pot) (u : Addr) (H H' : Hp) : Prop := ∀ b o, H b = some o → b ≠ p.pot → b ≠ p.g → b ≠ u → H' b = some o
def spFresh : Sp := fun vs H Q _ => ∃ (p : Pot) (u : Addr) (ns : List Wd), vs = [.ref p.pot, .ref u] ∧ PotAt H p ∧ H u = some (.lst (ns.map sV)) ∧ Off p u ∧ ns.length ≤ 1000 ∧
  ∀ (x : Wd) (H' : Hp), x ∉ ns → isLet x = true → PotAt H' p → H' u = some (.lst ((ns ++ [x]).map sV)) → Kpu p u H H' → Q (sV x) H'
theorem c_fresh {f : Addr} {fd : FuncData} (F : FnP K "_law_fresh" s_law_fresh f fd) (g : mg "_law_fresh" = some (.ref f)) (G : Gb mg) (Cd : Cal P w K mg base 1 "_law_draw" spDraw) (Cl : Cal P w K mg base 1 "_law_letters" spLLet) : Cal P w K mg base 2 "_law_fresh" spFresh := by
  have S : FnScope ["_law_pot_here", "_law_used", "_law_start", "_law_name", "_law_turn"] ["_law_pot_here", "_law_used"] (defScope s_law_fresh) := C8.fnScope_by (by decide +kernel)
  refine cal_of F g S (FunD.bindsN F fun _ _ _ _ _ _ us hl => match us, hl with | [_, _], _ => rfl) (fun vs H Q E ⟨_, _, _, e, _⟩ => by rw [e]; rfl) (fun cdv A outer s H vs Q E hr h => ?_)
  obtain ⟨p, u, ns, rfl, hp, hu, ho, hl, q⟩ := h
  refine ⟨_, pss_cons (ps_set (i := 2) S.nd rfl (.inl rfl) (pe_c Cd hr (by decide) (by rfl) (pa_cons (pv 0) (pa_cons pe_int pa_nil))))
    (pss_cons (ps_if (pt_cmpR op_eq (pe_c Cd hr (by decide) (by rfl) (pa_cons (pv 0) (pa_cons pe_int pa_nil))) pe_int (nomark _)) (pss_one (ps_set (i := 2) S.nd rfl (.inl rfl) (pe_c Cd hr (by decide) (by rfl) (pa_cons (pv 0) (pa_cons pe_int pa_nil))))) pss_nil)
    (pss_cons (ps_set (i := 3) S.nd rfl (.inl rfl) pe_str)
    (pss_cons (ps_for PassesOwn.never rfl (pi_range1 (by rfl) G.range (pa_cons (pe_op op_add (pe_callB call_len_seq (by rfl) G.len PySem.boot_len (pa_cons (pv 1) pa_nil)) pe_int) pa_nil)) (pg_name (i := 4) S.nd rfl (.inl rfl))
      (pss_cons (ps_set (i := 3) S.nd rfl (.inl rfl) (pe_c Cl hr (by decide) (by rfl) (pa_cons (pe_op op_add (pv 2) (pv 4)) pa_nil)))
      (pss_one (ps_if (pt_cmpR op_notIn_seq (pv 3) (pv 1) (by rfl)) (pss_one ps_break) pss_nil))))
    (pss_cons (ps_expr (pe_bm PySem.F.plainAttrs_list PySem.F.slot_list_append PySem.F.type_list_append mt_append (pv 1) (pa_cons (pv 3) pa_nil)))
    (pss_one (ps_ret (pv 3))))))), ?_⟩
  refine ⟨_, rfl, p, 30, rfl, hp, by decide, by decide, fun r0 H1 hr0 hp1 k1 => ?_⟩
  refine ⟨_, rfl, p, 2, rfl, hp1, by decide, by decide, fun r1 H2 hr1 hp2 k2 => ⟨rfl, _, rfl, ?_⟩⟩
  -- from here on: some start
  have go : ∀ (st : Nat) (H3 : Hp), st < 217180140000 → PotAt H3 p → Kp p H H3 → tSeq (tAsg (tC (.str "")) (gName 3)) (tSeq (tFor (iRng1 (tCons (tOp (rI0 fun i j => V.int (i + j)) (tCB (fun xs H Q => ∃ p ys, xs = [.ref p] ∧ (SqL K H p ys ∨ SqT K H p ys) ∧ Q (.int ys.length) H) (tCons (tVar 1) tNil)) (tC (.int 1))) tNil)) (gName 4)
      (tSeq (tAsg (tCl spLLet (tCons (tOp (rI0 fun i j => V.int (i + j)) (tVar 2) (tVar 4)) tNil)) (gName 3)) (tIfS (tTest (tOp (rIn K true) (tVar 3) (tVar 1))) tBreak tNext)))
      (tSeq (tDrop (tBM K "list" rAppend (tVar 1) (tCons (tVar 3) tNil))) (tRet (tVar 3)))) { nx := fun _ H' => Q .non H', rt := Q } [some (.ref p.pot), some (.ref u), some (nV st), none, none] H3 := by
    intro st H3 hst hp3 k3
    have hu3 : H3 u = some (.lst (ns.map sV)) := k3 _ _ hu ho.1 ho.2
    refine ⟨.ref u, rfl, u, _, rfl, .inl (SqL.mk hu3), _, _, rfl, rfl, _, rfl, by omega, by rw [List.length_map]; omega, ?_⟩
    have en : (((ns.map sV).length : Int) + 1).toNat = ns.length + 1 := by rw [List.length_map]; omega
    rw [en]
    refine for_range (fun i σ H' => H' = H3 ∧ ∃ y3 y4, σ = [some (.ref p.pot), some (.ref u), some (nV st), y3, y4] ∧ ∀ j, j < i → letters (st + j) ∈ ns) ⟨rfl, _, _, rfl, fun j hj => by omega⟩ ?_ ?_
    · rintro i σ H' hi ⟨rfl, y3, y4, rfl, hall⟩
      refine ⟨_, rfl, _, rfl, _, _, rfl, rfl, st + i, ?_, by omega, ?_⟩
      · show [V.int ((st : Int) + (0 + (i : Int)))] = [nV (st + i)]
        rw [show ((st : Int) + (0 + (i : Int))) = ((st + i : Nat) : Int) by omega]
      · refine ⟨_, rfl, _, rfl, u, _, rfl, .inl (SqL.mk hu3), rfl, flat_words ns, _, rfl, ?_⟩
        show if (!inV (sV (letters (st + i))) (ns.map sV)) = true then _ else _
        rw [inV_words]
        by_cases hin : letters (st + i) ∈ ns
        · rw [decide_eq_true hin]
          refine ⟨rfl, _, _, rfl, fun j hj => ?_⟩
          by_cases e : j = i
          · subst e; exact hin
          · exact hall j (by omega)
        · rw [decide_eq_false hin]
          refine ⟨_, rfl, .inl ⟨rfl, _, SqL.mk hu3⟩, _, rfl, u, _, _, rfl, rfl, hu3, line_lt (by rw [List.length_map]; omega), _, rfl, ?_⟩
          refine q _ _ hin (letters_isLet (by omega)) ?_ ?_ fun b o e n1 n2 n3 => ?_
          · obtain ⟨t, u0, gs, ss, h1, h2, h3, h4⟩ := hp3.ex
            refine ⟨⟨t, u0, gs, ss, ?_, ?_, ?_, h4⟩, hp3.gs⟩
            · rw [upd_ne ho.1.symm]; exact h1
            · rw [upd_ne ho.2.symm]; exact h2
            · have : p.s ≠ u := ne_of h3 hu3 (by
                intro z
                injection z with z
                cases ss with
                | nil => exact h4 rfl
                | cons x r => cases ns <;> cases z)
              rw [upd_ne this]; exact h3
          · rw [upd_same, List.map_append]; rfl
          · rw [upd_ne n3]; exact k3 b o e n1 n2
    · rintro σ H' ⟨rfl, y3, y4, rfl, hall⟩
      exact (pigeon ns st fun j hj => hall j (by omega)).elim
  refine ite2 (fun _ => ?_) (fun _ => ?_)
  · refine ⟨_, rfl, p, 217180140000, rfl, hp2, by decide, by decide, fun r2 H3 hr2 hp3 k3 => ?_⟩
    exact go r2 H3 hr2 hp3 ((k1.trans k2).trans k3)
  · exact go r0 H2 (by omega) hp2 (k1.trans k2)
/-! ### _law_mixed -/
def spMixed (K : PySem.W.Frag) : Sp := fun vs H Q _ => ∃ (p : Pot) (u : Addr) (ns : List Wd), vs = [.ref p.pot, .ref u] ∧ PotAt H p ∧ SqL K H u (ns.map sV) ∧ ns.length ≤ 1000 ∧
  ∀ (l : Addr) (ms : List Wd) (H' : Hp), ms.Perm ns → PotAt H' p → H l = none → Off p l → H' l = some (.lst (ms.map sV)) → Kp p H H' → Q (.ref l) H'
theorem c_mixed {f : Addr} {fd : FuncData} (F : FnP K "_law_mixed" s_law_mixed f fd) (g : mg "_law_mixed" = some (.ref f)) (G : Gb mg) (Cd : Cal P w K mg base 1 "_law_draw" spDraw) : Cal P w K mg base 2 "_law_mixed" (spMixed K) := by
  have S : FnScope ["_law_pot_here", "_law_items", "_law_line", "_law_at", "_law_other"] ["_law_pot_here", "_law_items"] (defScope s_law_mixed) := C8.fnScope_by (by decide +kernel)
  refine cal_of F g S (FunD.bindsN F fun _ _ _ _ _ _ us hl => match us, hl with | [_, _], _ => rfl) (fun vs H Q E ⟨_, _, _, e, _⟩ => by rw [e]; rfl) (fun cdv A outer s H vs Q E hr h => ?_)
  obtain ⟨p, u, ns, rfl, hp, hu, hl, q⟩ := h
  refine ⟨_, pss_cons (ps_set (i := 2) S.nd rfl (.inl rfl) (pe_callTy call_list_of (by rfl) G.list (by decide +kernel) (pa_cons (pv 1) pa_nil)))
    (pss_cons (ps_for PassesOwn.never rfl (pi_range1 (by rfl) G.range (pa_cons (pe_callB call_len_seq (by rfl) G.len PySem.boot_len (pa_cons (pv 2) pa_nil)) pa_nil)) (pg_name (i := 3) S.nd rfl (.inl rfl))
      (pss_cons (ps_set (i := 4) S.nd rfl (.inl rfl) (pe_c Cd hr (by decide) (by rfl) (pa_cons (pv 0) (pa_cons (pe_callB call_len_seq (by rfl) G.len PySem.boot_len (pa_cons (pv 2) pa_nil)) pa_nil))))
      (pss_one (ps_asg (pe_tup (pa_cons (pe_ix ix_list (pv 2) (pv 4) (fun _ _ => rfl)) (pa_cons (pe_ix ix_list (pv 2) (pv 3) (fun _ _ => rfl)) pa_nil)))
        (pg_tup rfl (pgs_cons (pg_sub (pv 2) (pv 3) set_list) (pgs_cons (pg_sub (pv 2) (pv 4) set_list) pgs_nil)))))))
    (pss_one (ps_ret (pv 2)))), ?_⟩
  refine ⟨_, rfl, u, _, rfl, .inl hu, fun l nl => ?_⟩
  have s1 : Same H (upd H l (.lst (ns.map sV))) := same_upd nl
  have ol := hp.off nl
  refine ⟨_, rfl, l, _, rfl, .inl (SqL.mk upd_same), _, rfl, by omega, by rw [List.length_map]; omega, ?_⟩
  have en : ((ns.map sV).length : Int).toNat = ns.length := by rw [List.length_map]; omega
  rw [en]
  refine for_range (fun i σ H' => ∃ (ms : List Wd) (y3 y4 : Option V), σ = [some (.ref p.pot), some (.ref u), some (.ref l), y3, y4] ∧ ms.Perm ns ∧ PotAt H' p ∧ H' l = some (.lst (ms.map sV)) ∧ Kp p H H')
    ⟨ns, none, none, rfl, List.Perm.refl _, hp.same s1, upd_same, Same.kp s1⟩ ?_ ?_
  · rintro i σ H1 hi ⟨ms, y3, y4, rfl, hpm, hp1, h1, k1⟩
    have hml : ms.length = ns.length := hpm.length_eq
    refine ⟨_, rfl, _, rfl, l, _, rfl, .inl (SqL.mk h1), p, (ms.map sV).length, rfl, hp1, by rw [List.length_map]; omega, by rw [List.length_map]; omega, fun r H2 hr2 hp2 k2 => ?_⟩
    have hr2 : r < ms.length := by rw [List.length_map] at hr2; exact hr2
    have hi2 : i < ms.length := by omega
    have h2 : H2 l = some (.lst (ms.map sV)) := k2 _ _ h1 ol.1 ol.2
    have gr : (ms.map sV)[r]? = some (sV ms[r]) := map_get (List.getElem?_eq_getElem hr2)
    have gi : (ms.map sV)[i]? = some (sV ms[i]) := map_get (List.getElem?_eq_getElem hi2)
    have ei : (0 + (i : Int)) = (i : Int) := by omega
    refine ⟨.ref l, rfl, _, rfl, l, _, _, _, rfl, rfl, SqL.mk h2, atI_nat gr, .ref l, rfl, _, rfl, l, _, _, _, rfl, rfl, SqL.mk h2, (by rw [ei]; exact atI_nat gi), by show 2 ≤ sizeLine; decide, fun t nt => ?_⟩
    have nlt : l ≠ t := ne_of_none h2 nt
    have h3 : (upd H2 t (.tup [sV ms[r], sV ms[i]])) l = some (.lst (ms.map sV)) := by rw [upd_ne nlt]; exact h2
    refine ⟨t, _, rfl, SqT.mk upd_same, rfl, _, _, rfl, .ref l, rfl, _, rfl, l, _, _, i, rfl, rfl, h3, (by rw [ei]; exact ixN_nat (by rw [List.length_map]; exact hi2)), _, _, rfl, .ref l, rfl, _, rfl, l, _, _, r, rfl, rfl, upd_same, ixN_nat (by rw [List.length_set, List.length_map]; exact hr2), rfl, ?_⟩
    refine ⟨(ms.set i ms[r]).set r ms[i], _, _, rfl, ?_, ?_, ?_, fun b o e n1 n2 => ?_⟩
    · exact (List.set_set_perm hi2 hr2).trans hpm
    · have hp3 := hp2.same (same_upd (o := .tup [sV ms[r], sV ms[i]]) nt)
      obtain ⟨tt, u0, gs, ss, a1, a2, a3, a4⟩ := hp3.ex
      have a5 : p.s ≠ l := ne_of a3 h3 (by
        intro z
        injection z with z
        cases ss with
        | nil => exact a4 rfl
        | cons x r => cases ms <;> cases z)
      refine ⟨⟨tt, u0, gs, ss, ?_, ?_, ?_, a4⟩, hp3.gs⟩
      · rw [upd_ne ol.1.symm, upd_ne ol.1.symm]; exact a1
      · rw [upd_ne ol.2.symm, upd_ne ol.2.symm]; exact a2
      · rw [upd_ne a5, upd_ne a5]; exact a3
    · rw [upd_same, List.map_set, List.map_set]
    · by_cases eb : b = l
      · rw [eb, nl] at e; cases e
      · rw [upd_ne eb, upd_ne eb, upd_ne (ne_of_none ((k1.trans k2) b o e n1 n2) nt)]
        exact (k1.trans k2) b o e n1 n2
  · rintro σ H1 ⟨ms, y3, y4, rfl, hpm, hp1, h1, k1⟩
    exact ⟨_, rfl, q l ms H1 hpm hp1 nl ol h1 k1⟩
end
end K11

set_option Elab.async false
set_option linter.all false
set_option maxRecDepth 100000
set_option maxHeartbeats 4000000
namespace K11
open PySem PySem.Spec PyProof.Rows L2
section
variable {P : Program} {w : World} {K : PySem.W.Frag} {mg : Str → Option Value} {base : Heap}
/-! ### _law_ends -/
theorem c_law_ends {f : Addr} {fd : FuncData} (F : FnP K "_law_ends" s_law_ends f fd) (g : mg "_law_ends" = some (.ref f)) (G : Gb mg) : Cal P w K mg base 1 "_law_ends" (spT K Bal (rTupN endsOf)) := by
  have S : FnScope ["_law_words", "_law_found", "_law_whole", "_law_place", "_law_end", "_law_turn"] ["_law_words"] (defScope s_law_ends) := C8.fnScope_by (by decide +kernel)
  refine cal_of F g S (FunD.bindsN F fun _ _ _ _ _ _ us hl => match us, hl with | [_], _ => rfl) spT_len (fun cdv A outer s H vs Q E hr h => ?_)
  obtain ⟨a, ws, rfl, hS, hsh, hb, q⟩ := h
  refine ⟨_, pss_cons (ps_set (i := 1) S.nd rfl (.inl rfl) (pe_op op_rep (pe_lst (pa_cons pe_int pa_nil)) (pe_callB call_len_seq (by rfl) G.len PySem.boot_len (pa_cons (pv 0) pa_nil))))
    (pss_cons (ps_set (i := 2) S.nd rfl (.inl rfl) (pe_lst pa_nil))
    (pss_cons (ps_for PassesOwn.never rfl (pi_range3 (by rfl) G.range (pa_cons (pe_op op_sub (pe_callB call_len_seq (by rfl) G.len PySem.boot_len (pa_cons (pv 0) pa_nil)) pe_int) (pa_cons (pe_un un_neg pe_int) (pa_cons (pe_un un_neg pe_int) pa_nil)))) (pg_name (i := 3) S.nd rfl (.inl rfl))
      (pss_cons (ps_set (i := 4) S.nd rfl (.inl rfl) (pe_op op_add (pv 3) pe_int))
      (pss_cons (ps_for PassesOwn.never rfl (pi_range1 (by rfl) G.range (pa_cons (pe_ifExp (pt_cmpR op_eq (pe_ix ix_tup (pv 0) (pv 3) (fun _ _ => rfl)) pe_str (nomark _)) pe_int (pe_callTy call_int1 (by rfl) G.int (by decide +kernel) (pa_cons (pe_cmpR op_eq (pe_slice sl_str (pe_ix ix_tup (pv 0) (pv 3) (fun _ _ => rfl)) po_none (po_some pe_int)) pe_str (nomark _)) pa_nil))) pa_nil)) (pg_name (i := 5) S.nd rfl (.inl rfl))
        (pss_one (ps_set (i := 4) S.nd rfl (.inl rfl) (pe_bm0 PySem.F.plainAttrs_list PySem.F.slot_list_pop PySem.F.type_list_pop mt_pop (pv 2)))))
      (pss_cons (ps_asg (pv 4) (pg_sub (pv 1) (pv 3) set_list))
      (pss_one (ps_expr (pe_bm PySem.F.plainAttrs_list PySem.F.slot_list_append PySem.F.type_list_append mt_append (pv 2) (pa_cons (pv 4) pa_nil))))))))
    (pss_one (ps_ret (pe_callTy call_tuple_of (by rfl) G.tuple (by decide +kernel) (pa_cons (pv 1) pa_nil)))))), ?_⟩
  have hlen : (ws.map sV).length = ws.length := List.length_map ..
  have hle := hsh.1
  -- found
  refine ⟨by show 1 ≤ sizeLine; decide, fun l nl => ?_⟩
  have s1 : Same H (upd H l (.lst [.int 0])) := same_upd nl
  refine ⟨.ref a, rfl, a, _, rfl, .inr (Same.tup s1 hS), l, _, [.int 0], rfl, rfl, upd_same, by omega, by rw [hlen]; omega, line_ok (by rw [hlen]; simp; omega), fun fo nfo => ?_⟩
  have s2 := s1.trans (same_upd (o := .lst (List.replicate (((ws.map sV).length : Nat) : Int).toNat [V.int 0]).flatten) nfo)
  -- whole
  refine ⟨Nat.zero_le _, fun wh nwh => ?_⟩
  have s3 := s2.trans (same_upd (o := .lst []) nwh)
  have nfw : fo ≠ wh := ne_of_none upd_same nwh
  have hfoH : H fo = none := s1.free nfo
  have hwhH : H wh = none := s2.free nwh
  refine ⟨.ref a, rfl, a, _, rfl, .inr (Same.tup s3 hS), _, _, rfl, rfl, 1, rfl, 1, rfl, _, _, _, _, rfl, RgC.neg (by rw [hlen]; omega) (by rw [hlen]; omega) (by decide) (by decide), ?_⟩
  have en : (((ws.map sV).length : Int) - 1 - -1).toNat = ws.length := by rw [hlen]; omega
  rw [en]
  refine for_rangeC (fun t σ H1 => ∃ y3 y4 y5, σ = [some (.ref a), some (.ref fo), some (.ref wh), y3, y4, y5] ∧ Same H H1 ∧
    H1 fo = some (.lst (List.replicate (ws.length - t) (V.int 0) ++ (endsSt (ws.length - t) (ws.drop (ws.length - t))).1.map nV)) ∧ H1 wh = some (.lst ((endsSt (ws.length - t) (ws.drop (ws.length - t))).2.map nV).reverse)) ?_ ?_ ?_
  · refine ⟨none, none, none, rfl, s3, ?_, ?_⟩
    · rw [upd_ne nfw, upd_same, Nat.sub_zero, List.drop_length, rep_flat, hlen]
      simp [endsSt]
    · rw [upd_same, Nat.sub_zero, List.drop_length]; rfl
  · rintro t σ H1 ht ⟨y3, y4, y5, rfl, s4, hfo, hwh⟩
    obtain ⟨k, hk⟩ : ∃ k : Nat, k + 1 + t = ws.length := ⟨ws.length - 1 - t, by omega⟩
    have ek : V.int (((ws.map sV).length : Int) - 1 + (t : Int) * -1) = nV k := congrArg V.int (by rw [hlen]; omega)
    rw [ek]
    have em : ws.length - t = k + 1 := by omega
    have em2 : ws.length - (t + 1) = k := by omega
    rw [em] at hfo hwh
    have hkl : k < ws.length := by omega
    have gk : ws[k]? = some ws[k] := List.getElem?_eq_getElem hkl
    have hdk := drop_get gk
    generalize ws[k] = wd at gk hdk
    have hbk := Bal_drop k hb
    rw [hdk] at hbk
    have room := stack_room k hbk
    have hEn : endsSt k (ws.drop k) = ((if arity wd = 0 then k + 1 else (endsSt (k + 1) (ws.drop (k + 1))).2.getD (arity wd - 1) 0) :: (endsSt (k + 1) (ws.drop (k + 1))).1,
      (if arity wd = 0 then k + 1 else (endsSt (k + 1) (ws.drop (k + 1))).2.getD (arity wd - 1) 0) :: (endsSt (k + 1) (ws.drop (k + 1))).2.drop (arity wd)) := by rw [hdk]; rfl
    have hsl := stack_len (k + 1) (Bal_drop (k + 1) hb)
    have hlenS : (endsSt (k + 1) (ws.drop (k + 1))).2.length ≤ 1000 := by
      have : ∀ l : List Wd, sz l ≤ (l.length : Int) := by
        intro l
        induction l with
        | nil => exact Int.le_refl _
        | cons x r ih => show sz r + 1 - (arity x : Int) ≤ ((r.length + 1 : Nat) : Int); omega
      have h2 := this (ws.drop (k + 1))
      rw [List.length_drop] at h2
      omega
    revert hfo hwh hEn room hlenS
    generalize (endsSt (k + 1) (ws.drop (k + 1))).2 = st
    generalize (endsSt (k + 1) (ws.drop (k + 1))).1 = fn
    intro hwh hfo room hEn hlenS
    -- end = place + 1
    refine ⟨_, rfl, _, _, rfl, rfl, ?_⟩
    -- the inner loop
    have key : ∀ (Q0 : VK), Q0 (nV (arity wd)) H1 → tIf (tTest (tOp rEq (tOp (rIxT K) (tVar 0) (tVar 3)) (tC (.str "@")))) (tC (.int 2))
        (tCB (fun xs H Q => (∃ i, xs = [.int i] ∧ Q (.int i) H) ∨ ∃ k, xs = [.bl k] ∧ Q (.int (if k then 1 else 0)) H) (tCons (tOp rEq (tSl rSlS (tOp (rIxT K) (tVar 0) (tVar 3)) tNoPart (tPart (tC (.int 1)))) (tC (.str "/"))) tNil))
        [some (.ref a), some (.ref fo), some (.ref wh), some (nV k), some (nV (k + 1)), y5] H1 Q0 := by
      intro Q0 q0
      refine ⟨.ref a, rfl, _, rfl, a, _, _, _, rfl, rfl, Same.tup s4 hS, atI_nat (map_get gk), rfl, _, rfl, ?_⟩
      rw [s_at, dec_sV]
      unfold arity at q0
      refine ite2 (fun e => ?_) (fun e => ?_)
      · rw [if_pos (show isGive wd = true from e)] at q0
        exact q0
      · rw [if_neg (show ¬ isGive wd = true from e)] at q0
        refine ⟨.ref a, rfl, _, rfl, a, _, _, _, rfl, rfl, Same.tup s4 hS, atI_nat (map_get gk), 1, rfl, _, rfl, line_ok (by rw [sW_len]; exact hsh.at gk), rfl, .inr ⟨_, rfl, ?_⟩⟩
        rw [s_sl, cut_to1, dec_sV]
        cases e2 : isTake wd with
        | true =>
          rw [if_pos e2] at q0
          rw [show decide (List.take 1 wd = [47]) = true from e2]
          exact q0
        | false =>
          rw [if_neg (by rw [e2]; simp)] at q0
          rw [show decide (List.take 1 wd = [47]) = false from e2]
          exact q0
    refine key _ ⟨_, rfl, by omega, by have := arity_le wd; omega, ?_⟩
    have ea : ((arity wd : Nat) : Int).toNat = arity wd := by simp
    rw [ea]
    refine for_range (fun j σ H2 => ∃ y5, σ = [some (.ref a), some (.ref fo), some (.ref wh), some (nV k), some (nV (if j = 0 then k + 1 else st.getD (j - 1) 0)), y5] ∧ Same H H2 ∧
      H2 fo = some (.lst (List.replicate (k + 1) (V.int 0) ++ fn.map nV)) ∧ H2 wh = some (.lst ((st.drop j).map nV).reverse)) ⟨_, rfl, s4, hfo, hwh⟩ ?_ ?_
    · rintro j σ H2 hj ⟨y, rfl, s5, h1, h2⟩
      have hjl : j < st.length := by omega
      have gj : st[j]? = some st[j] := List.getElem?_eq_getElem hjl
      have e1 : st.drop j = st[j] :: st.drop (j + 1) := drop_get gj
      rw [e1, List.map_cons, List.reverse_cons] at h2
      refine ⟨.ref wh, rfl, .inl ⟨rfl, _, SqL.mk h2⟩, wh, _, nV st[j], rfl, rfl, h2, ?_, ?_⟩
      · rw [List.length_append, List.length_singleton, Nat.add_sub_cancel, List.getElem?_append_right (Nat.le_refl _), Nat.sub_self]; rfl
      · rw [List.dropLast_concat]
        refine ⟨some (.int (0 + (j : Int))), ?_, fun p o e => ?_, ?_, upd_same⟩
        · have : (if j + 1 = 0 then k + 1 else st.getD (j + 1 - 1) 0) = st[j] := by
            rw [if_neg (by omega), Nat.add_sub_cancel, List.getD_eq_getElem?_getD, gj]; rfl
          rw [this]; rfl
        · rw [upd_ne (ne_of_none e hwhH)]; exact s5 _ _ e
        · rw [upd_ne nfw]; exact h1
    · rintro σ H2 ⟨y, rfl, s5, h1, h2⟩
      -- found[place] = end
      refine ⟨_, rfl, .ref fo, rfl, _, rfl, fo, _, _, k, rfl, rfl, h1, ixN_nat (by rw [List.length_append, List.length_replicate]; omega), ?_⟩
      generalize (if arity wd = 0 then k + 1 else st.getD (arity wd - 1) 0) = en at hEn
      have h3 : (List.replicate (k + 1) (V.int 0) ++ fn.map nV).set k (nV en) = List.replicate k (V.int 0) ++ (nV en :: fn.map nV) := by
        rw [show k + 1 = k.succ from rfl, List.replicate_succ', List.append_assoc]
        exact set_mid (List.length_replicate ..)
      rw [h3]
      -- whole.append(end)
      have h4 : (upd H2 fo (.lst (List.replicate k (V.int 0) ++ (nV en :: fn.map nV)))) wh = some (.lst ((st.drop (arity wd)).map nV).reverse) := by rw [upd_ne nfw.symm]; exact h2
      refine ⟨.ref wh, rfl, .inl ⟨rfl, _, SqL.mk h4⟩, _, rfl, wh, _, _, rfl, rfl, h4, line_lt (by rw [List.length_reverse, List.length_map, List.length_drop]; omega), ?_⟩
      refine ⟨_, _, _, rfl, fun p o e => ?_, ?_, ?_⟩
      · rw [upd_ne (ne_of_none e hwhH), upd_ne (ne_of_none e hfoH)]; exact s5 _ _ e
      · rw [upd_ne nfw, upd_same, em2, hEn]; rfl
      · rw [upd_same, em2, hEn]
        show _ = some (HO.lst (nV en :: (st.drop (arity wd)).map nV).reverse)
        rw [List.reverse_cons]
  · rintro σ H1 ⟨y3, y4, y5, rfl, s4, hfo, hwh⟩
    rw [Nat.sub_self] at hfo
    refine ⟨.ref fo, rfl, fo, _, rfl, .inl ⟨SqL.mk hfo, fun p np => q _ _ (s4.trans (same_upd np)) ⟨p, rfl, s4.free np, ?_⟩⟩⟩
    rw [upd_same]; rfl
end
end K11

set_option Elab.async false
set_option linter.all false
set_option maxRecDepth 100000
set_option maxHeartbeats 4000000
namespace K11
open PySem PySem.Spec PyProof.Rows L2
/-! ### items as values -/
def ItmAt (H : Hp) (v : V) : Itm → Prop
  | .s w => v = sV w
  | .tk m n => ∃ p, v = .ref p ∧ H p = some (.tup [sV [47], sV m, sV n])
  | .nm m n => ∃ p, v = .ref p ∧ H p = some (.tup [sV m, sV n])
theorem ItmAt.same {H H' : Hp} {v : V} {it : Itm} (h : ItmAt H v it) (s : Same H H') : ItmAt H' v it := by
  cases it with
  | s w => exact h
  | tk m n => obtain ⟨p, e, hp⟩ := h; exact ⟨p, e, s _ _ hp⟩
  | nm m n => obtain ⟨p, e, hp⟩ := h; exact ⟨p, e, s _ _ hp⟩
structure ItsAt (H : Hp) (vs : List V) (its : List Itm) : Prop where
  len : vs.length = its.length
  at_ : ∀ (i : Nat) (it : Itm), its[i]? = some it → ∃ v, vs[i]? = some v ∧ ItmAt H v it
theorem ItsAt.nil {H : Hp} : ItsAt H [] [] := ⟨rfl, fun i it h => by simp at h⟩
theorem ItsAt.same {H H' : Hp} {vs : List V} {its : List Itm} (h : ItsAt H vs its) (s : Same H H') : ItsAt H' vs its :=
  ⟨h.len, fun i it e => by obtain ⟨v, h1, h2⟩ := h.at_ i it e; exact ⟨v, h1, h2.same s⟩⟩
theorem ItsAt.app {H : Hp} {vs us : List V} {its jts : List Itm} (h : ItsAt H vs its) (h2 : ItsAt H us jts) : ItsAt H (vs ++ us) (its ++ jts) := by
  refine ⟨by rw [List.length_append, List.length_append, h.len, h2.len], fun i it e => ?_⟩
  by_cases hi : i < its.length
  · rw [List.getElem?_append_left hi] at e
    rw [List.getElem?_append_left (by rw [h.len]; exact hi)]
    exact h.at_ i it e
  · rw [List.getElem?_append_right (by omega)] at e
    rw [List.getElem?_append_right (by rw [h.len]; omega), h.len]
    exact h2.at_ _ it e
theorem ItsAt.one {H : Hp} {v : V} {it : Itm} (h : ItmAt H v it) : ItsAt H [v] [it] :=
  ⟨rfl, fun i jt e => by
    cases i with
    | zero => have : it = jt := Option.some.inj e
              subst this; exact ⟨v, rfl, h⟩
    | succ i => simp at e⟩
theorem ItsAt.get {H : Hp} {vs : List V} {its : List Itm} (h : ItsAt H vs its) {i : Nat} {v : V} (e : vs[i]? = some v) : ∃ it, its[i]? = some it ∧ ItmAt H v it := by
  have hi := lt_of_get e
  rw [h.len] at hi
  obtain ⟨v', h1, h2⟩ := h.at_ i _ (List.getElem?_eq_getElem hi)
  rw [e] at h1; cases h1
  exact ⟨_, List.getElem?_eq_getElem hi, h2⟩
section
variable {P : Program} {w : World} {K : PySem.W.Frag} {mg : Str → Option Value} {base : Heap}
/-! ### _law_open -/
theorem c_law_open {f : Addr} {fd : FuncData} (F : FnP K "_law_open" s_law_open f fd) (g : mg "_law_open" = some (.ref f)) : Cal P w K mg base 1 "_law_open" (spT K (fun _ => True) fun ws H v H' => ∃ l, v = .ref l ∧ H l = none ∧ H' l = some (.lst ((opens ws).map sV))) := by
  have S : FnScope ["_law_words", "_law_known", "_law_word"] ["_law_words"] (defScope s_law_open) := C8.fnScope_by (by decide +kernel)
  refine cal_of F g S (FunD.bindsN F fun _ _ _ _ _ _ us hl => match us, hl with | [_], _ => rfl) spT_len (fun cdv A outer s H vs Q E hr h => ?_)
  obtain ⟨a, ws, rfl, hS, hsh, _, q⟩ := h
  have hu := hu_of hr
  refine ⟨_, pss_cons (ps_set (i := 1) S.nd rfl (.inr rfl) pe_dnewK)
    (pss_cons (ps_for PassesOwn.never rfl (pi_tup (pv 0)) (pg_name (i := 2) S.nd rfl (.inl rfl))
      (pss_one (ps_if (pt_cmpR op_eq (pe_slice sl_str (pv 2) po_none (po_some pe_int)) pe_str (nomark _)) (pss_one (ps_dput hu (pv 1) (pe_slice sl_str (pv 2) (po_some pe_int) po_none) pe_bl rfl)) pss_nil)))
    (pss_one (ps_ret (pe_lc (own := [("_law_word", 2)]) (g := gName 2) rfl S.nd (pi_tup (pv 0)) (blkOk_by (N := ["_law_words", "_law_known", "_law_word"]) (sc := defScope s_law_open) (by decide +kernel))
      (fun _ _ _ _ _ => pg_name (i := 2) S.nd rfl (Or.inl rfl))
      (fun _ _ _ _ _ => pts_one (PW.pt (pw_and (pt_cmpR op_ne (pv 2) pe_str (nomark _)) (pw_and (pt_cmpR op_ne (pe_slice sl_str (pv 2) po_none (po_some pe_int)) pe_str (nomark _)) (pw_and1 (pt_cmp (pc_dnotin hu (pv 2) (pv 1))))))))
      (fun _ _ _ _ _ => pv 2))))), ?_⟩
  have hlw := hsh.1
  intro d nd
  refine ⟨.ref a, rfl, a, rfl, ⟨_, Same.tup (same_upd nd) hS⟩, for_it walk_tup (fun i σ H1 => ∃ y2 kvs, σ = [some (.ref a), some (.ref d), y2] ∧ Same H H1 ∧ H1 d = some (.dK kvs) ∧ kvs.length ≤ i ∧ ∀ x : Wd, (valV kvs (sK x)).isSome = decide (x ∈ takeNames (ws.take i)))
    ⟨none, [], rfl, same_upd nd, upd_same, Nat.le_refl _, fun x => rfl⟩ (fun i σ H1 _ ⟨_, _, _, s1, _⟩ => Same.tup s1 hS) ?_ ?_⟩
  · rintro i x σ H1 H2 hi ⟨y2, kvs, rfl, s1, h1, hl, hm⟩ ⟨rfl, ex⟩
    obtain ⟨wd, ew, rfl⟩ := get_map ex
    have hi : i < ws.length := lt_of_get ew
    have hwl := hsh.at ew
    refine ⟨_, rfl, 1, rfl, _, rfl, line_ok (by rw [sW_len]; exact hwl), rfl, _, rfl, ?_⟩
    rw [s_sl, cut_to1, dec_sV]
    rw [takeNames_step ew]
    show if isTake wd = true then _ else _
    cases ht : isTake wd with
    | false =>
      refine ⟨_, kvs, rfl, s1, h1, by omega, fun x => ?_⟩
      rw [hm x]; simp
    | true =>
      refine ⟨_, rfl, _, rfl, 1, rfl, _, rfl, line_ok (by rw [sW_len]; exact hwl), ?_⟩
      rw [cut_from1]
      refine ⟨d, _, rfl, DPut.k (k := sK (wd.drop 1)) h1 (line_lt (by omega)), _, _, rfl, fun p o e => ?_, upd_same, ?_, fun x => ?_⟩
      · rw [upd_ne (ne_of_none e nd)]; exact s1 _ _ e
      · have := length_putK kvs (sK (wd.drop 1)) (.bl true); omega
      · rw [valV_put]
        by_cases e : sK x = sK (wd.drop 1)
        · have e2 := sK_inj e
          rw [if_pos e, e2]; simp
        · have e2 : ¬ x = wd.drop 1 := fun z => e (by rw [z])
          rw [if_neg e, hm x]
          have e3 : (x ∈ takeNames (ws.take i)) ↔ (x ∈ takeNames (ws.take i) ++ [wd.drop 1]) := ⟨fun z => List.mem_append_left _ z, fun z => (List.mem_append.mp z).elim id fun z => absurd (List.mem_singleton.mp z) e2⟩
          by_cases h : x ∈ takeNames (ws.take i)
          · rw [decide_eq_true h]; exact (decide_eq_true (e3.mp h)).symm
          · rw [decide_eq_false h]; exact (decide_eq_false fun z => h (e3.mpr z)).symm
  · rintro σ H1 ⟨y2, kvs, rfl, s1, hd, hl, hm⟩
    rw [List.length_map, List.take_length] at hm
    refine ⟨.ref a, rfl, a, rfl, ⟨_, Same.tup s1 hS⟩, fun D hD => lc_it walk_tup (fun i H2 => Same H1 H2 ∧ H2 D = some (.lst (((ws.take i).filter (isOpen ws)).map sV))) ⟨same_upd hD, upd_same⟩ (fun i H2 _ h => Same.tup (s1.trans h.1) hS) ?_ ?_⟩
    · rintro i x H2 H3 hi ⟨s2, h2⟩ ⟨rfl, ex⟩
      obtain ⟨wd, ew, rfl⟩ := get_map ex
      have hi : i < ws.length := lt_of_get ew
      have hwl := hsh.at ew
      have skip : isOpen ws wd = false → Same H1 H3 ∧ H3 D = some (.lst (((ws.take (i + 1)).filter (isOpen ws)).map sV)) := fun e => by
        rw [fs_no ew e]
        exact ⟨s2, h2⟩
      refine ⟨rfl, ?_⟩
      refine ⟨_, rfl, rfl, _, rfl, ?_⟩
      rw [s_at, dec_sV]
      cases hg : isGive wd with
      | true =>
        rw [show decide (wd = [64]) = true from hg]
        exact skip (by unfold isOpen isNm; rw [hg]; rfl)
      | false =>
        rw [show decide (wd = [64]) = false from hg]
        refine ⟨_, rfl, 1, rfl, _, rfl, line_ok (by rw [sW_len]; exact hwl), rfl, _, rfl, ?_⟩
        rw [s_sl, cut_to1, dec_sV]
        cases ht : isTake wd with
        | true =>
          rw [show decide (List.take 1 wd = [47]) = true from ht]
          exact skip (by unfold isOpen isNm; rw [hg, ht]; rfl)
        | false =>
          rw [show decide (List.take 1 wd = [47]) = false from ht]
          refine ⟨_, rfl, _, rfl, d, _, rfl, DGet.k (k := sK wd) (s2 _ _ hd), _, rfl, ?_⟩
          rw [hm wd]
          have hn : isNm wd = true := isNm_iff.mpr ⟨hg, ht⟩
          cases hk : decide (wd ∈ takeNames ws) with
          | true => exact skip (by unfold isOpen; rw [hk]; simp)
          | false =>
            refine ⟨_, rfl, _, h2, line_lt (by rw [List.length_map]; have := fs_len (isOpen ws) ws i; omega), fun p o e => ?_, ?_⟩
            · rw [upd_ne (ne_of_none e hD)]; exact s2 _ _ e
            · rw [upd_same, fs_yes ew (by unfold isOpen; rw [hn, hk]; rfl), List.map_append]; rfl
    · rintro H2 ⟨s2, h2⟩
      rw [List.length_map, List.take_length] at h2
      exact q _ _ (s1.trans s2) ⟨D, rfl, s1.free hD, h2⟩
/-! ### _law_marked -/
def spMarked (K : PySem.W.Frag) : Sp := fun vs H Q _ => ∃ (a : Addr) (ws : List Wd) (mk : Wd), vs = [.ref a, sV mk] ∧ SqT K H a (ws.map sV) ∧ Sh ws ∧ ∀ (l : Addr) (xs : List V) (H' : Hp), Same H H' → H l = none → H' l = some (.lst xs) → ItsAt H' xs (markedOf ws mk) → Q (.ref l) H'
theorem c_law_marked {f : Addr} {fd : FuncData} (F : FnP K "_law_marked" s_law_marked f fd) (g : mg "_law_marked" = some (.ref f)) : Cal P w K mg base 1 "_law_marked" (spMarked K) := by
  have S : FnScope ["_law_words", "_law_mark", "_law_known", "_law_word", "_law_found"] ["_law_words", "_law_mark"] (defScope s_law_marked) := C8.fnScope_by (by decide +kernel)
  refine cal_of F g S (FunD.bindsN F fun _ _ _ _ _ _ us hl => match us, hl with | [_, _], _ => rfl) (fun vs H Q E ⟨_, _, _, e, _⟩ => by rw [e]; rfl) (fun cdv A outer s H vs Q E hr h => ?_)
  obtain ⟨a, ws, mk, rfl, hS, hsh, q⟩ := h
  have hu := hu_of hr
  refine ⟨_, pss_cons (ps_set (i := 2) S.nd rfl (.inl rfl) pe_dnewK)
    (pss_cons (ps_for PassesOwn.never rfl (pi_tup (pv 0)) (pg_name (i := 3) S.nd rfl (.inl rfl))
      (pss_one (ps_if (pt_cmpR op_eq (pe_slice sl_str (pv 3) po_none (po_some pe_int)) pe_str (nomark _)) (pss_one (ps_dput hu (pv 2) (pe_slice sl_str (pv 3) (po_some pe_int) po_none) pe_bl rfl)) pss_nil)))
    (pss_cons (ps_set (i := 4) S.nd rfl (.inl rfl) (pe_lst pa_nil))
    (pss_cons (ps_for PassesOwn.never rfl (pi_tup (pv 0)) (pg_name (i := 3) S.nd rfl (.inl rfl))
      (pss_one (ps_if (pt_cmpR op_eq (pe_slice sl_str (pv 3) po_none (po_some pe_int)) pe_str (nomark _))
        (pss_one (ps_expr (pe_bm PySem.F.plainAttrs_list PySem.F.slot_list_append PySem.F.type_list_append mt_append (pv 4) (pa_cons (pe_tup (pa_cons pe_str (pa_cons (pv 1) (pa_cons (pe_slice sl_str (pv 3) (po_some pe_int) po_none) pa_nil)))) pa_nil))))
        (pss_one (ps_expr (pe_bm PySem.F.plainAttrs_list PySem.F.slot_list_append PySem.F.type_list_append mt_append (pv 4) (pa_cons (pe_ifExp (pt_cmp (pc_din hu (pv 3) (pv 2))) (pe_tup (pa_cons (pv 1) (pa_cons (pv 3) pa_nil))) (pv 3)) pa_nil)))))))
    (pss_one (ps_ret (pv 4)))))), ?_⟩
  have hlw := hsh.1
  intro d nd
  refine ⟨.ref a, rfl, a, rfl, ⟨_, Same.tup (same_upd nd) hS⟩, for_it walk_tup (fun i σ H1 => ∃ y2 kvs, σ = [some (.ref a), some (sV mk), some (.ref d), y2, none] ∧ Same H H1 ∧ H1 d = some (.dK kvs) ∧ kvs.length ≤ i ∧ ∀ x : Wd, (valV kvs (sK x)).isSome = decide (x ∈ takeNames (ws.take i)))
    ⟨none, [], rfl, same_upd nd, upd_same, Nat.le_refl _, fun x => rfl⟩ (fun i σ H1 _ ⟨_, _, _, s1, _⟩ => Same.tup s1 hS) ?_ ?_⟩
  · rintro i x σ H1 H2 hi ⟨y2, kvs, rfl, s1, h1, hl, hm⟩ ⟨rfl, ex⟩
    obtain ⟨wd, ew, rfl⟩ := get_map ex
    have hi : i < ws.length := lt_of_get ew
    have hwl := hsh.at ew
    refine ⟨_, rfl, 1, rfl, _, rfl, line_ok (by rw [sW_len]; exact hwl), rfl, _, rfl, ?_⟩
    rw [s_sl, cut_to1, dec_sV]
    rw [takeNames_step ew]
    show if isTake wd = true then _ else _
    cases ht : isTake wd with
    | false =>
      refine ⟨_, kvs, rfl, s1, h1, by omega, fun x => ?_⟩
      rw [hm x]; simp
    | true =>
      refine ⟨_, rfl, _, rfl, 1, rfl, _, rfl, line_ok (by rw [sW_len]; exact hwl), ?_⟩
      rw [cut_from1]
      refine ⟨d, _, rfl, DPut.k (k := sK (wd.drop 1)) h1 (line_lt (by omega)), _, _, rfl, fun p o e => ?_, upd_same, ?_, fun x => ?_⟩
      · rw [upd_ne (ne_of_none e nd)]; exact s1 _ _ e
      · have := length_putK kvs (sK (wd.drop 1)) (.bl true); omega
      · rw [valV_put]
        by_cases e : sK x = sK (wd.drop 1)
        · have e2 := sK_inj e
          rw [if_pos e, e2]; simp
        · have e2 : ¬ x = wd.drop 1 := fun z => e (by rw [z])
          rw [if_neg e, hm x]
          have e3 : (x ∈ takeNames (ws.take i)) ↔ (x ∈ takeNames (ws.take i) ++ [wd.drop 1]) := ⟨fun z => List.mem_append_left _ z, fun z => (List.mem_append.mp z).elim id fun z => absurd (List.mem_singleton.mp z) e2⟩
          by_cases h : x ∈ takeNames (ws.take i)
          · rw [decide_eq_true h]; exact (decide_eq_true (e3.mp h)).symm
          · rw [decide_eq_false h]; exact (decide_eq_false fun z => h (e3.mpr z)).symm
  · rintro σ H1 ⟨y2, kvs, rfl, s1, hd, hl, hm⟩
    rw [List.length_map, List.take_length] at hm
    refine ⟨Nat.zero_le _, fun fo nf => ?_⟩
    have nfd : d ≠ fo := ne_of_none hd nf
    refine ⟨.ref a, rfl, a, rfl, ⟨_, Same.tup (s1.trans (same_upd nf)) hS⟩, for_it walk_tup (fun i σ H2 => ∃ y2 xs, σ = [some (.ref a), some (sV mk), some (.ref d), y2, some (.ref fo)] ∧ Same H1 H2 ∧ H2 d = some (.dK kvs) ∧ H2 fo = some (.lst xs) ∧ ItsAt H2 xs ((ws.take i).map (mkItm ws mk)))
      ⟨y2, [], rfl, same_upd nf, by rw [upd_ne nfd]; exact hd, upd_same, ItsAt.nil⟩ (fun i σ H2 _ ⟨_, _, _, s2, _⟩ => Same.tup (s1.trans s2) hS) ?_ ?_⟩
    · rintro i x σ H2 H3 hi ⟨y3, xs, rfl, s2, hd2, hf2, hit⟩ ⟨rfl, ex⟩
      obtain ⟨wd, ew, rfl⟩ := get_map ex
      have hi : i < ws.length := lt_of_get ew
      have hwl := hsh.at ew
      have hxl : xs.length ≤ 1000 := by rw [hit.len, List.length_map, List.length_take]; omega
      -- what an append leaves
      have fin : ∀ (v : V) (H4 : Hp), Same H3 H4 → H4 fo = some (.lst xs) → ItmAt H4 v (mkItm ws mk wd) →
          ∃ l xs' y, V.ref fo = .ref l ∧ [v] = [y] ∧ H4 l = some (.lst xs') ∧ xs'.length < sizeLine ∧
          (∃ y2 ys, ([some (.ref a), some (sV mk), some (.ref d), some (sV wd), some (.ref fo)] : L2.St) = [some (.ref a), some (sV mk), some (.ref d), y2, some (.ref fo)] ∧ Same H1 (upd H4 l (.lst (xs' ++ [y]))) ∧ (upd H4 l (.lst (xs' ++ [y]))) d = some (.dK kvs) ∧
            (upd H4 l (.lst (xs' ++ [y]))) fo = some (.lst ys) ∧ ItsAt (upd H4 l (.lst (xs' ++ [y]))) ys ((ws.take (i + 1)).map (mkItm ws mk))) := by
        intro v H4 s4 hf4 hv
        refine ⟨fo, xs, v, rfl, rfl, hf4, line_lt (by omega), some (sV wd), xs ++ [v], rfl, fun p o e => ?_, ?_, upd_same, ?_⟩
        · rw [upd_ne (ne_of_none e nf)]; exact (s2.trans s4) _ _ e
        · rw [upd_ne nfd]; exact s4 _ _ hd2
        · rw [List.take_add_one, ew, List.map_append]
          have h1 : ItsAt H4 (xs ++ [v]) ((ws.take i).map (mkItm ws mk) ++ [mkItm ws mk wd]) := (hit.same s4).app (ItsAt.one hv)
          refine ⟨h1.len, fun j jt ej => ?_⟩
          obtain ⟨u, hu1, hu2⟩ := h1.at_ j jt ej
          refine ⟨u, hu1, ?_⟩
          cases jt with
          | s w => exact hu2
          | tk m n => obtain ⟨p, e1, e2⟩ := hu2; exact ⟨p, e1, by rw [upd_ne (ne_of e2 hf4 (by intro z; cases z))]; exact e2⟩
          | nm m n => obtain ⟨p, e1, e2⟩ := hu2; exact ⟨p, e1, by rw [upd_ne (ne_of e2 hf4 (by intro z; cases z))]; exact e2⟩
      refine ⟨_, rfl, 1, rfl, _, rfl, line_ok (by rw [sW_len]; exact hwl), rfl, _, rfl, ?_⟩
      rw [s_sl, cut_to1, dec_sV]
      show if isTake wd = true then _ else _
      cases ht : isTake wd with
      | true =>
        refine ⟨_, rfl, .inl ⟨rfl, _, SqL.mk hf2⟩, _, rfl, _, rfl, 1, rfl, _, rfl, line_ok (by rw [sW_len]; exact hwl), ?_⟩
        rw [cut_from1]
        refine ⟨by show 3 ≤ sizeLine; decide, fun t nt => ?_⟩
        refine fin (.ref t) _ (same_upd nt) (by rw [upd_ne (ne_of_none hf2 nt)]; exact hf2) ?_
        unfold mkItm
        rw [if_pos ht]
        exact ⟨t, rfl, by rw [upd_same]⟩
      | false =>
        refine ⟨_, rfl, .inl ⟨rfl, _, SqL.mk hf2⟩, _, rfl, _, rfl, d, _, rfl, DGet.k (k := sK wd) hd2, _, rfl, ?_⟩
        rw [hm wd]
        cases hk : decide (wd ∈ takeNames ws) with
        | true =>
          refine ⟨_, rfl, _, rfl, by show 2 ≤ sizeLine; decide, fun t nt => ?_⟩
          refine fin (.ref t) _ (same_upd nt) (by rw [upd_ne (ne_of_none hf2 nt)]; exact hf2) ?_
          unfold mkItm
          rw [if_neg (by rw [ht]; simp), if_pos (of_decide_eq_true hk)]
          exact ⟨t, rfl, upd_same⟩
        | false =>
          refine ⟨_, rfl, ?_⟩
          refine fin (sV wd) _ (Same.refl _) hf2 ?_
          unfold mkItm
          rw [if_neg (by rw [ht]; simp), if_neg (of_decide_eq_false hk)]
          rfl
    · rintro σ H2 ⟨y3, xs, rfl, s2, hd2, hf2, hit⟩
      rw [List.length_map, List.take_length] at hit
      exact ⟨_, rfl, q fo xs H2 (s1.trans s2) (s1.free nf) hf2 hit⟩
end
end K11

set_option Elab.async false
set_option linter.all false
set_option maxRecDepth 100000
set_option maxHeartbeats 4000000
namespace K11
open PySem PySem.Spec PyProof.Rows L2
theorem takeKeys_app (a b : List Itm) : takeKeys (a ++ b) = takeKeys a ++ takeKeys b := by unfold takeKeys; rw [List.filterMap_append]
theorem bars_app (a b : List Itm) : bars (a ++ b) = bars a ++ bars b := by unfold bars; rw [List.filterMap_append]
theorem takeKeys_step {its : List Itm} {i : Nat} {x : Itm} (h : its[i]? = some x) : takeKeys (its.take (i + 1)) = takeKeys (its.take i) ++ takeKeys [x] := by rw [List.take_add_one, h, takeKeys_app]; rfl
theorem bars_step {its : List Itm} {i : Nat} {x : Itm} (h : its[i]? = some x) : bars (its.take (i + 1)) = bars (its.take i) ++ bars [x] := by rw [List.take_add_one, h, bars_app]; rfl
theorem takeKeys_len (its : List Itm) : (takeKeys its).length ≤ its.length := List.length_filterMap_le _ _
theorem bars_len (its : List Itm) : (bars its).length ≤ its.length := List.length_filterMap_le _ _
theorem takeKeys_tk (m n : Wd) : takeKeys [Itm.tk m n] = [(m, n)] := rfl
theorem takeKeys_s (w : Wd) : takeKeys [Itm.s w] = [] := rfl
theorem takeKeys_nm (m n : Wd) : takeKeys [Itm.nm m n] = [] := rfl
abbrev kk (k : Wd × Wd) : List Key := [sK k.1, sK k.2]
theorem kk_inj {a b : Wd × Wd} (h : kk a = kk b) : a = b := by
  injection h with h1 h2
  injection h2 with h2 _
  have e1 := sK_inj h1
  have e2 := sK_inj h2
  obtain ⟨a1, a2⟩ := a
  obtain ⟨b1, b2⟩ := b
  have e1 : a1 = b1 := e1
  have e2 : a2 = b2 := e2
  rw [e1, e2]
section
variable {P : Program} {w : World} {K : PySem.W.Frag} {mg : Str → Option Value} {base : Heap}
def spLStd : Sp := fun vs H Q _ => ∃ (a : Addr) (xs : List V) (its : List Itm), vs = [.ref a] ∧ H a = some (.lst xs) ∧ ItsAt H xs its ∧ its.length ≤ 1000 ∧ (takeKeys its).Nodup ∧ (∀ m n, Itm.nm m n ∈ its → (m, n) ∈ takeKeys its) ∧
  ∀ p H', Same H H' → H p = none → H' p = some (.tup ((lawStd its).map sV)) → Q (.ref p) H'
theorem c_law_standard {f : Addr} {fd : FuncData} (F : FnP K "_law_standard" s_law_standard f fd) (g : mg "_law_standard" = some (.ref f)) (G : Gb mg) (Cl : Cal P w K mg base 1 "_law_letters" spLLet) : Cal P w K mg base 2 "_law_standard" spLStd := by
  have S : FnScope ["_law_items", "_law_item", "_law_barred", "_law_called", "_law_number", "_law_turn", "_law_name", "_law_found"] ["_law_items"] (defScope s_law_standard) := C8.fnScope_by (by decide +kernel)
  refine cal_of F g S (FunD.bindsN F fun _ _ _ _ _ _ us hl => match us, hl with | [_], _ => rfl) (fun vs H Q E ⟨_, _, _, e, _⟩ => by rw [e]; rfl) (fun cdv A outer s H vs Q E hr h => ?_)
  obtain ⟨a, xs, its, rfl, ha, hit, hil, hnd, hnm, q⟩ := h
  have hu := hu_of hr
  refine ⟨_, pss_cons (ps_setLc (i := 2) (own := [("_law_item", 1)]) (g := gName 1) (tt := tB (tCB (rIsi K) (tCons (tVar 1) (tCons (tC (.ty "str")) tNil)))) rfl S.nd rfl rfl (sw_true rfl rfl rfl (by decide +kernel)) (pi_list (pv 0))
      (blkOk_by (N := ["_law_items", "_law_item", "_law_barred", "_law_called", "_law_number", "_law_turn", "_law_name", "_law_found"]) (sc := defScope s_law_standard) (by decide +kernel)) (fun _ _ _ _ _ => pg_name (i := 1) S.nd rfl (Or.inl rfl))
      (fun _ _ _ _ _ => pts_one (pt_val (pe_callB call_isi (by rfl) G.isinst (by decide +kernel) (pa_cons (pv 1) (pa_cons (pe_bltn (v := .ty "str") (by rfl) G.str (by decide +kernel) rfl) pa_nil))))) (fun _ _ _ _ _ => pv 1))
    (pss_cons (ps_set (i := 3) S.nd rfl (.inl rfl) pe_dnewT)
    (pss_cons (ps_set (i := 4) S.nd rfl (.inl rfl) pe_int)
    (pss_cons (ps_for PassesOwn.never rfl (pi_list (pv 0)) (pg_name (i := 1) S.nd rfl (.inl rfl))
      (pss_one (ps_if (PW.pt (pw_and (pt_val (pe_callB call_isi (by rfl) G.isinst (by decide +kernel) (pa_cons (pv 1) (pa_cons (pe_bltn (v := .ty "tuple") (by rfl) G.tuple (by decide +kernel) rfl) pa_nil))))
          (pw_and1 (pt_cmpR op_eq (pe_callB call_len_seq (by rfl) G.len PySem.boot_len (pa_cons (pv 1) pa_nil)) pe_int (nomark _)))))
        (pss_cons (ps_for PassesOwn.never rfl (pi_range1 (by rfl) G.range (pa_cons (pe_op op_add (pe_callB call_len_seq (by rfl) G.len PySem.boot_len (pa_cons (pv 2) pa_nil)) pe_int) pa_nil)) (pg_name (i := 5) S.nd rfl (.inl rfl))
          (pss_cons (ps_set (i := 6) S.nd rfl (.inl rfl) (pe_c Cl hr (by decide) (by rfl) (pa_cons (pv 4) pa_nil)))
          (pss_cons (ps_set (i := 4) S.nd rfl (.inl rfl) (pe_op op_add (pv 4) pe_int))
          (pss_one (ps_if (pt_cmpR op_notIn_seq (pv 6) (pv 2) (by rfl)) (pss_one ps_break) pss_nil)))))
        (pss_one (ps_dput hu (pv 3) (pe_tup (pa_cons (pe_ix ix_tup (pv 1) pe_int (fun _ _ => rfl)) (pa_cons (pe_ix ix_tup (pv 1) pe_int (fun _ _ => rfl)) pa_nil))) (pv 6) rfl))) pss_nil)))
    (pss_cons (ps_set (i := 7) S.nd rfl (.inl rfl) (pe_lst pa_nil))
    (pss_cons (ps_for PassesOwn.never rfl (pi_list (pv 0)) (pg_name (i := 1) S.nd rfl (.inl rfl))
      (pss_one (ps_if (pt_val (pe_callB call_isi (by rfl) G.isinst (by decide +kernel) (pa_cons (pv 1) (pa_cons (pe_bltn (v := .ty "str") (by rfl) G.str (by decide +kernel) rfl) pa_nil))))
        (pss_one (ps_expr (pe_bm PySem.F.plainAttrs_list PySem.F.slot_list_append PySem.F.type_list_append mt_append (pv 7) (pa_cons (pv 1) pa_nil))))
        (pss_one (ps_expr (pe_bm PySem.F.plainAttrs_list PySem.F.slot_list_append PySem.F.type_list_append mt_append (pv 7) (pa_cons (pe_ifExp (pt_cmpR op_eq (pe_callB call_len_seq (by rfl) G.len PySem.boot_len (pa_cons (pv 1) pa_nil)) pe_int (nomark _))
          (pe_op op_add_str pe_str (pe_dget hu (pv 3) (pe_tup (pa_cons (pe_ix ix_tup (pv 1) pe_int (fun _ _ => rfl)) (pa_cons (pe_ix ix_tup (pv 1) pe_int (fun _ _ => rfl)) pa_nil))) (fun _ _ => rfl))) (pe_dget hu (pv 3) (pv 1) (fun _ _ => rfl))) pa_nil)))))))
    (pss_one (ps_ret (pe_callTy call_tuple_of (by rfl) G.tuple (by decide +kernel) (pa_cons (pv 7) pa_nil))))))))), ?_⟩
  have hxl := hit.len
  have hbl := bars_len its
  have htl := takeKeys_len its
  -- barred
  refine ⟨.ref a, rfl, a, rfl, ⟨_, SqL.mk ha⟩, fun b nb => lc_it (walk_list (xs := xs)) (fun i H1 => Same H H1 ∧ H1 b = some (.lst ((bars (its.take i)).map sV))) ⟨same_upd nb, upd_same⟩ (fun i H1 _ h => SqL.mk (h.1 _ _ ha)) ?_ ?_⟩
  · rintro i x H1 H2 hi ⟨s1, h1⟩ ⟨rfl, ex⟩
    obtain ⟨it, ei, hv⟩ := hit.get ex
    have hil' : i < its.length := lt_of_get ei
    refine ⟨rfl, ?_⟩
    have hb : bars (its.take (i + 1)) = bars (its.take i) ++ bars [it] := bars_step ei
    cases it with
    | s w =>
      have hv : x = sV w := hv
      subst hv
      refine ⟨_, rfl, _, _, _, _, true, rfl, .ty _, .base (.str _), kit_ty (a := "str") (b := "str") (by decide +kernel), true, rfl, ?_⟩
      refine ⟨_, rfl, _, h1, line_lt (by rw [List.length_map]; have := bars_len (its.take i); rw [List.length_take] at this; omega), fun p o e => ?_, ?_⟩
      · rw [upd_ne (ne_of_none e nb)]; exact s1 _ _ e
      · rw [upd_same, hb, List.map_append]; rfl
    | tk m n =>
      obtain ⟨p, rfl, hp⟩ := hv
      refine ⟨_, rfl, _, _, _, _, false, rfl, .ty _, .base (.tup (s1 _ _ hp)), kit_ty (a := "tuple") (b := "str") (by decide +kernel), false, rfl, s1, ?_⟩
      rw [h1, hb]
      show _ = some (HO.lst ((bars (its.take i) ++ []).map sV))
      rw [List.append_nil]
    | nm m n =>
      obtain ⟨p, rfl, hp⟩ := hv
      refine ⟨_, rfl, _, _, _, _, false, rfl, .ty _, .base (.tup (s1 _ _ hp)), kit_ty (a := "tuple") (b := "str") (by decide +kernel), false, rfl, s1, ?_⟩
      rw [h1, hb]
      show _ = some (HO.lst ((bars (its.take i) ++ []).map sV))
      rw [List.append_nil]
  · rintro H1 ⟨s1, hb⟩
    have eb : bars (its.take xs.length) = bars its := by rw [hxl, List.take_length]
    rw [eb] at hb
    generalize hB : bars its = B at hb hbl
    -- called
    intro d nd
    have nbd : b ≠ d := ne_of_none hb nd
    have s2 := s1.trans (same_upd (o := .dT []) nd)
    refine ⟨.ref a, rfl, a, rfl, ⟨_, SqL.mk (s2 _ _ ha)⟩, for_it (walk_list (xs := xs)) (fun i σ H2 => ∃ y1 y5 y6 kvs, σ = [some (.ref a), y1, some (.ref b), some (.ref d), some (nV (num B (takeKeys (its.take i)).length)), y5, y6, none] ∧ Same H1 H2 ∧ H2 d = some (.dT kvs) ∧ kvs.length ≤ i ∧
        ∀ k : Wd × Wd, valV kvs (kk k) = if k ∈ takeKeys (its.take i) then some (sV (sname B ((takeKeys its).idxOf k))) else none)
      ⟨none, none, none, [], rfl, same_upd nd, upd_same, Nat.le_refl _, fun k => by rw [if_neg (by simp [takeKeys])]; rfl⟩ (fun i σ H2 _ ⟨_, _, _, _, _, s3, _⟩ => SqL.mk (s3 _ _ (s1 _ _ ha))) ?_ ?_⟩
    · rintro i x σ H2 H3 hi ⟨y1, y5, y6, kvs, rfl, s3, hd, hl, hm⟩ ⟨rfl, ex⟩
      obtain ⟨it, ei, hv⟩ := hit.get ex
      have hv := (hv.same s1).same s3
      have hil' : i < its.length := lt_of_get ei
      have hts := takeKeys_step ei
      cases it with
      | s w =>
        have hv : x = sV w := hv
        subst hv
        rw [takeKeys_s, List.append_nil] at hts
        refine ⟨_, rfl, _, _, _, _, false, rfl, .ty _, .base (.str _), kit_ty (a := "str") (b := "tuple") (by decide +kernel), false, rfl, ?_⟩
        refine ⟨some (sV w), y5, y6, kvs, ?_, s3, hd, by omega, fun k => ?_⟩
        · rw [hts]; rfl
        · rw [hts]; exact hm k
      | nm m n =>
        obtain ⟨p, rfl, hp⟩ := hv
        rw [takeKeys_nm, List.append_nil] at hts
        refine ⟨_, rfl, _, _, _, _, true, rfl, .ty _, .base (.tup hp), kit_ty (a := "tuple") (b := "tuple") (by decide +kernel), true, rfl, ?_⟩
        refine ⟨_, rfl, p, _, rfl, .inr (SqT.mk hp), rfl, _, rfl, ?_⟩
        refine ⟨some (.ref p), y5, y6, kvs, ?_, s3, hd, by omega, fun k => ?_⟩
        · rw [hts]; rfl
        · rw [hts]; exact hm k
      | tk m n =>
        obtain ⟨p, rfl, hp⟩ := hv
        rw [takeKeys_tk] at hts
        refine ⟨_, rfl, _, _, _, _, true, rfl, .ty _, .base (.tup hp), kit_ty (a := "tuple") (b := "tuple") (by decide +kernel), true, rfl, ?_⟩
        refine ⟨_, rfl, p, _, rfl, .inr (SqT.mk hp), rfl, _, rfl, ?_⟩
        have hb3 : H3 b = some (.lst (B.map sV)) := s3 _ _ hb
        have hkl : (takeKeys (its.take i)).length ≤ 1000 := by have := takeKeys_len (its.take i); rw [List.length_take] at this; omega
        generalize hk : (takeKeys (its.take i)).length = k at hkl
        have hnk : num B k ≤ 1001 * 1001 := Nat.le_trans (num_le _ _) (Nat.mul_le_mul (by omega) (by omega))
        -- the search for a name
        refine ⟨_, rfl, b, _, rfl, .inl (SqL.mk hb3), _, _, rfl, rfl, _, rfl, by omega, by rw [List.length_map]; omega, ?_⟩
        have en : (((B.map sV).length : Int) + 1).toNat = B.length + 1 := by rw [List.length_map]; omega
        rw [en]
        refine for_range (fun j σ H' => H' = H3 ∧ ∃ y5 y6, σ = [some (.ref a), some (.ref p), some (.ref b), some (.ref d), some (nV (num B k + j)), y5, y6, none] ∧ ∀ j', j' < j → letters (num B k + j') ∈ B) ⟨rfl, y5, y6, rfl, fun j hj => by omega⟩ ?_ ?_
        · rintro j σ H' hj ⟨rfl, z5, z6, rfl, hall⟩
          refine ⟨_, rfl, num B k + j, rfl, by omega, _, rfl, _, _, rfl, rfl, ?_⟩
          refine ⟨_, rfl, _, rfl, b, _, rfl, .inl (SqL.mk hb3), rfl, flat_words B, _, rfl, ?_⟩
          show if (!inV (sV (letters (num B k + j))) (B.map sV)) = true then _ else _
          rw [inV_words]
          have e1 : (((num B k + j : Nat) : Int) + 1) = ((num B k + (j + 1) : Nat) : Int) := by omega
          by_cases hin : letters (num B k + j) ∈ B
          · rw [decide_eq_true hin]
            refine ⟨rfl, some (V.int (0 + (j : Int))), some (sV (letters (num B k + j))), congrArg (fun z => [some (V.ref a), some (.ref p), some (.ref b), some (.ref d), some (V.int z), some (V.int (0 + (j : Int))), some (sV (letters (num B k + j))), none]) e1, fun j' hj' => ?_⟩
            by_cases e : j' = j
            · subst e; exact hin
            · exact hall j' (by omega)
          · rw [decide_eq_false hin]
            have hnx : nxt B (num B k) = num B k + j := nxt_uniq (Nat.le_add_right _ _) hin fun j' h1 h2 => by
              have := hall (j' - num B k) (by omega)
              rwa [show num B k + (j' - num B k) = j' by omega] at this
            have hkey0 : (m, n) ∉ takeKeys (its.take i) := fun hm => by
              have e0 : takeKeys its = takeKeys (its.take i) ++ takeKeys (its.drop i) := by rw [← takeKeys_app, List.take_append_drop]
              rw [drop_get ei, show Itm.tk m n :: its.drop (i + 1) = [Itm.tk m n] ++ its.drop (i + 1) from rfl, takeKeys_app, takeKeys_tk] at e0
              have hnd := hnd
              rw [e0, List.nodup_append] at hnd
              exact hnd.2.2 _ hm (m, n) (by simp) rfl
            have hidx : (takeKeys its).idxOf (m, n) = k := by
              have e0 : takeKeys its = takeKeys (its.take i) ++ ([(m, n)] ++ takeKeys (its.drop (i + 1))) := by
                have : takeKeys its = takeKeys (its.take i) ++ takeKeys (its.drop i) := by rw [← takeKeys_app, List.take_append_drop]
                rw [this, drop_get ei, show Itm.tk m n :: its.drop (i + 1) = [Itm.tk m n] ++ its.drop (i + 1) from rfl, takeKeys_app, takeKeys_tk]
              rw [e0, List.idxOf_append, if_neg hkey0, hk]
              simp [List.idxOf_cons]
            -- called[..] = name
            refine ⟨_, rfl, _, rfl, _, rfl, p, _, _, sV m, rfl, rfl, SqT.mk hp, atI_nat (j := 1) rfl, _, rfl, p, _, _, sV n, rfl, rfl, SqT.mk hp, atI_nat (j := 2) rfl, by show 2 ≤ sizeLine; decide, fun t nt => ?_⟩
            have hdt : d ≠ t := ne_of_none hd nt
            have hd4 : (upd H' t (.tup [sV m, sV n])) d = some (.dT kvs) := by rw [upd_ne hdt]; exact hd
            refine ⟨d, _, rfl, DPut.t (k := kk (m, n)) hd4 upd_same (line_lt (by omega)), ?_⟩
            refine ⟨some (.ref p), some (V.int (0 + (j : Int))), some (sV (letters (num B k + j))), _, ?_, fun r o e => ?_, upd_same, ?_, fun kq => ?_⟩
            · rw [hts, List.length_append, List.length_singleton, hk]
              have e2 : (((num B k + j : Nat) : Int) + 1) = ((num B (k + 1) : Nat) : Int) := by
                show _ = ((nxt B (num B k) + 1 : Nat) : Int)
                omega
              exact congrArg (fun z => [some (V.ref a), some (.ref p), some (.ref b), some (.ref d), some (V.int z), some (V.int (0 + (j : Int))), some (sV (letters (num B k + j))), none]) e2
            · have e0 : H' r = some o := s3 _ _ e
              rw [upd_ne (ne_of_none e nd), upd_ne (ne_of_none e0 nt)]; exact e0
            · have := length_putK kvs (kk (m, n)) (sV (letters (num B k + j))); omega
            · rw [valV_put, hts]
              by_cases e : kk kq = kk (m, n)
              · have e2 := kk_inj e
                subst e2
                rw [if_pos rfl, if_pos (List.mem_append_right _ (by simp)), hidx]
                unfold sname
                rw [hnx]
              · have e2 : ¬ kq = (m, n) := fun z => e (by rw [z])
                rw [if_neg e, hm kq]
                have e3 : kq ∈ takeKeys (its.take i) ↔ kq ∈ takeKeys (its.take i) ++ [(m, n)] := ⟨fun z => List.mem_append_left _ z, fun z => (List.mem_append.mp z).elim id fun z => absurd (List.mem_singleton.mp z) e2⟩
                by_cases h : kq ∈ takeKeys (its.take i)
                · rw [if_pos h, if_pos (e3.mp h)]
                · rw [if_neg h, if_neg fun z => h (e3.mpr z)]
        · rintro σ H' ⟨rfl, z5, z6, rfl, hall⟩
          exact (pigeon B (num B k) fun j hj => hall j (by omega)).elim
    · rintro σ H2 ⟨y1, y5, y6, kvs, rfl, s3, hd, hl, hm⟩
      have ek : its.take xs.length = its := by rw [hxl, List.take_length]
      rw [ek] at hm
      have s13 := s1.trans s3
      -- found
      refine ⟨Nat.zero_le _, fun fo nf => ?_⟩
      have nfd : d ≠ fo := ne_of_none hd nf
      refine ⟨.ref a, rfl, a, rfl, ⟨_, SqL.mk ((s13.trans (same_upd nf)) _ _ ha)⟩, for_it (walk_list (xs := xs)) (fun i σ H3 => ∃ y1, σ = [some (.ref a), y1, some (.ref b), some (.ref d), some (nV (num B (takeKeys (its.take xs.length)).length)), y5, y6, some (.ref fo)] ∧ Same H2 H3 ∧ H3 d = some (.dT kvs) ∧ H3 fo = some (.lst (((its.take i).map (lawItm its)).map sV)))
        ⟨y1, rfl, same_upd nf, by rw [upd_ne nfd]; exact hd, upd_same⟩ (fun i σ H3 _ ⟨_, _, s4, _⟩ => SqL.mk ((s13.trans s4) _ _ ha)) ?_ ?_⟩
      · rintro i x σ H3 H4 hi ⟨z1, rfl, s4, hd4, hf⟩ ⟨rfl, ex⟩
        obtain ⟨it, ei, hv⟩ := hit.get ex
        have hv := (hv.same s13).same s4
        have hil' : i < its.length := lt_of_get ei
        have hin := List.mem_of_getElem? ei
        have fin : ∀ (y : Wd) (H5 : Hp), Same H4 H5 → H5 fo = some (.lst (((its.take i).map (lawItm its)).map sV)) → y = lawItm its it → ∃ l xs' z, V.ref fo = .ref l ∧ [sV y] = [z] ∧ H5 l = some (.lst xs') ∧ xs'.length < sizeLine ∧
            (∃ y1, ([some (V.ref a), some x, some (.ref b), some (.ref d), some (nV (num B (takeKeys (its.take xs.length)).length)), y5, y6, some (.ref fo)] : L2.St) = [some (.ref a), y1, some (.ref b), some (.ref d), some (nV (num B (takeKeys (its.take xs.length)).length)), y5, y6, some (.ref fo)] ∧
              Same H2 (upd H5 l (.lst (xs' ++ [z]))) ∧ (upd H5 l (.lst (xs' ++ [z]))) d = some (.dT kvs) ∧ (upd H5 l (.lst (xs' ++ [z]))) fo = some (.lst (((its.take (i + 1)).map (lawItm its)).map sV))) := by
          intro y H5 s5 hf5 ey
          refine ⟨fo, _, _, rfl, rfl, hf5, line_lt (by rw [List.length_map, List.length_map, List.length_take]; omega), some x, rfl, fun r o e => ?_, ?_, ?_⟩
          · rw [upd_ne (ne_of_none e nf)]; exact (s4.trans s5) _ _ e
          · rw [upd_ne nfd]; exact s5 _ _ hd4
          · rw [upd_same, List.take_add_one, ei, List.map_append, List.map_append, ey]; rfl
        have hsn : ∀ k, k ∈ takeKeys its → (sname B ((takeKeys its).idxOf k)).length ≤ 1002002 := fun k hk => by
          have h3 := List.idxOf_lt_length_iff.mpr hk
          exact sname_small (by omega) (by omega)
        cases it with
        | s w =>
          have hv : x = sV w := hv
          subst hv
          refine ⟨_, rfl, _, _, _, _, true, rfl, .ty _, .base (.str _), kit_ty (a := "str") (b := "str") (by decide +kernel), true, rfl, ?_⟩
          exact ⟨_, rfl, .inl ⟨rfl, _, SqL.mk hf⟩, _, rfl, fin w _ (Same.refl _) hf rfl⟩
        | tk m n =>
          obtain ⟨p, rfl, hp⟩ := hv
          have hkin : (m, n) ∈ takeKeys its := mem_takeKeys.mpr hin
          have hval := hm (m, n)
          rw [if_pos hkin] at hval
          refine ⟨_, rfl, _, _, _, _, false, rfl, .ty _, .base (.tup hp), kit_ty (a := "tuple") (b := "str") (by decide +kernel), false, rfl, ?_⟩
          refine ⟨_, rfl, .inl ⟨rfl, _, SqL.mk hf⟩, _, rfl, p, _, rfl, .inr (SqT.mk hp), rfl, _, rfl, ?_⟩
          refine ⟨_, rfl, _, rfl, p, _, _, sV m, rfl, rfl, SqT.mk hp, atI_nat (j := 1) rfl, _, rfl, p, _, _, sV n, rfl, rfl, SqT.mk hp, atI_nat (j := 2) rfl, by show 2 ≤ sizeLine; decide, fun t nt => ?_⟩
          have hd5 : (upd H4 t (.tup [sV m, sV n])) d = some (.dT kvs) := by rw [upd_ne (ne_of_none hd4 nt)]; exact hd4
          have hf5 : (upd H4 t (.tup [sV m, sV n])) fo = some (.lst (((its.take i).map (lawItm its)).map sV)) := by rw [upd_ne (ne_of_none hf nt)]; exact hf
          refine ⟨d, sV (sname B ((takeKeys its).idxOf (m, n))), rfl, ?_, ?_⟩
          · rw [← hval]; exact DGet.t (k := kk (m, n)) hd5 upd_same
          · have hsl := hsn _ hkin
            refine ⟨sW [47], sW (sname B ((takeKeys its).idxOf (m, n))), by rw [s_sl], rfl, line_ok (by rw [sW_len, sW_len]; simp only [List.length_cons, List.length_nil]; omega), ?_⟩
            rw [sW_app]
            refine fin _ _ (same_upd nt) hf5 ?_
            show _ = 47 :: lnm its (m, n)
            unfold lnm
            rw [hB]; rfl
        | nm m n =>
          obtain ⟨p, rfl, hp⟩ := hv
          have hkin : (m, n) ∈ takeKeys its := hnm m n hin
          have hval := hm (m, n)
          rw [if_pos hkin] at hval
          refine ⟨_, rfl, _, _, _, _, false, rfl, .ty _, .base (.tup hp), kit_ty (a := "tuple") (b := "str") (by decide +kernel), false, rfl, ?_⟩
          refine ⟨_, rfl, .inl ⟨rfl, _, SqL.mk hf⟩, _, rfl, p, _, rfl, .inr (SqT.mk hp), rfl, _, rfl, ?_⟩
          refine ⟨_, rfl, _, rfl, d, sV (sname B ((takeKeys its).idxOf (m, n))), rfl, ?_, ?_⟩
          · rw [← hval]; exact DGet.t (k := kk (m, n)) hd4 hp
          · refine fin _ _ (Same.refl _) hf ?_
            show _ = lnm its (m, n)
            unfold lnm
            rw [hB]
      · rintro σ H3 ⟨z1, rfl, s4, hd4, hf⟩
        rw [ek] at hf
        have s14 := s13.trans s4
        exact ⟨_, rfl, fo, _, rfl, .inl ⟨SqL.mk hf, fun p np => q p _ (s14.trans (same_upd np)) (s14.free np) upd_same⟩⟩
end
end K11

set_option Elab.async false
set_option linter.all false
set_option maxRecDepth 100000
set_option maxHeartbeats 4000000
namespace K11
open PySem PySem.Spec PyProof.Rows L2
section
variable {P : Program} {w : World} {K : PySem.W.Frag} {mg : Str → Option Value} {base : Heap}
/-! ### _law_sides -/
def spSides : Sp := fun vs H Q _ => ∃ (p : Pot) (many : Nat), vs = [.ref p.pot, nV many] ∧ PotAt H p ∧ many ≤ 1000 ∧ ∀ (l : Addr) (bs : List Bool) (H' : Hp), bs.length = many → PotAt H' p → H' l = some (.lst (bs.map V.bl)) → Kp p H H' → Q (.ref l) H'
theorem rep_bool (k : Nat) (b : Bool) : (List.replicate k [V.bl b]).flatten = (List.replicate k b).map V.bl := by
  rw [rep_flat, List.map_replicate]
theorem c_sides {f : Addr} {fd : FuncData} (F : FnP K "_law_sides" s_law_sides f fd) (g : mg "_law_sides" = some (.ref f)) (G : Gb mg) (Cd : Cal P w K mg base 1 "_law_draw" spDraw) : Cal P w K mg base 2 "_law_sides" spSides := by
  have S : FnScope ["_law_pot_here", "_law_many", "_law_turn", "_law_at"] ["_law_pot_here", "_law_many"] (defScope s_law_sides) := C8.fnScope_by (by decide +kernel)
  refine cal_of F g S (FunD.bindsN F fun _ _ _ _ _ _ us hl => match us, hl with | [_, _], _ => rfl) (fun vs H Q E ⟨_, _, e, _⟩ => by rw [e]; rfl) (fun cdv A outer s H vs Q E hr h => ?_)
  obtain ⟨p, many, rfl, hp, hm, q⟩ := h
  refine ⟨_, pss_cons (ps_set (i := 2) S.nd rfl (.inl rfl) (pe_c Cd hr (by decide) (by rfl) (pa_cons (pv 0) (pa_cons pe_int pa_nil))))
    (pss_cons (ps_if (pt_cmpR op_lt (pv 2) pe_int (nomark _)) (pss_one (ps_ret (pe_op op_rep (pe_lst (pa_cons (pe_cmpR op_eq (pv 2) pe_int (nomark _)) pa_nil)) (pv 1)))) pss_nil)
    (pss_cons (ps_if (pt_cmpR op_eq (pv 2) pe_int (nomark _)) (pss_one (ps_ret (pe_lc (own := [("_law_at", 3)]) (g := gName 3) (tt := tYes) rfl S.nd (pi_range1 (by rfl) G.range (pa_cons (pv 1) pa_nil)) (blkOk_by (N := ["_law_pot_here", "_law_many", "_law_turn", "_law_at"]) (sc := defScope s_law_sides) (by decide +kernel))
        (fun _ _ _ _ _ => pg_name (i := 3) S.nd rfl (Or.inl rfl)) (fun _ _ _ _ _ => pts_nil) (fun _ _ _ _ _ => pe_cmpR op_eq (pe_op op_mod (pe_callTy call_int1 (by rfl) G.int (by decide +kernel) (pa_cons (pv 3) pa_nil)) pe_int) pe_int (nomark _))))) pss_nil)
    (pss_one (ps_ret (pe_lc (own := [("_law_at", 3)]) (g := gName 3) (tt := tYes) rfl S.nd (pi_range1 (by rfl) G.range (pa_cons (pv 1) pa_nil)) (blkOk_by (N := ["_law_pot_here", "_law_many", "_law_turn", "_law_at"]) (sc := defScope s_law_sides) (by decide +kernel))
        (fun _ _ _ _ _ => pg_name (i := 3) S.nd rfl (Or.inl rfl)) (fun _ _ _ _ _ => pts_nil) (fun _ _ _ _ _ => pe_cmpR op_eq (pe_c Cd hr (by decide) (by rfl) (pa_cons (pv 0) (pa_cons pe_int pa_nil))) pe_int (nomark _))))))), ?_⟩
  refine ⟨_, rfl, p, 4, rfl, hp, by decide, by decide, fun r H1 hr1 hp1 k1 => ?_⟩
  have en : ((many : Nat) : Int).toNat = many := by simp
  refine ⟨_, rfl, _, _, rfl, rfl, _, rfl, ite2 (fun _ => ?_) (fun _ => ?_)⟩
  · refine ⟨_, rfl, rfl, by show 1 ≤ sizeLine; decide, fun l nl => ?_⟩
    generalize decide (nV r = V.int 0) = b
    have s1 : Same H1 (upd H1 l (.lst [.bl b])) := same_upd nl
    refine ⟨_, rfl, l, many, [.bl b], rfl, rfl, upd_same, by omega, by omega, line_ok (by rw [en]; simp; omega), fun l2 nl2 => ?_⟩
    refine q l2 (List.replicate many b) _ (by simp) ((hp1.same s1).same (same_upd nl2)) (by rw [upd_same, en, rep_bool]) ((k1.trans (Same.kp s1)).trans (Same.kp (same_upd nl2)))
  · refine ⟨_, rfl, rfl, _, rfl, ite2 (fun _ => ?_) (fun _ => ?_)⟩
    · refine ⟨_, rfl, _, rfl, by omega, by omega, ?_⟩
      rw [en]
      intro D hD
      refine lc_it (walk_range (lo := 0) (n := many)) (fun i H2 => Same H1 H2 ∧ ∃ bs : List Bool, bs.length = i ∧ H2 D = some (.lst (bs.map V.bl))) ⟨same_upd hD, [], rfl, upd_same⟩ (fun _ _ _ _ => trivial) ?_ ?_
      · rintro i x H2 H3 hi ⟨s2, bs, hbl, h2⟩ ⟨rfl, rfl⟩
        refine ⟨rfl, ?_⟩
        refine ⟨_, rfl, .inl ⟨_, rfl, _, _, rfl, rfl, (by show (0 : Int) < 2; decide), rfl, _, h2, line_lt (by rw [List.length_map]; omega), fun b o e => ?_, bs ++ [decide (V.int ((0 + (i : Int)) % 2) = V.int 0)], by rw [List.length_append, List.length_singleton, hbl], ?_⟩⟩
        · rw [upd_ne (ne_of_none e hD)]; exact s2 _ _ e
        · rw [upd_same, List.map_append]; rfl
      · rintro H2 ⟨s2, bs, hbl, h2⟩
        exact q D bs H2 hbl (hp1.same s2) h2 (k1.trans (Same.kp s2))
    · refine ⟨_, rfl, _, rfl, by omega, by omega, ?_⟩
      rw [en]
      intro D hD
      have oD := hp1.off hD
      refine lc_it (walk_range (lo := 0) (n := many)) (fun i H2 => PotAt H2 p ∧ Kp p H1 H2 ∧ ∃ bs : List Bool, bs.length = i ∧ H2 D = some (.lst (bs.map V.bl))) ⟨hp1.same (same_upd hD), Same.kp (same_upd hD), [], rfl, upd_same⟩ (fun _ _ _ _ => trivial) ?_ ?_
      · rintro i x H2 H3 hi ⟨hp2, k2, bs, hbl, h2⟩ ⟨rfl, rfl⟩
        refine ⟨rfl, ?_⟩
        refine ⟨_, rfl, p, 2, rfl, hp2, by decide, by decide, fun r2 H4 hr2 hp4 k4 => ?_⟩
        have h4 : H4 D = some (.lst (bs.map V.bl)) := k4 _ _ h2 oD.1 oD.2
        refine ⟨rfl, _, h4, line_lt (by rw [List.length_map]; omega), ?_, fun b o e n1 n2 => ?_, bs ++ [decide (nV r2 = V.int 0)], by rw [List.length_append, List.length_singleton, hbl], ?_⟩
        · obtain ⟨t, u0, gs, ss, a1, a2, a3, a4⟩ := hp4.ex
          have a5 : p.s ≠ D := ne_of a3 h4 (by
            intro z
            injection z with z
            cases ss with
            | nil => exact a4 rfl
            | cons x r => cases bs <;> cases z)
          refine ⟨⟨t, u0, gs, ss, ?_, ?_, ?_, a4⟩, hp4.gs⟩
          · rw [upd_ne oD.1.symm]; exact a1
          · rw [upd_ne oD.2.symm]; exact a2
          · rw [upd_ne a5]; exact a3
        · rw [upd_ne (ne_of_none e hD)]; exact (k2.trans k4) b o e n1 n2
        · rw [upd_same, List.map_append]; rfl
      · rintro H2 ⟨hp2, k2, bs, hbl, h2⟩
        exact q D bs H2 hbl hp2 h2 (k1.trans k2)
/-! ### _law_comb -/
def spComb (K : PySem.W.Frag) : Sp := fun vs H Q _ => ∃ (a b : Addr) (ns : List Wd) (bs : List Bool), vs = [.ref a, .ref b] ∧ SqL K H a (ns.map sV) ∧ SqL K H b (bs.map V.bl) ∧ ns.length = bs.length + 1 ∧ bs.length ≤ 1000 ∧ ∀ (p : Addr) (H' : Hp), Same H H' → SqT K H' p ((comb ns bs).map sV) → Q (.ref p) H'
theorem c_comb {f : Addr} {fd : FuncData} (F : FnP K "_law_comb" s_law_comb f fd) (g : mg "_law_comb" = some (.ref f)) (G : Gb mg) : Cal P w K mg base 1 "_law_comb" (spComb K) := by
  have S : FnScope ["_law_names", "_law_sides_here", "_law_head", "_law_tail", "_law_at"] ["_law_names", "_law_sides_here"] (defScope s_law_comb) := C8.fnScope_by (by decide +kernel)
  refine cal_of F g S (FunD.bindsN F fun _ _ _ _ _ _ us hl => match us, hl with | [_, _], _ => rfl) (fun vs H Q E ⟨_, _, _, _, e, _⟩ => by rw [e]; rfl) (fun cdv A outer s H vs Q E hr h => ?_)
  obtain ⟨a, b, ns, bs, rfl, ha, hb, hl, hbl, q⟩ := h
  refine ⟨_, pss_cons (ps_set (i := 2) S.nd rfl (.inl rfl) (pe_tup pa_nil))
    (pss_cons (ps_set (i := 3) S.nd rfl (.inl rfl) (pe_tup pa_nil))
    (pss_cons (ps_for PassesOwn.never rfl (pi_range1 (by rfl) G.range (pa_cons (pe_callB call_len_seq (by rfl) G.len PySem.boot_len (pa_cons (pv 1) pa_nil)) pa_nil)) (pg_name (i := 4) S.nd rfl (.inl rfl))
      (pss_one (ps_if (pt_val (pe_ix ix_list (pv 1) (pv 4) (fun _ _ => rfl)))
        (pss_cons (ps_set (i := 2) S.nd rfl (.inl rfl) (pe_op op_catA (pv 2) (pe_tup (pa_cons pe_str pa_nil))))
        (pss_one (ps_set (i := 3) S.nd rfl (.inl rfl) (pe_op op_catA (pe_tup (pa_cons (pe_ix ix_list (pv 0) (pv 4) (fun _ _ => rfl)) pa_nil)) (pv 3)))))
        (pss_one (ps_set (i := 2) S.nd rfl (.inl rfl) (pe_op op_catA (pv 2) (pe_tup (pa_cons pe_str (pa_cons (pe_ix ix_list (pv 0) (pv 4) (fun _ _ => rfl)) pa_nil)))))))))
    (pss_one (ps_ret (pe_op op_catA (pe_op op_catA (pv 2) (pe_tup (pa_cons (pe_ix ix_list (pv 0) (pe_un un_neg pe_int) (fun _ _ => rfl)) pa_nil))) (pv 3)))))), ?_⟩
  refine ⟨Nat.zero_le _, fun h0 nh0 => ?_⟩
  have s1 : Same H (upd H h0 (.tup [])) := same_upd nh0
  refine ⟨Nat.zero_le _, fun t0 nt0 => ?_⟩
  have s2 := s1.trans (same_upd (o := .tup []) nt0)
  have th0 : SqT K (upd (upd H h0 (.tup [])) t0 (.tup [])) h0 (([] : List Wd).map sV) := SqT.mk (by rw [upd_ne (ne_of_none upd_same nt0)]; exact upd_same)
  have tt0 : SqT K (upd (upd H h0 (.tup [])) t0 (.tup [])) t0 (([] : List Wd).map sV) := SqT.mk upd_same
  refine ⟨.ref b, rfl, b, _, rfl, .inl (s2.seq hb), _, rfl, by omega, by rw [List.length_map]; omega, ?_⟩
  have en : ((bs.map V.bl).length : Int).toNat = bs.length := by rw [List.length_map]; omega
  rw [en]
  refine for_range (fun i σ H' => ∃ (hd tl : Addr) (y4 : Option V) (xs ys : List Wd), σ = [some (.ref a), some (.ref b), some (.ref hd), some (.ref tl), y4] ∧ Same H H' ∧ SqT K H' hd (xs.map sV) ∧ SqT K H' tl (ys.map sV) ∧ xs.length ≤ 2 * i ∧ ys.length ≤ i ∧ xs ++ comb (ns.drop i) (bs.drop i) ++ ys = comb ns bs)
    ⟨h0, t0, none, [], [], rfl, s2, th0, tt0, Nat.le_refl _, Nat.le_refl _, by simp⟩ ?_ ?_
  · rintro i σ H1 hi ⟨hd, tl, y4, xs, ys, rfl, s3, hhd, htl, hx, hy, hc⟩
    have hni : i < ns.length := by omega
    have gi : (bs.map V.bl)[i]? = some (V.bl bs[i]) := map_get (List.getElem?_eq_getElem hi)
    have gn : (ns.map sV)[i]? = some (sV ns[i]) := map_get (List.getElem?_eq_getElem hni)
    have ei : (0 + (i : Int)) = (i : Int) := by omega
    have dn : ns.drop i = ns[i] :: ns.drop (i + 1) := List.drop_eq_getElem_cons hni
    have db : bs.drop i = bs[i] :: bs.drop (i + 1) := List.drop_eq_getElem_cons hi
    rw [dn, db] at hc
    generalize ns[i] = n at gn hc
    generalize bs[i] = bv at gi hc
    refine ⟨.ref b, rfl, _, rfl, b, _, _, _, rfl, rfl, s3.seq hb, (by rw [ei]; exact atI_nat gi), bv, rfl, ?_⟩
    cases bv with
    | true =>
      have hc : xs ++ ([64] :: (comb (ns.drop (i + 1)) (bs.drop (i + 1)) ++ [n])) ++ ys = comb ns bs := hc
      refine ⟨.ref hd, rfl, by show 1 ≤ sizeLine; decide, fun t nt => ?_⟩
      have s4 := same_upd (o := .tup [V.str "@"]) nt
      refine cat_words (ys := [[64]]) (Same.tup s4 hhd) (SqT.mk (by rw [upd_same, s_at]; rfl)) (by simp only [List.length_cons, List.length_nil]; omega) fun h2 H2 s5 hh2 => ?_
      have s45 := s4.trans s5
      refine ⟨.ref a, rfl, _, rfl, a, _, _, _, rfl, rfl, (s3.trans s45).seq ha, (by rw [ei]; exact atI_nat gn), by show 1 ≤ sizeLine; decide, fun t2 nt2 => ?_⟩
      have s6 := same_upd (o := .tup [sV n]) nt2
      refine ⟨.ref tl, rfl, ?_⟩
      refine cat_words (xs := [n]) (ys := ys) (SqT.mk upd_same) (Same.tup (s45.trans s6) htl) (by simp only [List.length_cons, List.length_nil]; omega) fun t3 H3 s7 ht3 => ?_
      refine ⟨h2, t3, some (V.int (0 + (i : Int))), xs ++ [[64]], [n] ++ ys, rfl, ((s3.trans s45).trans s6).trans s7, Same.tup (s6.trans s7) hh2, ht3, by simp only [List.length_append, List.length_cons, List.length_nil]; omega, by simp only [List.length_append, List.length_cons, List.length_nil]; omega, ?_⟩
      rw [← hc]; simp
    | false =>
      have hc : xs ++ ([64] :: n :: comb (ns.drop (i + 1)) (bs.drop (i + 1))) ++ ys = comb ns bs := hc
      refine ⟨.ref hd, rfl, .ref a, rfl, _, rfl, a, _, _, _, rfl, rfl, s3.seq ha, (by rw [ei]; exact atI_nat gn), by show 2 ≤ sizeLine; decide, fun t nt => ?_⟩
      have s4 := same_upd (o := .tup [V.str "@", sV n]) nt
      refine cat_words (ys := [[64], n]) (Same.tup s4 hhd) (SqT.mk (by rw [upd_same, s_at]; rfl)) (by simp only [List.length_cons, List.length_nil]; omega) fun h2 H2 s5 hh2 => ?_
      refine ⟨h2, tl, some (V.int (0 + (i : Int))), xs ++ [[64], n], ys, rfl, (s3.trans s4).trans s5, hh2, Same.tup (s4.trans s5) htl, by simp only [List.length_append, List.length_cons, List.length_nil]; omega, by omega, ?_⟩
      rw [← hc]; simp
  · rintro σ H1 ⟨hd, tl, y4, xs, ys, rfl, s3, hhd, htl, hx, hy, hc⟩
    obtain ⟨n, hn⟩ : ∃ n, ns.drop bs.length = [n] := by
      have : (ns.drop bs.length).length = 1 := by rw [List.length_drop]; omega
      exact List.length_eq_one_iff.mp this
    have hns : ns = ns.take bs.length ++ [n] := by rw [← hn, List.take_append_drop]
    rw [hn, List.drop_length] at hc
    have hc : xs ++ [n] ++ ys = comb ns bs := hc
    have gl : atI (ns.map sV) (-1) = some (sV n) := by
      rw [hns, List.map_append]
      exact atI_last _ _
    refine ⟨.ref hd, rfl, .ref a, rfl, 1, rfl, a, _, _, _, rfl, rfl, s3.seq ha, gl, by show 1 ≤ sizeLine; decide, fun t nt => ?_⟩
    have s4 := same_upd (o := .tup [sV n]) nt
    refine cat_words (ys := [n]) (Same.tup s4 hhd) (SqT.mk upd_same) (by simp only [List.length_cons, List.length_nil]; omega) fun h2 H2 s5 hh2 => ?_
    refine ⟨.ref tl, rfl, ?_⟩
    refine cat_words hh2 (Same.tup (s4.trans s5) htl) (by simp only [List.length_append, List.length_cons, List.length_nil]; omega) fun h3 H3 s6 hh3 => ?_
    rw [hc] at hh3
    exact q h3 H3 (((s3.trans s4).trans s5).trans s6) hh3
end
end K11

set_option Elab.async false
set_option linter.all false
set_option maxRecDepth 100000
set_option maxHeartbeats 4000000
namespace K11
open PySem PySem.Spec PyProof.Rows L2
/-! ### what stays while the pot is drawn from -/
theorem PotAt.not {p : Pot} {H : Hp} {a : Addr} {o : HO} (h : PotAt H p) (e : H a = some o) (n : ∀ xs, o ≠ .lst xs) : Off p a := by
  obtain ⟨t, u, gs, ss, h1, h2, h3, h4⟩ := h.ex
  exact ⟨ne_of e h1 (n _), ne_of e h2 (n _)⟩
theorem SqT.kp {K : PySem.W.Frag} {p : Pot} {H H' : Hp} {a : Addr} {xs : List V} (h : SqT K H a xs) (hp : PotAt H p) (k : Kp p H H') : SqT K H' a xs := by
  rcases h with (h | ⟨o, h⟩) | h
  · have q := hp.not h (fun _ z => by cases z)
    exact .inl (.inl (k _ _ h q.1 q.2))
  · have q := hp.not h (fun _ z => by cases z)
    exact .inl (.inr ⟨o, k _ _ h q.1 q.2⟩)
  · exact .inr h
theorem PAt.kp {K : PySem.W.Frag} {p : Pot} {H H' : Hp} {x : Addr} {ws : List Wd} (h : PAt K H x ws) (hp : PotAt H p) (k : Kp p H H') : PAt K H' x ws := by
  obtain ⟨C, dx, a, h1, h2, h3, h4⟩ := h.ex
  have q := hp.not h1 (fun _ z => by cases z)
  exact ⟨C, dx, a, k _ _ h1 q.1 q.2, h2, h3, SqT.kp h4 hp k⟩
/-- a list of the law's own, changed beside the pot -/
theorem pot_beside {p : Pot} {H : Hp} {l : Addr} {ms : List Wd} {xs : List V} (hp : PotAt H p) (ol : Off p l) (h : H l = some (.lst (ms.map sV))) : PotAt (upd H l (.lst xs)) p := by
  obtain ⟨t, u, gs, ss, a1, a2, a3, a4⟩ := hp.ex
  have a5 : p.s ≠ l := ne_of a3 h (by
    intro z
    injection z with z
    cases ss with
    | nil => exact a4 rfl
    | cons x r => cases ms <;> cases z)
  refine ⟨⟨t, u, gs, ss, ?_, ?_, ?_, a4⟩, hp.gs⟩
  · rw [upd_ne ol.1.symm]; exact a1
  · rw [upd_ne ol.2.symm]; exact a2
  · rw [upd_ne a5]; exact a3
theorem nd_snoc_w {ns : List Wd} {x : Wd} (h : ns.Nodup) (hx : x ∉ ns) : (ns ++ [x]).Nodup := by
  rw [List.nodup_append]
  refine ⟨h, by simp, fun a ha b hb e => ?_⟩
  have : b = x := by simpa using hb
  subst this
  exact hx (e ▸ ha)
theorem nested_sh {tks ns : List Wd} {bs : List Bool} (hl : ∀ n ∈ ns, isLet n = true) (hn : ns.Nodup) (e : ns.length = bs.length + 1) (ht : tks.Nodup) (hs : ∀ k ∈ tks, k ∈ ns) (hb : bs.length ≤ 330) : (nested tks (comb ns bs)).length ≤ 992 := by
  rw [nested_len e]
  have := nodup_len ht hs
  omega
/-- letters and the two signs are small codes -/
theorem pw_chars {many : Nat} {ws : List Wd} (h : PW many ws) : ∀ w ∈ ws, ∀ c ∈ w, c < 128 := by
  have hlet : ∀ w : Wd, isLet w = true → ∀ c ∈ w, c < 128 := by
    intro w hw c hc
    unfold isLet at hw
    simp only [Bool.and_eq_true, decide_eq_true_eq, List.all_eq_true] at hw
    have := hw.2 c hc
    omega
  intro w hw c hc
  cases hg : isGive w with
  | true =>
    have e : w = [64] := of_decide_eq_true hg
    rw [e] at hc
    have : c = 64 := by simpa using hc
    omega
  | false =>
    cases ht : isTake w with
    | true =>
      have hl := hlet _ (h.tk w hw ht)
      rw [← take_eq ht] at hc
      rcases List.mem_cons.mp hc with e | e
      · omega
      · exact hl c e
    | false => exact hlet w (h.nm w hw (isNm_iff.mpr ⟨hg, ht⟩)) c hc
theorem pw_sh {many : Nat} {ws : List Wd} (h : PW many ws) (hl : ws.length ≤ 992) : Sh ws := ⟨by omega, fun w hw => ⟨by have := h.short w hw; omega, pw_chars h w hw⟩⟩
section
variable {P : Program} {w : World} {K : PySem.W.Frag} {mg : Str → Option Value} {base : Heap}
/-- what a building def hands back -/
def spBuild (K : PySem.W.Frag) : Sp := fun vs H Q _ => ∃ (p : Pot) (many : Nat), vs = [.ref p.pot, nV many] ∧ PotAt H p ∧ many ≤ 330 ∧ ∀ (t : Addr) (ws : List Wd) (H' : Hp), PW many ws → ws.length ≤ 992 → PotAt H' p → SqT K H' t (ws.map sV) → Kp p H H' → Q (.ref t) H'
/-! ### _law_nested -/
theorem c_nested {f : Addr} {fd : FuncData} (F : FnP K "_law_nested" s_law_nested f fd) (g : mg "_law_nested" = some (.ref f)) (G : Gb mg) (Cf : Cal P w K mg base 2 "_law_fresh" spFresh) (Cm : Cal P w K mg base 2 "_law_mixed" (spMixed K)) (Cs : Cal P w K mg base 2 "_law_sides" spSides) (Cc : Cal P w K mg base 1 "_law_comb" (spComb K))
    (Cd : Cal P w K mg base 1 "_law_draw" spDraw) : Cal P w K mg base 3 "_law_nested" (spBuild K) := by
  have S : FnScope ["_law_pot_here", "_law_many", "_law_names", "_law_one", "_law_words", "_law_kept", "_law_taken", "_law_name"] ["_law_pot_here", "_law_many"] (defScope s_law_nested) := C8.fnScope_by (by decide +kernel)
  refine cal_of F g S (FunD.bindsN F fun _ _ _ _ _ _ us hl => match us, hl with | [_, _], _ => rfl) (fun vs H Q E ⟨_, _, e, _⟩ => by rw [e]; rfl) (fun cdv A outer s H vs Q E hr h => ?_)
  obtain ⟨p, many, rfl, hp, hm, q⟩ := h
  refine ⟨_, pss_cons (ps_set (i := 2) S.nd rfl (.inl rfl) (pe_lst pa_nil))
    (pss_cons (ps_for PassesOwn.never rfl (pi_range1 (by rfl) G.range (pa_cons (pe_op op_add (pv 1) pe_int) pa_nil)) (pg_name (i := 3) S.nd rfl (.inl rfl))
      (pss_one (ps_expr (pe_c Cf hr (by decide) (by rfl) (pa_cons (pv 0) (pa_cons (pv 2) pa_nil))))))
    (pss_cons (ps_set (i := 4) S.nd rfl (.inl rfl) (pe_c Cc hr (by decide) (by rfl) (pa_cons (pe_c Cm hr (by decide) (by rfl) (pa_cons (pv 0) (pa_cons (pv 2) pa_nil))) (pa_cons (pe_c Cs hr (by decide) (by rfl) (pa_cons (pv 0) (pa_cons (pv 1) pa_nil))) pa_nil))))
    (pss_cons (ps_set (i := 5) S.nd rfl (.inr rfl) (pe_slice sl_list (pv 2) po_none (po_some (pe_c Cd hr (by decide) (by rfl) (pa_cons (pv 0) (pa_cons pe_int pa_nil))))))
    (pss_cons (ps_set (i := 6) S.nd rfl (.inl rfl) (pe_c Cm hr (by decide) (by rfl) (pa_cons (pv 0) (pa_cons
      (pe_lc (own := [("_law_name", 7)]) (g := gName 7) (tt := tTest (tOp (rIn K true) (tVar 7) (tVar 5))) rfl S.nd (pi_list (pv 2)) (blkOk_by (N := ["_law_pot_here", "_law_many", "_law_names", "_law_one", "_law_words", "_law_kept", "_law_taken", "_law_name"]) (sc := defScope s_law_nested) (by decide +kernel))
        (fun _ _ _ _ _ => pg_name (i := 7) S.nd rfl (Or.inl rfl)) (fun _ _ _ _ _ => pts_one (pt_cmpR op_notIn_seq (pv 7) (pv 5) (by rfl))) (fun _ _ _ _ _ => pv 7)) pa_nil))))
    (pss_one (ps_ret (pe_op op_catA (pe_callTy call_tuple_of (by rfl) G.tuple (by decide +kernel) (pa_cons
      (pe_lc (own := [("_law_name", 7)]) (g := gName 7) rfl S.nd (pi_list (pv 6)) (blkOk_by (N := ["_law_pot_here", "_law_many", "_law_names", "_law_one", "_law_words", "_law_kept", "_law_taken", "_law_name"]) (sc := defScope s_law_nested) (by decide +kernel))
        (fun _ _ _ _ _ => pg_name (i := 7) S.nd rfl (Or.inl rfl)) (fun _ _ _ _ _ => pts_nil) (fun _ _ _ _ _ => pe_op op_add_str pe_str (pv 7))) pa_nil)) (pv 4)))))))), ?_⟩
  -- the names
  refine ⟨Nat.zero_le _, fun L nL => ?_⟩
  have oL := hp.off nL
  refine ⟨_, rfl, _, _, rfl, rfl, _, rfl, by omega, by omega, ?_⟩
  have en : ((many : Int) + 1).toNat = many + 1 := by omega
  rw [en]
  refine for_range (fun i σ H1 => ∃ (y3 : Option V) (ns : List Wd), σ = [some (.ref p.pot), some (nV many), some (.ref L), y3, none, none, none, none] ∧ PotAt H1 p ∧ Kp p H H1 ∧ H1 L = some (.lst (ns.map sV)) ∧ ns.length = i ∧ ns.Nodup ∧ ∀ n ∈ ns, isLet n = true)
    ⟨none, [], rfl, hp.same (same_upd nL), Same.kp (same_upd nL), upd_same, rfl, List.nodup_nil, fun n hn => by cases hn⟩ ?_ ?_
  · rintro i σ H1 hi ⟨y3, ns, rfl, hp1, k1, hL, hnl, hnd, hlet⟩
    refine ⟨_, rfl, _, rfl, p, L, ns, rfl, hp1, hL, oL, by omega, fun x H2 hx hxl hp2 hL2 k2 => ?_⟩
    refine ⟨some (V.int (0 + (i : Int))), ns ++ [x], rfl, hp2, fun b o e n1 n2 => ?_, hL2, by rw [List.length_append, List.length_singleton, hnl], nd_snoc_w hnd hx, fun n hn => ?_⟩
    · exact k2 b o (k1 b o e n1 n2) n1 n2 (ne_of_none e nL)
    · rcases List.mem_append.mp hn with h | h
      · exact hlet n h
      · have : n = x := by simpa using h
        rw [this]; exact hxl
  · rintro σ H1 ⟨y3, ns, rfl, hp1, k1, hL, hnl, hnd, hlet⟩
    -- mixed, sides, comb
    refine ⟨_, rfl, _, rfl, p, L, ns, rfl, hp1, SqL.mk hL, by omega, fun l1 ms H2 hpm hp2 nl1 ol1 hl1 k2 => ?_⟩
    refine ⟨_, rfl, _, rfl, p, many, rfl, hp2, by omega, fun l2 bs H3 hbl hp3 hl2 k3 => ?_⟩
    have hl1' : H3 l1 = some (.lst (ms.map sV)) := k3 _ _ hl1 ol1.1 ol1.2
    have hml : ms.length = bs.length + 1 := by rw [hpm.length_eq, hnl, hbl]
    have hmnd : ms.Nodup := hpm.nodup_iff.mpr hnd
    have hmlet : ∀ n ∈ ms, isLet n = true := fun n hn => hlet n (hpm.mem_iff.mp hn)
    refine ⟨l1, l2, ms, bs, rfl, SqL.mk hl1', SqL.mk hl2, hml, by omega, fun wt H4 s4 hwt => ?_⟩
    have hp4 := hp3.same s4
    have hL4 : H4 L = some (.lst (ns.map sV)) := s4 _ _ (k3 _ _ (k2 _ _ hL oL.1 oL.2) oL.1 oL.2)
    have k04 : Kp p H H4 := ((k1.trans k2).trans k3).trans (Same.kp s4)
    -- kept
    refine ⟨_, rfl, _, rfl, p, 3, rfl, hp4, by decide, by decide, fun r H5 hr5 hp5 k5 => ?_⟩
    have hL5 : H5 L = some (.lst (ns.map sV)) := k5 _ _ hL4 oL.1 oL.2
    obtain ⟨kept, hkept⟩ : ∃ kept : List Wd, cutV (ns.map sV) none (some (r : Int)) = kept.map sV := by
      refine ⟨(ns.drop (HT.sIx (ns.map sV).length 0 none)).take (HT.sIx (ns.map sV).length (ns.map sV).length (some (r : Int)) - HT.sIx (ns.map sV).length 0 none), ?_⟩
      unfold cutV; rw [List.map_take, List.map_drop]
    refine ⟨_, rfl, L, _, rfl, SqL.mk hL5, fun kp0 nkp => ?_⟩
    rw [hkept]
    have s6 := same_upd (o := .lst (kept.map sV)) nkp
    have hkp6 : (upd H5 kp0 (.lst (kept.map sV))) kp0 = some (.lst (kept.map sV)) := upd_same
    have hp6 := hp5.same s6
    have okp := hp5.off nkp
    have k06 : Kp p H (upd H5 kp0 (.lst (kept.map sV))) := (k04.trans k5).trans (Same.kp s6)
    have hL6 := s6 _ _ hL5
    have hwt6 : SqT K (upd H5 kp0 (.lst (kept.map sV))) wt ((comb ms bs).map sV) := Same.tup s6 (SqT.kp hwt hp4 k5)
    revert hkp6 hp6 k06 hL6 hwt6
    generalize upd H5 kp0 (.lst (kept.map sV)) = H6
    intro hkp6 hp6 k06 hL6 hwt6
    -- taken
    refine ⟨_, rfl, .ref L, rfl, L, rfl, ⟨_, SqL.mk hL6⟩, fun D hD => lc_it (walk_list (xs := ns.map sV)) (fun i H7 => Same H6 H7 ∧ H7 D = some (.lst (((ns.take i).filter fun n => !decide (n ∈ kept)).map sV))) ⟨same_upd hD, upd_same⟩ (fun i H7 _ h => SqL.mk (h.1 _ _ hL6)) ?_ ?_⟩
    · rintro i x H7 H8 hi ⟨s7, h7⟩ ⟨rfl, ex⟩
      obtain ⟨n, en, rfl⟩ := get_map ex
      refine ⟨rfl, ?_⟩
      refine ⟨_, rfl, _, rfl, kp0, _, rfl, .inl (SqL.mk (s7 _ _ hkp6)), rfl, flat_words kept, _, rfl, ?_⟩
      show if (!inV (sV n) (kept.map sV)) = true then _ else _
      rw [inV_words]
      by_cases hin : n ∈ kept
      · rw [decide_eq_true hin]
        refine ⟨s7, ?_⟩
        rw [fs_no en (by rw [decide_eq_true hin]; rfl)]; exact h7
      · rw [decide_eq_false hin]
        refine ⟨_, rfl, _, h7, line_lt (by rw [List.length_map]; have := fs_len (fun n => !decide (n ∈ kept)) ns i; omega), fun b o e => ?_, ?_⟩
        · rw [upd_ne (ne_of_none e hD)]; exact s7 _ _ e
        · rw [upd_same, fs_yes en (by rw [decide_eq_false hin]; rfl), List.map_append]; rfl
    · rintro H7 ⟨s7, h7⟩
      rw [List.length_map, List.take_length] at h7
      have hfl : (ns.filter fun n => !decide (n ∈ kept)).length ≤ ns.length := List.length_filter_le _ _
      refine ⟨p, D, _, rfl, hp6.same s7, SqL.mk h7, by omega, fun l3 tks H8 hpt hp8 nl3 ol3 hl3 k8 => ?_⟩
      have hwt8 : SqT K H8 wt ((comb ms bs).map sV) := SqT.kp (Same.tup s7 hwt6) (hp6.same s7) k8
      have k08 : Kp p H H8 := (k06.trans (Same.kp s7)).trans k8
      have htnd : tks.Nodup := hpt.nodup_iff.mpr (nodup_filter _ hnd)
      have htin : ∀ k ∈ tks, k ∈ ms := fun k hk => hpm.mem_iff.mpr (List.mem_filter.mp (hpt.mem_iff.mp hk)).1
      have htl : tks.length ≤ 1000 := by rw [hpt.length_eq]; omega
      have htlet : ∀ k ∈ tks, k.length ≤ 8 := fun k hk => isLet_len (hmlet k (htin k hk))
      -- the words
      refine ⟨.ref l3, rfl, l3, rfl, ⟨_, SqL.mk hl3⟩, fun D2 hD2 => lc_it (walk_list (xs := tks.map sV)) (fun i H9 => Same H8 H9 ∧ H9 D2 = some (.lst (((tks.take i).map fun n => 47 :: n).map sV))) ⟨same_upd hD2, upd_same⟩ (fun i H9 _ h => SqL.mk (h.1 _ _ hl3)) ?_ ?_⟩
      · rintro i x H9 H10 hi ⟨s9, h9⟩ ⟨rfl, ex⟩
        obtain ⟨n, en, rfl⟩ := get_map ex
        have hn8 := htlet n (List.mem_of_getElem? en)
        refine ⟨rfl, ?_⟩
        refine ⟨_, rfl, sW [47], sW n, by rw [s_sl], rfl, line_ok (by rw [sW_len, sW_len]; simp only [List.length_cons, List.length_nil]; omega), ?_⟩
        rw [sW_app]
        refine ⟨_, h9, line_lt (by rw [List.length_map, List.length_map, List.length_take]; omega), fun b o e => ?_, ?_⟩
        · rw [upd_ne (ne_of_none e hD2)]; exact s9 _ _ e
        · rw [upd_same, List.take_add_one, en, List.map_append, List.map_append]; rfl
      · rintro H9 ⟨s9, h9⟩
        rw [List.length_map, List.take_length] at h9
        refine ⟨D2, _, rfl, .inl ⟨SqL.mk h9, fun t1 nt1 => ?_⟩⟩
        have s10 := s9.trans (same_upd (o := .tup ((tks.map fun n => 47 :: n).map sV)) nt1)
        refine ⟨.ref wt, rfl, ?_⟩
        have hcl := comb_len hml
        refine cat_words (xs := tks.map fun n => 47 :: n) (ys := comb ms bs) (SqT.mk upd_same) (Same.tup s10 hwt8) (by rw [List.length_map]; omega) fun t2 H11 s11 ht2 => ?_
        have hpw : PW many (nested tks (comb ms bs)) := by
          have := nested_ok (tks := tks) hmlet hmnd hml htnd htin
          rw [hbl] at this
          exact this
        exact q t2 _ H11 hpw (nested_sh hmlet hmnd hml htnd htin (by omega)) ((hp8.same s10).same s11) ht2 (k08.trans ((Same.kp s10).trans (Same.kp s11)))
/-! ### _law_chain -/
def chHead (ns : List Wd) : List Wd := ns.flatMap fun n => [47 :: n, [64], n]
theorem chain_head : ∀ (ns : List Wd) (n : Wd), chain (ns ++ [n]) = chHead ns ++ [47 :: n, n]
  | [], n => rfl
  | [m], n => rfl
  | m :: k :: ns, n => by
    have ih := chain_head (k :: ns) n
    show (47 :: m) :: [64] :: m :: chain (k :: (ns ++ [n])) = _
    have ih : chain (k :: (ns ++ [n])) = chHead (k :: ns) ++ [47 :: n, n] := ih
    rw [ih]; rfl
theorem chHead_len (ns : List Wd) : (chHead ns).length = 3 * ns.length := by
  induction ns with
  | nil => rfl
  | cons n ns ih => show (chHead ns).length + 3 = 3 * (ns.length + 1); omega
theorem chHead_snoc (ns : List Wd) (n : Wd) : chHead (ns ++ [n]) = chHead ns ++ [47 :: n, [64], n] := by
  unfold chHead; rw [List.flatMap_append]; rfl
theorem c_chain {f : Addr} {fd : FuncData} (F : FnP K "_law_chain" s_law_chain f fd) (g : mg "_law_chain" = some (.ref f)) (G : Gb mg) (Cf : Cal P w K mg base 2 "_law_fresh" spFresh) : Cal P w K mg base 3 "_law_chain" (spBuild K) := by
  have S : FnScope ["_law_pot_here", "_law_many", "_law_names", "_law_one", "_law_head", "_law_name"] ["_law_pot_here", "_law_many"] (defScope s_law_chain) := C8.fnScope_by (by decide +kernel)
  refine cal_of F g S (FunD.bindsN F fun _ _ _ _ _ _ us hl => match us, hl with | [_, _], _ => rfl) (fun vs H Q E ⟨_, _, e, _⟩ => by rw [e]; rfl) (fun cdv A outer s H vs Q E hr h => ?_)
  obtain ⟨p, many, rfl, hp, hm, q⟩ := h
  refine ⟨_, pss_cons (ps_set (i := 2) S.nd rfl (.inl rfl) (pe_lst pa_nil))
    (pss_cons (ps_for PassesOwn.never rfl (pi_range1 (by rfl) G.range (pa_cons (pe_op op_add (pv 1) pe_int) pa_nil)) (pg_name (i := 3) S.nd rfl (.inl rfl))
      (pss_one (ps_expr (pe_c Cf hr (by decide) (by rfl) (pa_cons (pv 0) (pa_cons (pv 2) pa_nil))))))
    (pss_cons (ps_set (i := 4) S.nd rfl (.inl rfl) (pe_tup pa_nil))
    (pss_cons (ps_for PassesOwn.never rfl (pi_list (pe_slice sl_list (pv 2) po_none (po_some (pe_un un_neg pe_int)))) (pg_name (i := 5) S.nd rfl (.inl rfl))
      (pss_one (ps_set (i := 4) S.nd rfl (.inl rfl) (pe_op op_catA (pv 4) (pe_tup (pa_cons (pe_op op_add_str pe_str (pv 5)) (pa_cons pe_str (pa_cons (pv 5) pa_nil))))))))
    (pss_one (ps_ret (pe_op op_catA (pv 4) (pe_tup (pa_cons (pe_op op_add_str pe_str (pe_ix ix_list (pv 2) (pe_un un_neg pe_int) (fun _ _ => rfl))) (pa_cons (pe_ix ix_list (pv 2) (pe_un un_neg pe_int) (fun _ _ => rfl)) pa_nil))))))))), ?_⟩
  refine ⟨Nat.zero_le _, fun L nL => ?_⟩
  have oL := hp.off nL
  refine ⟨_, rfl, _, _, rfl, rfl, _, rfl, by omega, by omega, ?_⟩
  have en : ((many : Int) + 1).toNat = many + 1 := by omega
  rw [en]
  refine for_range (fun i σ H1 => ∃ (y3 : Option V) (ns : List Wd), σ = [some (.ref p.pot), some (nV many), some (.ref L), y3, none, none] ∧ PotAt H1 p ∧ Kp p H H1 ∧ H1 L = some (.lst (ns.map sV)) ∧ ns.length = i ∧ ns.Nodup ∧ ∀ n ∈ ns, isLet n = true)
    ⟨none, [], rfl, hp.same (same_upd nL), Same.kp (same_upd nL), upd_same, rfl, List.nodup_nil, fun n hn => by cases hn⟩ ?_ ?_
  · rintro i σ H1 hi ⟨y3, ns, rfl, hp1, k1, hL, hnl, hnd, hlet⟩
    refine ⟨_, rfl, _, rfl, p, L, ns, rfl, hp1, hL, oL, by omega, fun x H2 hx hxl hp2 hL2 k2 => ?_⟩
    refine ⟨some (V.int (0 + (i : Int))), ns ++ [x], rfl, hp2, fun b o e n1 n2 => ?_, hL2, by rw [List.length_append, List.length_singleton, hnl], nd_snoc_w hnd hx, fun n hn => ?_⟩
    · exact k2 b o (k1 b o e n1 n2) n1 n2 (ne_of_none e nL)
    · rcases List.mem_append.mp hn with h | h
      · exact hlet n h
      · have : n = x := by simpa using h
        rw [this]; exact hxl
  · rintro σ H1 ⟨y3, ns, rfl, hp1, k1, hL, hnl, hnd, hlet⟩
    refine ⟨Nat.zero_le _, fun h0 nh0 => ?_⟩
    have s2 := same_upd (o := .tup []) nh0
    have hh0 : SqT K (upd H1 h0 (.tup [])) h0 (([] : List Wd).map sV) := SqT.mk upd_same
    obtain ⟨ms, n, rfl⟩ : ∃ ms n, ns = ms ++ [n] := by
      cases hns : ns with
      | nil => rw [hns] at hnl; simp at hnl
      | cons x r => exact ⟨(x :: r).dropLast, (x :: r).getLast (by simp), (List.dropLast_concat_getLast (by simp)).symm⟩
    have hms : ms.length = many := by simpa using hnl
    have hcut : cutV ((ms ++ [n]).map sV) none (some (-1)) = ms.map sV := by
      unfold cutV
      rw [List.length_map, List.length_append, List.length_singleton]
      show (((ms ++ [n]).map sV).drop 0).take ((if (-1 : Int) < 0 then (-1 + ((ms.length + 1 : Nat) : Int)).toNat else min (-1 : Int).toNat (ms.length + 1)) - 0) = _
      rw [if_pos (by decide), show (-1 + ((ms.length + 1 : Nat) : Int)).toNat - 0 = ms.length by omega, List.drop_zero, List.map_append]
      exact List.take_left' (List.length_map ..)
    have hmlet : ∀ x ∈ ms, x.length ≤ 8 := fun x hx => isLet_len (hlet x (List.mem_append_left _ hx))
    have hnlen : n.length ≤ 8 := isLet_len (hlet n (by simp))
    refine ⟨_, rfl, 1, rfl, _, rfl, L, _, rfl, SqL.mk (s2 _ _ hL), fun c nc => ?_⟩
    rw [hcut]
    have s3 := s2.trans (same_upd (o := .lst (ms.map sV)) nc)
    have hc3 : (upd (upd H1 h0 (.tup [])) c (.lst (ms.map sV))) c = some (.lst (ms.map sV)) := upd_same
    have hh3 := Same.tup (same_upd (o := .lst (ms.map sV)) nc) hh0
    revert s3 hc3 hh3
    generalize upd (upd H1 h0 (.tup [])) c (.lst (ms.map sV)) = H3
    intro s3 hc3 hh3
    refine ⟨c, rfl, ⟨_, SqL.mk hc3⟩, for_it (walk_list (xs := ms.map sV)) (fun i σ H4 => ∃ (hd : Addr) (y5 : Option V), σ = [some (.ref p.pot), some (nV many), some (.ref L), y3, some (.ref hd), y5] ∧ Same H3 H4 ∧ SqT K H4 hd ((chHead (ms.take i)).map sV))
      ⟨h0, none, rfl, Same.refl _, hh3⟩ (fun i σ H4 _ ⟨_, _, _, s4, _⟩ => SqL.mk (s4 _ _ hc3)) ?_ ?_⟩
    · rintro i x σ H4 H5 hi ⟨hd, y5, rfl, s4, hhd⟩ ⟨rfl, ex⟩
      obtain ⟨m, em, rfl⟩ := get_map ex
      have hml8 := hmlet m (List.mem_of_getElem? em)
      have hil := lt_of_get em
      refine ⟨.ref hd, rfl, _, rfl, sW [47], sW m, by rw [s_sl], rfl, line_ok (by rw [sW_len, sW_len]; simp only [List.length_cons, List.length_nil]; omega), ?_⟩
      rw [sW_app]
      refine ⟨_, rfl, by show 3 ≤ sizeLine; decide, fun t nt => ?_⟩
      have s5 := same_upd (o := .tup [sV ([47] ++ m), V.str "@", sV m]) nt
      refine cat_words (ys := [47 :: m, [64], m]) (Same.tup s5 hhd) (SqT.mk (by rw [upd_same, s_at]; rfl)) (by rw [chHead_len, List.length_take]; simp only [List.length_cons, List.length_nil]; omega) fun h2 H6 s6 hh2 => ?_
      refine ⟨h2, some (sV m), rfl, (s4.trans s5).trans s6, ?_⟩
      rw [List.take_add_one, em]
      show SqT K H6 h2 ((chHead (ms.take i ++ [m])).map sV)
      rw [chHead_snoc]
      exact hh2
    · rintro σ H4 ⟨hd, y5, rfl, s4, hhd⟩
      rw [List.length_map, List.take_length] at hhd
      have s14 := s3.trans s4
      have hL4 : H4 L = some (.lst ((ms ++ [n]).map sV)) := s14 _ _ hL
      have gl : atI ((ms ++ [n]).map sV) (-1) = some (sV n) := by
        rw [List.map_append]
        exact atI_last _ _
      refine ⟨.ref hd, rfl, .ref L, rfl, 1, rfl, L, _, _, _, rfl, rfl, SqL.mk hL4, gl, sW [47], sW n, by rw [s_sl], rfl, line_ok (by rw [sW_len, sW_len]; simp only [List.length_cons, List.length_nil]; omega), ?_⟩
      rw [sW_app]
      refine ⟨.ref L, rfl, 1, rfl, L, _, _, _, rfl, rfl, SqL.mk hL4, gl, by show 2 ≤ sizeLine; decide, fun t nt => ?_⟩
      have s5 := same_upd (o := .tup [sV ([47] ++ n), sV n]) nt
      refine cat_words (ys := [47 :: n, n]) (Same.tup s5 hhd) (SqT.mk upd_same) (by rw [chHead_len]; simp only [List.length_cons, List.length_nil]; omega) fun t2 H6 s6 ht2 => ?_
      rw [← chain_head] at ht2
      have hne : ms ++ [n] ≠ [] := by simp
      have hcl := chain_len hne
      refine q t2 _ H6 (chain_ok hlet hnd hnl) (by omega) (((hp1.same s14).same s5).same s6) ht2 (k1.trans (Same.kp ((s14.trans s5).trans s6)))
end
end K11

set_option Elab.async false
set_option linter.all false
set_option maxRecDepth 100000
set_option maxHeartbeats 8000000
namespace K11
open PySem PySem.Spec PyProof.Rows L2
theorem s_one : ("one" : Str) = sW one := by decide +kernel
theorem s_two : ("two" : Str) = sW two := by decide +kernel
theorem s_x : ("x" : Str) = sW ix := by decide +kernel
theorem s_slx : ("/x" : Str) = sW (47 :: ix) := by decide +kernel
theorem apart_sh {many : Nat} {ws : List Wd} (h : PW many ws) : ∀ w ∈ apartOf ws [49], w.length ≤ 2000000 ∧ ∀ c ∈ w, c < 128 := by
  intro w hw
  unfold apartOf at hw
  obtain ⟨v, hv, rfl⟩ := List.mem_map.mp hw
  have h1 := h.short v hv
  have h2 := pw_chars h v hv
  have h3 : (nameOf v).length ≤ 9 ∧ ∀ c ∈ nameOf v, c < 128 := by
    unfold nameOf
    split
    · exact ⟨by rw [List.length_drop]; omega, fun c hc => h2 c (List.mem_of_mem_drop hc)⟩
    · exact ⟨h1, h2⟩
  split
  · exact ⟨by omega, h2⟩
  · split
    · refine ⟨by simp only [List.length_cons, List.length_append, List.length_nil]; omega, fun c hc => ?_⟩
      rcases List.mem_cons.mp hc with e | hc
      · omega
      rcases List.mem_append.mp hc with hc | hc
      · have : c = 49 := by simpa using hc
        omega
      · exact h3.2 c hc
    · refine ⟨by simp only [List.length_cons, List.length_append, List.length_nil]; omega, fun c hc => ?_⟩
      rcases List.mem_append.mp hc with hc | hc
      · have : c = 49 := by simpa using hc
        omega
      · exact h2 c hc
theorem app_sh {many : Nat} {ws : List Wd} (h : PW many ws) (hl : ws.length ≤ 992) : Sh (appW ws [47 :: ix, ix]) := by
  unfold appW
  rw [apart_x]
  have hal : (apartOf ws [49]).length = ws.length := by unfold apartOf; rw [List.length_map]
  refine ⟨by simp only [List.length_append, List.length_cons, List.length_nil]; omega, fun w hw => ?_⟩
  rcases List.mem_append.mp hw with hw | hw
  · rcases List.mem_cons.mp hw with e | hw
    · rw [e]; exact ⟨by decide, by decide⟩
    · exact apart_sh h w hw
  · rcases List.mem_cons.mp hw with e | hw
    · rw [e]; exact ⟨by decide, by decide⟩
    · have e : w = 50 :: ix := by simpa using hw
      rw [e]; exact ⟨by decide, by decide⟩
section
variable {P : Program} {w : World} {K : PySem.W.Frag} {mg : Str → Option Value} {base : Heap}
theorem mk_prog {mg : Str → Option Value} {C : Addr} (T : Cp K mg "Program" C) {H1 : Hp} {a : Addr} {ws : List Wd} {R : Addr → Hp → Prop} (hS : SqT K H1 a (ws.map sV)) (hpw : isPW ws) (hsh : Sh ws) (q : ∀ x H2, Same H1 H2 → PAt K H2 x ws → R x H2) :
    ∀ x dx, H1 x = none → H1 dx = none → dx ≠ x → spInit C (aProg K) (.ref x :: [.ref a]) (upd (upd H1 dx (.own x)) x (.ins C dx [])) (fun v H2 => v = .non ∧ R x H2) E0 := by
  intro x dx nx nd ne
  have s1 : Same H1 (upd (upd H1 dx (.own x)) x (.ins C dx [])) := fun b o e => by rw [upd_ne (ne_of_none e nx), upd_ne (ne_of_none e nd)]; exact e
  refine ⟨x, dx, a, ws, rfl, upd_same, ⟨Same.tup s1 hS, hpw⟩, hsh, fun H' k hx => ⟨rfl, ?_⟩⟩
  have s2 : Same H1 H' := fun b o e => k b o (s1 _ _ e) (ne_of_none e nx)
  exact q x H' s2 ⟨C, dx, a, hx, T.cl, T.na, Same.tup s2 hS⟩
def spLaw (K : PySem.W.Frag) : Sp := fun vs H Q _ => ∃ (a : Addr) (ns : List Int), vs = [.ref a] ∧ SqL K H a (ns.map V.int) ∧ ns.length ≤ 63 ∧ ∀ H', Q (.bl true) H'
theorem c_law {f C CR : Addr} {fd : FuncData} (F : FnP K "law" s_law f fd) (G : Gb mg) (T : Cp K mg "Program" C) (Cpot : Cal P w K mg base 1 "_law_pot" (spPot K)) (Cd : Cal P w K mg base 1 "_law_draw" spDraw) (Cn : Cal P w K mg base 3 "_law_nested" (spBuild K)) (Cc : Cal P w K mg base 3 "_law_chain" (spBuild K))
    (Mp : Mak P w K mg base 6 "Program" C (spInit C (aProg K))) (Cle : Cal P w K mg base 1 "_law_ends" (spT K Bal (rTupN endsOf))) (Ce : Cal P w K mg base 4 "ends" (spP K Bal (rTupN endsOf))) (Cg : Cal P w K mg base 2 "givens" (spP K (fun _ => True) (rCount isGive))) (Ct : Cal P w K mg base 2 "takes" (spP K (fun _ => True) (rCount isTake)))
    (Co : Cal P w K mg base 5 "open_names" (spP K (fun _ => True) (rTupW opens))) (Clo : Cal P w K mg base 1 "_law_open" (spT K (fun _ => True) fun ws H v H' => ∃ l, v = .ref l ∧ H l = none ∧ H' l = some (.lst ((opens ws).map sV)))) (Cp0 : Cal P w K mg base 4 "part" (spPart K))
    (Cst : Cal P w K mg base 6 "standard" (spP K ndT fun ws H v H' => ∃ x, v = .ref x ∧ PAt K H' x (rawStd ws))) (Cls' : Cal P w K mg base 2 "_law_standard" spLStd) (Cmk : Cal P w K mg base 1 "_law_marked" (spMarked K)) (Csm : Cal P w K mg base 6 "same" (spSame K)) (Cap : Cal P w K mg base 6 "applied" (spApplied K)) :
    FnOk P w K mg base CX0 8 f fd ["_law_script"] (spLaw K) := by
  have S : FnScope ["_law_script", "_law_pot_here", "_law_many", "_law_words", "_law_program", "_law_due", "_law_turn", "_law_place", "_law_called", "_law_whole"] ["_law_script"] (defScope s_law) := C8.fnScope_by (by decide +kernel)
  refine fnok_of F S (fun vs H Q E ⟨_, _, e, _⟩ => by rw [e]; rfl) (fun cdv A outer s H vs Q E hr h => ?_)
  obtain ⟨a, ns, rfl, hS, hlen, q⟩ := h
  refine ⟨_, pss_cons (ps_set (i := 1) S.nd rfl (.inl rfl) (pe_c Cpot hr (by decide) (by rfl) (pa_cons (pv 0) pa_nil)))
    (pss_cons (ps_set (i := 2) S.nd rfl (.inl rfl) (pe_ifExp (pt_cmpR op_eq (pe_c Cd hr (by decide) (by rfl) (pa_cons (pv 1) (pa_cons pe_int pa_nil))) pe_int (nomark _)) pe_int (pe_c Cd hr (by decide) (by rfl) (pa_cons (pv 1) (pa_cons pe_int pa_nil)))))
    (pss_cons (ps_set (i := 3) S.nd rfl (.inl rfl) (pe_ifExp (pt_cmpR op_gt (pe_c Cd hr (by decide) (by rfl) (pa_cons (pv 1) (pa_cons pe_int pa_nil))) pe_int (nomark _)) (pe_c Cn hr (by decide) (by rfl) (pa_cons (pv 1) (pa_cons (pv 2) pa_nil))) (pe_c Cc hr (by decide) (by rfl) (pa_cons (pv 1) (pa_cons (pv 2) pa_nil)))))
    (pss_cons (ps_set (i := 4) S.nd rfl (.inl rfl) (pe_mk Mp hr (by decide) (by rfl) (pa_cons (pv 3) pa_nil)))
    (pss_cons (ps_set (i := 5) S.nd rfl (.inl rfl) (pe_c Cle hr (by decide) (by rfl) (pa_cons (pv 3) pa_nil)))
    (pss_cons (ps_if (PW.pt (pw_or (pt_cmpR (op_neD hr.units) (pe_c Ce hr (by decide) (by rfl) (pa_cons (pv 4) pa_nil)) (pv 5) (nomark _))
        (pw_or (pt_cmpR op_ne (pe_c Cg hr (by decide) (by rfl) (pa_cons (pv 4) pa_nil)) (pv 2) (nomark _))
        (pw_or1 (pt_cmpR (op_neD hr.units) (pe_callTy call_list_of (by rfl) G.list (by decide +kernel) (pa_cons (pe_c Co hr (by decide) (by rfl) (pa_cons (pv 4) pa_nil)) pa_nil)) (pe_c Clo hr (by decide) (by rfl) (pa_cons (pv 3) pa_nil)) (nomark _)))))) (pss_one (ps_ret pe_bl)) pss_nil)
    (pss_cons (ps_if (pt_cmpR op_ne (pe_c Ct hr (by decide) (by rfl) (pa_cons (pv 4) pa_nil)) (pe_op op_sub (pe_op op_add (pv 2) pe_int) (pe_callB call_len_seq (by rfl) G.len PySem.boot_len (pa_cons (pe_c Clo hr (by decide) (by rfl) (pa_cons (pv 3) pa_nil)) pa_nil))) (nomark _)) (pss_one (ps_ret pe_bl)) pss_nil)
    (pss_cons (ps_for PassesOwn.never rfl (pi_range1 (by rfl) G.range (pa_cons pe_int pa_nil)) (pg_name (i := 6) S.nd rfl (.inl rfl))
      (pss_cons (ps_set (i := 7) S.nd rfl (.inl rfl) (pe_op op_sub (pe_op op_sub (pe_callB call_len_seq (by rfl) G.len PySem.boot_len (pa_cons (pv 3) pa_nil)) pe_int)
          (pe_op op_fdivN (pe_c Cd hr (by decide) (by rfl) (pa_cons (pv 1) (pa_cons (pe_callB call_len_seq (by rfl) G.len PySem.boot_len (pa_cons (pv 3) pa_nil)) pa_nil))) (pe_op op_add pe_int (pv 6)))))
      (pss_one (ps_if (pt_cmpR (op_neD hr.units) (pe_fld (pe_c Cp0 hr (by decide) (by rfl) (pa_cons (pv 4) (pa_cons (pv 7) pa_nil))) rfl)
          (pe_slice sl_tupA (pv 3) (po_some (pv 7)) (po_some (pe_ix ix_tup (pv 5) (pv 7) (fun _ _ => rfl)))) (nomark _)) (pss_one (ps_ret pe_bl)) pss_nil))))
    (pss_cons (ps_set (i := 8) S.nd rfl (.inl rfl) (pe_c Cst hr (by decide) (by rfl) (pa_cons (pv 4) pa_nil)))
    (pss_cons (ps_if (PW.pt (pw_or (pt_cmpR (op_neD hr.units) (pe_fld (pv 8) rfl) (pe_c Cls' hr (by decide) (by rfl) (pa_cons (pe_c Cmk hr (by decide) (by rfl) (pa_cons (pv 3) (pa_cons pe_str pa_nil))) pa_nil)) (nomark _))
        (pw_or1 (pt_cmpR op_notBl (pe_c Csm hr (by decide) (by rfl) (pa_cons (pv 4) (pa_cons (pv 8) pa_nil))) pe_bl (nomark _))))) (pss_one (ps_ret pe_bl)) pss_nil)
    (pss_cons (ps_set (i := 9) S.nd rfl (.inl rfl) (pe_c Cap hr (by decide) (by rfl) (pa_cons (pv 4) (pa_cons (pe_mk Mp hr (by decide) (by rfl) (pa_cons (pe_tup (pa_cons pe_str (pa_cons pe_str pa_nil))) pa_nil)) pa_nil))))
    (pss_one (ps_ret (pe_cmpR (op_eqD hr.units) (pe_fld (pv 9) rfl) (pe_c Cls' hr (by decide) (by rfl) (pa_cons (pe_op op_cat (pe_op op_cat (pe_lst (pa_cons pe_str pa_nil)) (pe_c Cmk hr (by decide) (by rfl) (pa_cons (pv 3) (pa_cons pe_str pa_nil))))
        (pe_lst (pa_cons (pe_tup (pa_cons pe_str (pa_cons pe_str (pa_cons pe_str pa_nil)))) (pa_cons (pe_tup (pa_cons pe_str (pa_cons pe_str pa_nil))) pa_nil)))) pa_nil)) (nomark _)))))))))))))), ?_⟩
  -- the pot
  refine ⟨_, rfl, a, ns, rfl, hS, hlen, fun p H1 s1 hp1 => ?_⟩
  -- many
  have key1 : ∀ (Q0 : VK), (∀ (many : Nat) (H' : Hp), many ≤ 330 → PotAt H' p → Q0 (nV many) H') → tIf (tTest (tOp rEq (tCl spDraw (tCons (tVar 1) (tCons (tC (.int 8)) tNil))) (tC (.int 0)))) (tC (.int 330)) (tCl spDraw (tCons (tVar 1) (tCons (tC (.int 40)) tNil)))
      [some (V.ref a), some (.ref p.pot), none, none, none, none, none, none, none, none] H1 Q0 := by
    intro Q0 q0
    refine ⟨_, rfl, p, 8, rfl, hp1, by decide, by decide, fun r H2 hr2 hp2 k2 => ⟨rfl, _, rfl, ite2 (fun _ => q0 330 H2 (Nat.le_refl _) hp2) (fun _ => ?_)⟩⟩
    exact ⟨_, rfl, p, 40, rfl, hp2, by decide, by decide, fun r H3 hr3 hp3 k3 => q0 r H3 (by omega) hp3⟩
  refine key1 _ fun many H2 hmany hp2 => ?_
  -- the words
  have key2 : ∀ (Q0 : VK), (∀ (t : Addr) (ws : List Wd) (H' : Hp), PW many ws → ws.length ≤ 992 → PotAt H' p → SqT K H' t (ws.map sV) → Q0 (.ref t) H') → tIf (tTest (tOp (rI0 fun i j => .bl (decide (j < i))) (tCl spDraw (tCons (tVar 1) (tCons (tC (.int 4)) tNil))) (tC (.int 0))))
      (tCl (spBuild K) (tCons (tVar 1) (tCons (tVar 2) tNil))) (tCl (spBuild K) (tCons (tVar 1) (tCons (tVar 2) tNil))) [some (V.ref a), some (.ref p.pot), some (nV many), none, none, none, none, none, none, none] H2 Q0 := by
    intro Q0 q0
    refine ⟨_, rfl, p, 4, rfl, hp2, by decide, by decide, fun r H3 hr3 hp3 k3 => ⟨_, _, rfl, rfl, _, rfl, ite2 (fun _ => ?_) (fun _ => ?_)⟩⟩
    · exact ⟨_, rfl, _, rfl, p, many, rfl, hp3, hmany, fun t ws H4 h1 h2 h3 h4 _ => q0 t ws H4 h1 h2 h3 h4⟩
    · exact ⟨_, rfl, _, rfl, p, many, rfl, hp3, hmany, fun t ws H4 h1 h2 h3 h4 _ => q0 t ws H4 h1 h2 h3 h4⟩
  refine key2 _ fun t ws H3 hpw hwl hp3 ht => ?_
  have hsh := pw_sh hpw hwl
  have hok := hpw.ok
  have hpos := hpw.pos
  -- the program
  refine ⟨_, rfl, mk_prog T ht ⟨many, hpw⟩ hsh fun x H4 s4 hx4 => ?_⟩
  -- due
  refine ⟨_, rfl, t, ws, rfl, Same.tup s4 ht, hsh, hpw.good.b, ?_⟩
  rintro _ H5 s5 ⟨du, rfl, _, hdu⟩
  have s35 := s4.trans s5
  -- ends, givens, open names
  refine ⟨_, rfl, x, ws, rfl, hx4.same s5, hsh, hpw.good.b, ?_⟩
  rintro _ H6 s6 ⟨en, rfl, _, hen⟩
  refine ⟨_, rfl, ne_nats (SqT.mk hen) (SqT.mk (s6 _ _ hdu)) ⟨_, rfl, ?_⟩⟩
  refine ⟨_, rfl, x, ws, rfl, (hx4.same s5).same s6, hsh, trivial, ?_⟩
  rintro _ H7 s7 rfl
  refine ⟨_, rfl, rfl, _, rfl, ?_⟩
  rw [hpw.giv]
  rw [decide_eq_true (rfl : nV many = nV many)]
  refine ⟨_, rfl, x, ws, rfl, ((hx4.same s5).same s6).same s7, hsh, trivial, ?_⟩
  rintro _ H8 s8 ⟨op, rfl, _, hop⟩
  refine ⟨op, _, rfl, .inr (SqT.mk hop), fun ol nol => ?_⟩
  have s9 := same_upd (o := .lst ((opens ws).map sV)) nol
  have s39 := (((s35.trans s6).trans s7).trans s8).trans s9
  refine ⟨_, rfl, t, ws, rfl, Same.tup s39 ht, hsh, trivial, ?_⟩
  rintro _ H10 s10 ⟨lo, rfl, _, hlo⟩
  have hopc : ∀ v ∈ opens ws, ∀ c ∈ v, c < 128 := fun v hv => pw_chars hpw v (mem_opens.mp hv).1
  refine ne_wordsL hopc (SqL.mk (s10 _ _ upd_same)) (SqL.mk hlo) ⟨_, rfl, ?_⟩
  have s310 := s39.trans s10
  have s510 := ((((s6.trans s7).trans s8).trans s9).trans s10)
  -- takes
  refine ⟨_, rfl, x, ws, rfl, (hx4.same s5).same s510, hsh, trivial, ?_⟩
  rintro _ H11 s11 rfl
  refine ⟨_, rfl, _, _, rfl, rfl, _, rfl, t, ws, rfl, Same.tup (s310.trans s11) ht, hsh, trivial, ?_⟩
  rintro _ H12 s12 ⟨lo2, rfl, _, hlo2⟩
  refine ⟨lo2, _, rfl, .inl (SqL.mk hlo2), _, _, rfl, rfl, rfl, _, rfl, ?_⟩
  have etk : nV (ws.filter isTake).length = V.int ((many : Int) + 1 - (((opens ws).map sV).length : Nat)) := by
    have := hpw.tks
    rw [List.length_map]
    exact congrArg V.int (by omega)
  show if (!decide (nV (ws.filter isTake).length = V.int ((many : Int) + 1 - (((opens ws).map sV).length : Nat)))) = true then _ else _
  rw [decide_eq_true etk]
  have s312 := (s310.trans s11).trans s12
  have hx12 : PAt K H12 x ws := ((hx4.same s5).same s510).same (s11.trans s12)
  have hdu12 : SqT K H12 du ((endsOf ws).map nV) := SqT.mk ((s510.trans (s11.trans s12)) _ _ hdu)
  have ht12 : SqT K H12 t (ws.map sV) := Same.tup s312 ht
  have hp12 : PotAt H12 p := hp3.same s312
  -- the parts
  refine ⟨6, rfl, by decide, by decide, for_range (n := 6) (fun i σ H' => ∃ y6 y7 : Option V, σ = [some (V.ref a), some (.ref p.pot), some (nV many), some (.ref t), some (.ref x), some (.ref du), y6, y7, none, none] ∧ PotAt H' p ∧ Kp p H12 H')
    ⟨none, none, rfl, hp12, Kp.refl _ _⟩ ?_ ?_⟩
  · rintro i σ H13 hi ⟨y6, y7, rfl, hp13, k13⟩
    have ht13 := SqT.kp ht12 hp12 k13
    have hln : (ws.map sV).length = ws.length := List.length_map ..
    refine ⟨_, rfl, t, _, rfl, .inr ht13, _, _, rfl, rfl, _, rfl, _, rfl, t, _, rfl, .inr ht13, p, (ws.map sV).length, rfl, hp13, by omega, by omega, fun r H14 hr14 hp14 k14 => ?_⟩
    refine ⟨_, rfl, _, _, rfl, rfl, _, _, rfl, rfl, ⟨by omega, by omega⟩, _, _, rfl, rfl, ?_⟩
    have hd : r / (1 + i) ≤ r := Nat.div_le_self _ _
    have ek : V.int (((ws.map sV).length : Nat) - 1 - (r : Int).fdiv (1 + (0 + (i : Int)))) = nV (ws.length - 1 - r / (1 + i)) := by
      have e1 : (1 + (0 + (i : Int))) = ((1 + i : Nat) : Int) := by omega
      rw [e1, Int.fdiv_eq_ediv_of_nonneg _ (by omega), ← Int.natCast_ediv, hln]
      exact congrArg V.int (by omega)
    dsimp only [gName]
    rw [ek]
    generalize hk : ws.length - 1 - r / (1 + i) = k
    have hkl : k < ws.length := by rw [← hk]; exact Nat.lt_of_le_of_lt (Nat.sub_le _ _) (Nat.sub_lt hpos Nat.one_pos)
    have he : (endsOf ws)[k]? = some ((endsOf ws)[k]'(by rw [endsOf_len]; exact hkl)) := List.getElem?_eq_getElem _
    generalize (endsOf ws)[k]'(by rw [endsOf_len]; exact hkl) = e at he
    have k12 := k13.trans k14
    have hx14 := hx12.kp hp12 k12
    have ht14 := SqT.kp ht12 hp12 k12
    have hdu14 := SqT.kp hdu12 hp12 k12
    refine ⟨_, rfl, _, rfl, x, ws, k, e, rfl, hx14, hsh, hpw.good.b, he, fun y H15 s15 hy => ?_⟩
    obtain ⟨Cy, dy, ay, y1, y2, y3, y4⟩ := hy.ex
    refine ⟨y, Cy, dy, _, _, rfl, y1, y2, y3, words_look, ?_⟩
    refine ⟨_, rfl, _, rfl, _, rfl, _, rfl, _, rfl, du, _, _, _, rfl, rfl, Same.tup s15 hdu14, atI_nat (map_get he), e, rfl, ?_⟩
    refine sl_words (Same.tup s15 ht14) fun ps H16 s16 hps => ?_
    refine ne_words (fun v hv => pw_chars hpw v (cutW_mem hv)) (Same.tup s16 y4) hps ⟨_, rfl, ?_⟩
    exact ⟨_, _, rfl, (hp14.same s15).same s16, k12.trans ((Same.kp s15).trans (Same.kp s16))⟩
  · rintro σ H13 ⟨y6, y7, rfl, hp13, k13⟩
    have hx13 := hx12.kp hp12 k13
    have ht13 := SqT.kp ht12 hp12 k13
    -- standard
    refine ⟨_, rfl, x, ws, rfl, hx13, hsh, hok.nd, ?_⟩
    rintro _ H14 s14 ⟨cl, rfl, hcl⟩
    obtain ⟨C8, d8, a8, g1, g2, g3, g4⟩ := hcl.ex
    have ht14 := Same.tup s14 ht13
    have E1 := enc1 (mark := one) hok
    have hml : (markedOf ws one).length = ws.length := by unfold markedOf; rw [List.length_map]
    refine ⟨_, rfl, cl, C8, d8, _, _, rfl, g1, g2, g3, words_look, ?_⟩
    refine ⟨_, rfl, t, ws, one, by rw [s_one], ht14, hsh, fun l xs H15 s15 nl hl hits => ?_⟩
    refine ⟨l, xs, markedOf ws one, rfl, hl, hits, by omega, E1.nd, E1.nmk, fun pz H16 s16 npz hpz => ?_⟩
    rw [← std_marked hok] at hpz
    have hstc : ∀ v ∈ rawStd ws, ∀ c ∈ v, c < 128 := fun v hv => (hsh.std.2 v hv).2
    have s416 := s15.trans s16
    refine ne_words hstc (Same.tup s416 g4) (SqT.mk hpz) ⟨_, rfl, ?_⟩
    -- same
    have hx16 : PAt K H16 x ws := (hx13.same s14).same s416
    have hcl16 : PAt K H16 cl (rawStd ws) := hcl.same s416
    refine ⟨_, rfl, _, rfl, x, cl, ws, rawStd ws, rfl, hx16, hcl16, hsh, hsh.std, hok.nd, nd_std hok, (std_std hok).symm, fun H17 s17 => ?_⟩
    refine ⟨true, true, rfl, rfl, _, rfl, ?_⟩
    -- applied
    have hx17 := hx16.same s17
    have ht17 : SqT K H17 t (ws.map sV) := Same.tup (s416.trans s17) ht14
    refine ⟨_, rfl, by show 2 ≤ sizeLine; decide, fun tx ntx => ?_⟩
    have s18 := same_upd (o := .tup [V.str "/x", V.str "x"]) ntx
    have htx : SqT K (upd H17 tx (.tup [V.str "/x", V.str "x"])) tx (([47 :: ix, ix] : List Wd).map sV) := SqT.mk (by rw [upd_same, s_slx, s_x]; rfl)
    have shx : Sh [47 :: ix, ix] := pw_sh PW.x (by decide)
    refine mk_prog T htx ⟨0, PW.x⟩ shx fun o H19 s19 ho => ?_
    refine ⟨x, o, ws, [47 :: ix, ix], rfl, (hx17.same s18).same s19, ho, hsh, shx, app_sh hpw hwl, nd_apart hok, opens_x, fun z H20 s20 hz => ?_⟩
    obtain ⟨C9, d9, a9, z1, z2, z3, z4⟩ := hz.ex
    have ht20 : SqT K H20 t (ws.map sV) := Same.tup ((s18.trans s19).trans s20) ht17
    refine ⟨_, rfl, z, C9, d9, _, _, rfl, z1, z2, z3, words_look, ?_⟩
    -- the items
    refine ⟨by show 1 ≤ sizeLine; decide, fun l1 nl1 => ?_⟩
    have s21 := same_upd (o := .lst [V.str "@"]) nl1
    refine ⟨_, rfl, t, ws, one, by rw [s_one], Same.tup s21 ht20, hsh, fun l2 xs2 H22 s22 nl2 hl2 hits2 => ?_⟩
    have hxl2 : xs2.length = ws.length := by rw [hits2.len, hml]
    refine ⟨l1, l2, _, _, rfl, rfl, s22 _ _ upd_same, hl2, line_ok (by simp only [List.length_cons, List.length_nil]; omega), fun l3 nl3 => ?_⟩
    have s23 := same_upd (o := .lst ([V.str "@"] ++ xs2)) nl3
    refine ⟨by show 3 ≤ sizeLine; decide, fun t1 nt1 => ?_⟩
    have s24 := same_upd (o := .tup [V.str "/", V.str "two", V.str "x"]) nt1
    refine ⟨by show 2 ≤ sizeLine; decide, fun t2 nt2 => ?_⟩
    have s25 := same_upd (o := .tup [V.str "two", V.str "x"]) nt2
    refine ⟨by show 2 ≤ sizeLine; decide, fun l4 nl4 => ?_⟩
    have s26 := same_upd (o := .lst [V.ref t1, V.ref t2]) nl4
    refine ⟨l3, l4, _, _, rfl, rfl, s26 _ _ (s25 _ _ (s24 _ _ upd_same)), upd_same, line_ok (by simp only [List.length_append, List.length_cons, List.length_nil]; omega), fun l5 nl5 => ?_⟩
    have s27 := same_upd (o := .lst ([V.str "@"] ++ xs2 ++ [V.ref t1, V.ref t2])) nl5
    have E3 := enc3 hok
    have hAl : (itsA ws).length = ws.length + 3 := by
      unfold itsA
      simp only [List.length_append, List.length_cons, List.length_nil, hml]
    refine ⟨l5, _, itsA ws, rfl, upd_same, ?_, by omega, E3.nd, E3.nmk, fun pz H28 s28 npz hpz => ?_⟩
    · refine ItsAt.app (ItsAt.app (its := [.s [64]]) (ItsAt.one ?_) ?_) ?_
      · show V.str "@" = sV [64]
        rw [s_at]
      · exact hits2.same ((((s23.trans s24).trans s25).trans s26).trans s27)
      · refine ItsAt.app (vs := [V.ref t1]) (us := [V.ref t2]) (its := [.tk two ix]) (jts := [.nm two ix]) (ItsAt.one ⟨t1, rfl, ?_⟩) (ItsAt.one ⟨t2, rfl, ?_⟩)
        · refine (s25.trans (s26.trans s27)) _ _ ?_
          rw [upd_same, s_sl, s_two, s_x]
        · refine (s26.trans s27) _ _ ?_
          rw [upd_same, s_two, s_x]
    · rw [← std_apart hok] at hpz
      have hac : ∀ v ∈ rawStd (appW ws [47 :: ix, ix]), ∀ c ∈ v, c < 128 := fun v hv => ((app_sh hpw hwl).std.2 v hv).2
      refine eq_words hac (Same.tup ((((((s21.trans s22).trans s23).trans s24).trans s25).trans (s26.trans s27)).trans s28) z4) (SqT.mk hpz) (q _)
end
end K11

set_option Elab.async false
set_option linter.all false
set_option maxRecDepth 100000
set_option maxHeartbeats 0
namespace K11
open PySem PySem.Spec PyProof.Rows L2
def d_is_integer : He.DefD := ⟨("is_integer", none), "is_integer", "is_integer", defArgs s_is_integer, defBody s_is_integer, defScope s_is_integer, [], []⟩
def d_is_within : He.DefD := ⟨("is_within", none), "is_within", "is_within", defArgs s_is_within, defBody s_is_within, defScope s_is_within, [], []⟩
def d_is_name : He.DefD := ⟨("is_name", none), "is_name", "is_name", defArgs s_is_name, defBody s_is_name, defScope s_is_name, [], []⟩
def d_is_give : He.DefD := ⟨("is_give", none), "is_give", "is_give", defArgs s_is_give, defBody s_is_give, defScope s_is_give, [], []⟩
def d_is_take : He.DefD := ⟨("is_take", none), "is_take", "is_take", defArgs s_is_take, defBody s_is_take, defScope s_is_take, [], []⟩
def d_name_of : He.DefD := ⟨("name_of", none), "name_of", "name_of", defArgs s_name_of, defBody s_name_of, defScope s_name_of, [], []⟩
def d_is_word : He.DefD := ⟨("is_word", none), "is_word", "is_word", defArgs s_is_word, defBody s_is_word, defScope s_is_word, [], []⟩
def d_asked_by : He.DefD := ⟨("asked_by", none), "asked_by", "asked_by", defArgs s_asked_by, defBody s_asked_by, defScope s_asked_by, [], []⟩
def d_wrong_end : He.DefD := ⟨("wrong_end", none), "wrong_end", "wrong_end", defArgs s_wrong_end, defBody s_wrong_end, defScope s_wrong_end, [], []⟩
def d_wrong_second : He.DefD := ⟨("wrong_second", none), "wrong_second", "wrong_second", defArgs s_wrong_second, defBody s_wrong_second, defScope s_wrong_second, [], []⟩
def d_raw_ends : He.DefD := ⟨("raw_ends", none), "raw_ends", "raw_ends", defArgs s_raw_ends, defBody s_raw_ends, defScope s_raw_ends, [], []⟩
def d_uses : He.DefD := ⟨("uses", none), "uses", "uses", defArgs s_uses, defBody s_uses, defScope s_uses, [], []⟩
def d_taken : He.DefD := ⟨("taken", none), "taken", "taken", defArgs s_taken, defBody s_taken, defScope s_taken, [], []⟩
def d_wrong_take : He.DefD := ⟨("wrong_take", none), "wrong_take", "wrong_take", defArgs s_wrong_take, defBody s_wrong_take, defScope s_wrong_take, [], []⟩
def d_fault_in : He.DefD := ⟨("fault_in", none), "fault_in", "fault_in", defArgs s_fault_in, defBody s_fault_in, defScope s_fault_in, [], []⟩
def d_raw_open : He.DefD := ⟨("raw_open", none), "raw_open", "raw_open", defArgs s_raw_open, defBody s_raw_open, defScope s_raw_open, [], []⟩
def d_open_names : He.DefD := ⟨("open_names", none), "open_names", "open_names", defArgs s_open_names, defBody s_open_names, defScope s_open_names, [], []⟩
def d_givens : He.DefD := ⟨("givens", none), "givens", "givens", defArgs s_givens, defBody s_givens, defScope s_givens, [], []⟩
def d_takes : He.DefD := ⟨("takes", none), "takes", "takes", defArgs s_takes, defBody s_takes, defScope s_takes, [], []⟩
def d_ends : He.DefD := ⟨("ends", none), "ends", "ends", defArgs s_ends, defBody s_ends, defScope s_ends, [], []⟩
def d_check_place : He.DefD := ⟨("check_place", none), "check_place", "check_place", defArgs s_check_place, defBody s_check_place, defScope s_check_place, [], []⟩
def d_part : He.DefD := ⟨("part", none), "part", "part", defArgs s_part, defBody s_part, defScope s_part, [], []⟩
def d_letters_name : He.DefD := ⟨("letters_name", none), "letters_name", "letters_name", defArgs s_letters_name, defBody s_letters_name, defScope s_letters_name, [], []⟩
def d_word_renamed : He.DefD := ⟨("word_renamed", none), "word_renamed", "word_renamed", defArgs s_word_renamed, defBody s_word_renamed, defScope s_word_renamed, [], []⟩
def d_words_renamed : He.DefD := ⟨("words_renamed", none), "words_renamed", "words_renamed", defArgs s_words_renamed, defBody s_words_renamed, defScope s_words_renamed, [], []⟩
def d_raw_standard : He.DefD := ⟨("raw_standard", none), "raw_standard", "raw_standard", defArgs s_raw_standard, defBody s_raw_standard, defScope s_raw_standard, [], []⟩
def d_standard : He.DefD := ⟨("standard", none), "standard", "standard", defArgs s_standard, defBody s_standard, defScope s_standard, [], []⟩
def d_same : He.DefD := ⟨("same", none), "same", "same", defArgs s_same, defBody s_same, defScope s_same, [], []⟩
def d_apart : He.DefD := ⟨("apart", none), "apart", "apart", defArgs s_apart, defBody s_apart, defScope s_apart, [], []⟩
def d_applied : He.DefD := ⟨("applied", none), "applied", "applied", defArgs s_applied, defBody s_applied, defScope s_applied, [], []⟩
def d_law_pot : He.DefD := ⟨("_law_pot", none), "_law_pot", "_law_pot", defArgs s_law_pot, defBody s_law_pot, defScope s_law_pot, [], []⟩
def d_law_draw : He.DefD := ⟨("_law_draw", none), "_law_draw", "_law_draw", defArgs s_law_draw, defBody s_law_draw, defScope s_law_draw, [], []⟩
def d_law_letters : He.DefD := ⟨("_law_letters", none), "_law_letters", "_law_letters", defArgs s_law_letters, defBody s_law_letters, defScope s_law_letters, [], []⟩
def d_law_fresh : He.DefD := ⟨("_law_fresh", none), "_law_fresh", "_law_fresh", defArgs s_law_fresh, defBody s_law_fresh, defScope s_law_fresh, [], []⟩
def d_law_mixed : He.DefD := ⟨("_law_mixed", none), "_law_mixed", "_law_mixed", defArgs s_law_mixed, defBody s_law_mixed, defScope s_law_mixed, [], []⟩
def d_law_ends : He.DefD := ⟨("_law_ends", none), "_law_ends", "_law_ends", defArgs s_law_ends, defBody s_law_ends, defScope s_law_ends, [], []⟩
def d_law_open : He.DefD := ⟨("_law_open", none), "_law_open", "_law_open", defArgs s_law_open, defBody s_law_open, defScope s_law_open, [], []⟩
def d_law_marked : He.DefD := ⟨("_law_marked", none), "_law_marked", "_law_marked", defArgs s_law_marked, defBody s_law_marked, defScope s_law_marked, [], []⟩
def d_law_standard : He.DefD := ⟨("_law_standard", none), "_law_standard", "_law_standard", defArgs s_law_standard, defBody s_law_standard, defScope s_law_standard, [], []⟩
def d_law_sides : He.DefD := ⟨("_law_sides", none), "_law_sides", "_law_sides", defArgs s_law_sides, defBody s_law_sides, defScope s_law_sides, [], []⟩
def d_law_comb : He.DefD := ⟨("_law_comb", none), "_law_comb", "_law_comb", defArgs s_law_comb, defBody s_law_comb, defScope s_law_comb, [], []⟩
def d_law_nested : He.DefD := ⟨("_law_nested", none), "_law_nested", "_law_nested", defArgs s_law_nested, defBody s_law_nested, defScope s_law_nested, [], []⟩
def d_law_chain : He.DefD := ⟨("_law_chain", none), "_law_chain", "_law_chain", defArgs s_law_chain, defBody s_law_chain, defScope s_law_chain, [], []⟩
def d_law : He.DefD := ⟨("law", none), "law", "law", defArgs s_law, defBody s_law, defScope s_law, [], []⟩
def d_Program_init : He.DefD := ⟨("Program", some "__init__"), "__init__", "Program.__init__", defArgs s_Program_init, defBody s_Program_init, defScope s_Program_init, [], []⟩
def d_RawProgram_init : He.DefD := ⟨("RawProgram", some "__init__"), "__init__", "RawProgram.__init__", defArgs s_RawProgram_init, defBody s_RawProgram_init, defScope s_RawProgram_init, [], []⟩
def fn0 : List He.DefD := [d_is_integer, d_is_within, d_is_name, d_is_give, d_is_take, d_name_of, d_is_word, d_asked_by, d_wrong_end, d_wrong_second, d_raw_ends, d_uses, d_taken, d_wrong_take, d_fault_in, d_raw_open, d_open_names, d_givens, d_takes, d_ends, d_check_place, d_part, d_letters_name, d_word_renamed, d_words_renamed, d_raw_standard, d_standard, d_same, d_apart, d_applied]
def fn1 : List He.DefD := [d_law_pot, d_law_draw, d_law_letters, d_law_fresh, d_law_mixed, d_law_ends, d_law_open, d_law_marked, d_law_standard, d_law_sides, d_law_comb, d_law_nested, d_law_chain, d_law, d_Program_init, d_RawProgram_init]
def fn : List He.DefD := fn0 ++ fn1
def fa0 : List He.Fa := [.glo "is_integer", .glo "is_within", .glo "is_name", .glo "is_give", .glo "is_take", .glo "name_of", .glo "is_word", .glo "asked_by", .glo "wrong_end", .glo "wrong_second", .glo "raw_ends", .glo "uses", .glo "taken", .glo "wrong_take", .glo "fault_in", .glo "raw_open", .glo "open_names", .glo "givens", .glo "takes", .glo "ends", .glo "check_place", .glo "part", .glo "letters_name", .glo "word_renamed", .glo "words_renamed", .glo "raw_standard", .glo "standard", .glo "same", .glo "apart", .glo "applied"]
def fa1 : List He.Fa := [.glo "_law_pot", .glo "_law_draw", .glo "_law_letters", .glo "_law_fresh", .glo "_law_mixed", .glo "_law_ends", .glo "_law_open", .glo "_law_marked", .glo "_law_standard", .glo "_law_sides", .glo "_law_comb", .glo "_law_nested", .glo "_law_chain", .glo "law", .glo "Program", .glo "RawProgram", .free "isinstance", .free "int", .free "bool", .free "str", .free "tuple", .free "list", .free "len", .free "all", .free "enumerate", .free "range", .free "sum", .free "abs", .int "MOST_WORDS" 1000, .str "LETTERS" "abcdefghijklmnopqrstuvwxyz"]
def fa2 : List He.Fa := [.cls "Program", .cls "RawProgram", .noat "Program" "words", .noat "RawProgram" "words", .mkr "Program", .mkr "RawProgram"]
def fa : List He.Fa := fa0 ++ fa1 ++ fa2
def loose0 : List PySem.Str := ["KindError", "BadProgram", "NoPlace", "SharedNames", "Program", "RawProgram", "MOST_WORDS", "LETTERS", "_law_shape", "is_integer", "is_within", "is_name", "is_give", "is_take", "name_of", "is_word", "asked_by", "wrong_end", "wrong_second", "raw_ends", "uses", "taken", "wrong_take", "fault_in", "raw_open", "open_names", "givens", "takes", "ends", "check_place"]
def loose1 : List PySem.Str := ["part", "letters_name", "word_renamed", "words_renamed", "raw_standard", "standard", "same", "apart", "applied", "_law_pot", "_law_draw", "_law_letters", "_law_fresh", "_law_mixed", "_law_ends", "_law_open", "_law_marked", "_law_standard", "_law_sides", "_law_comb", "_law_nested", "_law_chain"]
def loose : List PySem.Str := loose0 ++ loose1
abbrev R : PySem.W.OpenRow := PySem.W.OpenLaw.row PySem.Challenge.rw_oncekinds_k11_whole_deep_programs
abbrev hk : PySem.W.Hook := He.hookD 5 fa fn
def ob (s : PySem.W.SharedT) : He.AlD := He.obsDG 5 fa fn (HandSHeadRun.getT s)
theorem ob_eq (s : PySem.W.SharedT) : ob s = hk.obs s.abs := He.obsDG_eq (HandSHeadRun.getT_eq s)
theorem run (w : World) : HandSHeadRun.RunEq R (PySem.W.view R.prog [57]) hk ob 6000 loose w := by
  intro os
  kernel_rfl
end K11

set_option Elab.async false
set_option linter.all false
set_option maxRecDepth 100000
set_option maxHeartbeats 0
namespace K11
open PySem PySem.Spec PyProof.Rows L2
theorem gb_of {K : PySem.W.Frag} {h : Heap} {mg : Str → Option Value} (X : K.In h) (N : h.Ns mainGlobals mg) (c : He.SaysD fa fn K) : Gb mg :=
  ⟨He.free_ok X N (c.fact 46 (f := .free "isinstance") rfl), He.free_ok X N (c.fact 47 (f := .free "int") rfl), He.free_ok X N (c.fact 48 (f := .free "bool") rfl), He.free_ok X N (c.fact 49 (f := .free "str") rfl), He.free_ok X N (c.fact 50 (f := .free "tuple") rfl), He.free_ok X N (c.fact 51 (f := .free "list") rfl), He.free_ok X N (c.fact 52 (f := .free "len") rfl), He.free_ok X N (c.fact 53 (f := .free "all") rfl), He.free_ok X N (c.fact 54 (f := .free "enumerate") rfl), He.free_ok X N (c.fact 55 (f := .free "range") rfl), He.free_ok X N (c.fact 56 (f := .free "sum") rfl), He.free_ok X N (c.fact 57 (f := .free "abs") rfl), He.int_ok X N (c.fact 58 (f := .int "MOST_WORDS" 1000) rfl), He.str_ok X N (c.fact 59 (f := .str "LETTERS" "abcdefghijklmnopqrstuvwxyz") rfl)⟩
theorem facts {P : Program} {w : World} {K : PySem.W.Frag} {h : Heap} {mg : Str → Option Value} {f : Addr} (X : K.In h) (N : h.Ns mainGlobals mg) (hfa : mg ("law" : Str) = some (.ref f)) (c : He.SaysD fa fn K) :
    ∃ fd : FuncData, (∀ (s : Shared) (v : Value), BindsTo s fd ⟨[v], []⟩ [("_law_script", v)]) ∧ ∀ base : Heap, K.In base → base.Ns mainGlobals mg → FnOk P w K mg base CX0 8 f fd ["_law_script"] (spLaw K) := by
  have G : Gb mg := gb_of X N c
  obtain ⟨fdis_give, Fis_give⟩ := c.def_ 3 (d := d_is_give) rfl
  obtain ⟨fdis_take, Fis_take⟩ := c.def_ 4 (d := d_is_take) rfl
  obtain ⟨fdname_of, Fname_of⟩ := c.def_ 5 (d := d_name_of) rfl
  obtain ⟨fdasked_by, Fasked_by⟩ := c.def_ 7 (d := d_asked_by) rfl
  obtain ⟨fdis_name, Fis_name⟩ := c.def_ 2 (d := d_is_name) rfl
  obtain ⟨fdis_word, Fis_word⟩ := c.def_ 6 (d := d_is_word) rfl
  obtain ⟨fdis_integer, Fis_integer⟩ := c.def_ 0 (d := d_is_integer) rfl
  obtain ⟨fdis_within, Fis_within⟩ := c.def_ 1 (d := d_is_within) rfl
  obtain ⟨fdcheck_place, Fcheck_place⟩ := c.def_ 20 (d := d_check_place) rfl
  obtain ⟨fdwrong_end, Fwrong_end⟩ := c.def_ 8 (d := d_wrong_end) rfl
  obtain ⟨fdwrong_second, Fwrong_second⟩ := c.def_ 9 (d := d_wrong_second) rfl
  obtain ⟨fdraw_ends, Fraw_ends⟩ := c.def_ 10 (d := d_raw_ends) rfl
  obtain ⟨fduses, Fuses⟩ := c.def_ 11 (d := d_uses) rfl
  obtain ⟨fdtaken, Ftaken⟩ := c.def_ 12 (d := d_taken) rfl
  obtain ⟨fdwrong_take, Fwrong_take⟩ := c.def_ 13 (d := d_wrong_take) rfl
  obtain ⟨fdfault_in, Ffault_in⟩ := c.def_ 14 (d := d_fault_in) rfl
  obtain ⟨fdraw_open, Fraw_open⟩ := c.def_ 15 (d := d_raw_open) rfl
  obtain ⟨fdopen_names, Fopen_names⟩ := c.def_ 16 (d := d_open_names) rfl
  obtain ⟨fdends, Fends⟩ := c.def_ 19 (d := d_ends) rfl
  obtain ⟨fdgivens, Fgivens⟩ := c.def_ 17 (d := d_givens) rfl
  obtain ⟨fdtakes, Ftakes⟩ := c.def_ 18 (d := d_takes) rfl
  obtain ⟨fdpart, Fpart⟩ := c.def_ 21 (d := d_part) rfl
  obtain ⟨fdletters_name, Fletters_name⟩ := c.def_ 22 (d := d_letters_name) rfl
  obtain ⟨fdword_renamed, Fword_renamed⟩ := c.def_ 23 (d := d_word_renamed) rfl
  obtain ⟨fdwords_renamed, Fwords_renamed⟩ := c.def_ 24 (d := d_words_renamed) rfl
  obtain ⟨fdraw_standard, Fraw_standard⟩ := c.def_ 25 (d := d_raw_standard) rfl
  obtain ⟨fdstandard, Fstandard⟩ := c.def_ 26 (d := d_standard) rfl
  obtain ⟨fdsame, Fsame⟩ := c.def_ 27 (d := d_same) rfl
  obtain ⟨fdapart, Fapart⟩ := c.def_ 28 (d := d_apart) rfl
  obtain ⟨fdapplied, Fapplied⟩ := c.def_ 29 (d := d_applied) rfl
  obtain ⟨fd_law_pot, F_law_pot⟩ := c.def_ 30 (d := d_law_pot) rfl
  obtain ⟨fd_law_draw, F_law_draw⟩ := c.def_ 31 (d := d_law_draw) rfl
  obtain ⟨fd_law_letters, F_law_letters⟩ := c.def_ 32 (d := d_law_letters) rfl
  obtain ⟨fd_law_fresh, F_law_fresh⟩ := c.def_ 33 (d := d_law_fresh) rfl
  obtain ⟨fd_law_mixed, F_law_mixed⟩ := c.def_ 34 (d := d_law_mixed) rfl
  obtain ⟨fd_law_ends, F_law_ends⟩ := c.def_ 35 (d := d_law_ends) rfl
  obtain ⟨fd_law_open, F_law_open⟩ := c.def_ 36 (d := d_law_open) rfl
  obtain ⟨fd_law_marked, F_law_marked⟩ := c.def_ 37 (d := d_law_marked) rfl
  obtain ⟨fd_law_standard, F_law_standard⟩ := c.def_ 38 (d := d_law_standard) rfl
  obtain ⟨fd_law_sides, F_law_sides⟩ := c.def_ 39 (d := d_law_sides) rfl
  obtain ⟨fd_law_comb, F_law_comb⟩ := c.def_ 40 (d := d_law_comb) rfl
  obtain ⟨fd_law_nested, F_law_nested⟩ := c.def_ 41 (d := d_law_nested) rfl
  obtain ⟨fd_law_chain, F_law_chain⟩ := c.def_ 42 (d := d_law_chain) rfl
  obtain ⟨fdlaw, Flaw⟩ := c.def_ 43 (d := d_law) rfl
  obtain ⟨fdProgram, FProgram⟩ := c.def_ 44 (d := d_Program_init) rfl
  obtain ⟨fdRawProgram, FRawProgram⟩ := c.def_ 45 (d := d_RawProgram_init) rfl
  have TP : Cp K mg "Program" (He.ga K "Program") := ⟨He.cls_ok (c.fact 60 (f := .cls "Program") rfl), He.noat_ok (c.fact 62 (f := .noat "Program" "words") rfl), (He.glo_ok X N (c.fact 44 (f := .glo "Program") rfl))⟩
  have TR : Cp K mg "RawProgram" (He.ga K "RawProgram") := ⟨He.cls_ok (c.fact 61 (f := .cls "RawProgram") rfl), He.noat_ok (c.fact 63 (f := .noat "RawProgram" "words") rfl), (He.glo_ok X N (c.fact 45 (f := .glo "RawProgram") rfl))⟩
  have e := hfa.symm.trans (He.glo_ok X N (c.fact 43 (f := .glo "law") rfl))
  cases e
  have b := FunD.bindsA (ps := ["_law_script"]) Flaw fun _ _ _ _ _ _ us hl => match us, hl with | [_], _ => rfl
  refine ⟨fdlaw, fun s v => b s [v] rfl, fun base _ _ => ?_⟩
  have MR := c_raw_init (P := P) (w := w) (base := base) FRawProgram TR (He.mkr_ok (c.fact 65 (f := .mkr "RawProgram") rfl)) G
  have Cis_give := c_is_give (P := P) (w := w) (base := base) Fis_give (He.glo_ok X N (c.fact 3 (f := .glo "is_give") rfl)) 
  have Cis_take := c_is_take (P := P) (w := w) (base := base) Fis_take (He.glo_ok X N (c.fact 4 (f := .glo "is_take") rfl)) 
  have Cname_of := c_name_of (P := P) (w := w) (base := base) Fname_of (He.glo_ok X N (c.fact 5 (f := .glo "name_of") rfl)) Cis_take
  have Casked_by := c_asked_by (P := P) (w := w) (base := base) Fasked_by (He.glo_ok X N (c.fact 7 (f := .glo "asked_by") rfl)) Cis_give Cis_take
  have Cis_name := c_is_name (P := P) (w := w) (base := base) Fis_name (He.glo_ok X N (c.fact 2 (f := .glo "is_name") rfl)) G
  have Cis_word := c_is_word (P := P) (w := w) (base := base) Fis_word (He.glo_ok X N (c.fact 6 (f := .glo "is_word") rfl)) G Cis_name
  have Cis_integer := c_is_integer (P := P) (w := w) (base := base) Fis_integer (He.glo_ok X N (c.fact 0 (f := .glo "is_integer") rfl)) G
  have Cis_within := c_is_within (P := P) (w := w) (base := base) Fis_within (He.glo_ok X N (c.fact 1 (f := .glo "is_within") rfl)) Cis_integer
  have Ccheck_place := c_check_place (P := P) (w := w) (base := base) Fcheck_place (He.glo_ok X N (c.fact 20 (f := .glo "check_place") rfl)) G Cis_within
  have Cwrong_end := c_wrong_end (P := P) (w := w) (base := base) Fwrong_end (He.glo_ok X N (c.fact 8 (f := .glo "wrong_end") rfl)) G Casked_by
  have Cwrong_second := c_wrong_second (P := P) (w := w) (base := base) Fwrong_second (He.glo_ok X N (c.fact 9 (f := .glo "wrong_second") rfl)) G Cis_give
  have Craw_ends := c_raw_ends (P := P) (w := w) (base := base) Fraw_ends (He.glo_ok X N (c.fact 10 (f := .glo "raw_ends") rfl)) G Casked_by
  have Cuses := c_uses (P := P) (w := w) (base := base) Fuses (He.glo_ok X N (c.fact 11 (f := .glo "uses") rfl)) G Cis_give Cis_take
  have Ctaken := c_taken (P := P) (w := w) (base := base) Ftaken (He.glo_ok X N (c.fact 12 (f := .glo "taken") rfl)) G Cname_of Cis_take
  have Cwrong_take := c_wrong_take (P := P) (w := w) (base := base) Fwrong_take (He.glo_ok X N (c.fact 13 (f := .glo "wrong_take") rfl)) G Craw_ends Cuses Cis_take Cname_of
  have Cfault_in := c_fault_in (P := P) (w := w) (base := base) Ffault_in (He.glo_ok X N (c.fact 14 (f := .glo "fault_in") rfl)) G Cis_word Cwrong_end Cwrong_second Cwrong_take
  have MP := c_prog_init (P := P) (w := w) (base := base) FProgram TP (He.mkr_ok (c.fact 64 (f := .mkr "Program") rfl)) G Cfault_in
  have Craw_open := c_raw_open (P := P) (w := w) (base := base) Fraw_open (He.glo_ok X N (c.fact 15 (f := .glo "raw_open") rfl)) G Ctaken Cis_give Cis_take
  have Copen_names := c_open_names (P := P) (w := w) (base := base) Fopen_names (He.glo_ok X N (c.fact 16 (f := .glo "open_names") rfl)) Craw_open
  have Cends := c_ends (P := P) (w := w) (base := base) Fends (He.glo_ok X N (c.fact 19 (f := .glo "ends") rfl)) Craw_ends
  have Cgivens := c_givens (P := P) (w := w) (base := base) Fgivens (He.glo_ok X N (c.fact 17 (f := .glo "givens") rfl)) G Cis_give
  have Ctakes := c_takes (P := P) (w := w) (base := base) Ftakes (He.glo_ok X N (c.fact 18 (f := .glo "takes") rfl)) G Cis_take
  have Cpart := c_part (P := P) (w := w) (base := base) Fpart (He.glo_ok X N (c.fact 21 (f := .glo "part") rfl)) G TR Ccheck_place MR Craw_ends
  have Cletters_name := c_letters_name (P := P) (w := w) (base := base) Fletters_name (He.glo_ok X N (c.fact 22 (f := .glo "letters_name") rfl)) G
  have Cword_renamed := c_word_renamed (P := P) (w := w) (base := base) Fword_renamed (He.glo_ok X N (c.fact 23 (f := .glo "word_renamed") rfl)) Cis_give Cis_take Cname_of
  have Cwords_renamed := c_words_renamed (P := P) (w := w) (base := base) Fwords_renamed (He.glo_ok X N (c.fact 24 (f := .glo "words_renamed") rfl)) G Cword_renamed
  have Craw_standard := c_raw_standard (P := P) (w := w) (base := base) Fraw_standard (He.glo_ok X N (c.fact 25 (f := .glo "raw_standard") rfl)) Craw_open Cis_take Cletters_name Cname_of Cwords_renamed
  have Cstandard := c_standard (P := P) (w := w) (base := base) Fstandard (He.glo_ok X N (c.fact 26 (f := .glo "standard") rfl)) TR MR Craw_standard
  have Csame := c_same (P := P) (w := w) (base := base) Fsame (He.glo_ok X N (c.fact 27 (f := .glo "same") rfl)) Craw_standard
  have Capart := c_apart (P := P) (w := w) (base := base) Fapart (He.glo_ok X N (c.fact 28 (f := .glo "apart") rfl)) G Craw_open Cis_give Cis_take Cname_of
  have Capplied := c_applied (P := P) (w := w) (base := base) Fapplied (He.glo_ok X N (c.fact 29 (f := .glo "applied") rfl)) G TR MR Craw_standard Craw_open Capart
  have C_law_pot := c_pot (P := P) (w := w) (base := base) F_law_pot (He.glo_ok X N (c.fact 30 (f := .glo "_law_pot") rfl)) G
  have C_law_draw := c_draw (P := P) (w := w) (base := base) F_law_draw (He.glo_ok X N (c.fact 31 (f := .glo "_law_draw") rfl)) G
  have C_law_letters := c_lletters (P := P) (w := w) (base := base) F_law_letters (He.glo_ok X N (c.fact 32 (f := .glo "_law_letters") rfl)) G
  have C_law_fresh := c_fresh (P := P) (w := w) (base := base) F_law_fresh (He.glo_ok X N (c.fact 33 (f := .glo "_law_fresh") rfl)) G C_law_draw C_law_letters
  have C_law_mixed := c_mixed (P := P) (w := w) (base := base) F_law_mixed (He.glo_ok X N (c.fact 34 (f := .glo "_law_mixed") rfl)) G C_law_draw
  have C_law_ends := c_law_ends (P := P) (w := w) (base := base) F_law_ends (He.glo_ok X N (c.fact 35 (f := .glo "_law_ends") rfl)) G
  have C_law_open := c_law_open (P := P) (w := w) (base := base) F_law_open (He.glo_ok X N (c.fact 36 (f := .glo "_law_open") rfl)) 
  have C_law_marked := c_law_marked (P := P) (w := w) (base := base) F_law_marked (He.glo_ok X N (c.fact 37 (f := .glo "_law_marked") rfl)) 
  have C_law_standard := c_law_standard (P := P) (w := w) (base := base) F_law_standard (He.glo_ok X N (c.fact 38 (f := .glo "_law_standard") rfl)) G C_law_letters
  have C_law_sides := c_sides (P := P) (w := w) (base := base) F_law_sides (He.glo_ok X N (c.fact 39 (f := .glo "_law_sides") rfl)) G C_law_draw
  have C_law_comb := c_comb (P := P) (w := w) (base := base) F_law_comb (He.glo_ok X N (c.fact 40 (f := .glo "_law_comb") rfl)) G
  have C_law_nested := c_nested (P := P) (w := w) (base := base) F_law_nested (He.glo_ok X N (c.fact 41 (f := .glo "_law_nested") rfl)) G C_law_fresh C_law_mixed C_law_sides C_law_comb C_law_draw
  have C_law_chain := c_chain (P := P) (w := w) (base := base) F_law_chain (He.glo_ok X N (c.fact 42 (f := .glo "_law_chain") rfl)) G C_law_fresh
  exact c_law (CR := 0) Flaw G TP C_law_pot C_law_draw C_law_nested C_law_chain MP C_law_ends Cends Cgivens Ctakes Copen_names C_law_open Cpart Cstandard C_law_standard C_law_marked Csame Capplied
end K11
open PySem PySem.W PySem.Calls PyProof.Rows
theorem PySem.Challenge.cw_oncekinds_k11_whole_deep_programs_holds : PySem.Challenge.rw_oncekinds_k11_whole_deep_programs.Holds := by
  w_on; o_law
  refine HandSHeadRun.head_any (r := OpenLaw.row PySem.Challenge.rw_oncekinds_k11_whole_deep_programs) (q := view (OpenLaw.row PySem.Challenge.rw_oncekinds_k11_whole_deep_programs).prog [57]) (H := K11.hk) (ob := K11.ob) (M := 6000) (loose := K11.loose) (d := HandSHeadRun.topDef (OpenLaw.row PySem.Challenge.rw_oncekinds_k11_whole_deep_programs).prog 57) (kwd := []) K11.ob_eq
    (by kernel_rfl) (fun s => by kernel_rfl) K11.run (by kernel_rfl) (by kernel_rfl) (by kernel_rfl) (by rfl) (by first | assumption | decide +kernel) (by decide +kernel) ⟨rfl, rfl, rfl, rfl, rfl, by decide +kernel⟩ ?hw ?hc
  case hw => w_witness2
  case hc =>
    refine L2.walk_ofE (l := PySem.Challenge.rw_oncekinds_k11_whole_deep_programs) (n := 63) (k := 8) (x := "_law_script") (CX := L2.CX0) rfl (by decide) (by kernel_rfl) ⟨rfl, by decide, by decide⟩ ?F (fun _ _ _ _ z => z)
    intro w mg fa h Y G hmg0
    obtain ⟨K, KX, c⟩ := Y
    have hmg : mg ("law" : PySem.Str) = some (.ref fa) := by
      have e : (HandSHeadRun.topDef (OpenLaw.row PySem.Challenge.rw_oncekinds_k11_whole_deep_programs).prog 57).name = ("law" : PySem.Str) := by kernel_rfl
      rw [← e]
      exact hmg0
    obtain ⟨fd, hb, hF⟩ := K11.facts (P := (PySem.Challenge.rw_oncekinds_k11_whole_deep_programs).prog) (w := w) KX G hmg c
    exact ⟨K, fd, K11.spLaw K, KX, hb, fun H a ns hl _ hS => ⟨a, ns, rfl, hS, hl, fun _ => rfl⟩, hF⟩
