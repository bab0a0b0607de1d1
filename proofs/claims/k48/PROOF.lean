import PyProof.Rows.All
import HandS.Text
import Wide.All
import OpenK.AllK
import Wide.FinOn
import KE.GoesRaise
import HandS.ForMost
import HandS.Exc
import HandS.WordsExc
import KE.KExcIs
import HandS.ExcInit
import HandS.ExcIs
import HandS.ExcField
import HandS.ExcOwn
import HandS.TryOnly
import HandS.ClsMeth
import HandS.More
import HandS.IsInst
import HandS.Walk
import HandS.Codes
import PySem.Challenge.RW_blurdesk_k48_whole_texts
import HandS.TupAny
import HandS.JoinGen
set_option Elab.async false
set_option linter.all false
set_option maxRecDepth 100000
set_option maxHeartbeats 4000000
/-! P1: plain law, part 1: numbers and names as words. -/
namespace BD
open PySem TL

abbrev strI (n : Int) : Str := Str.ofString (toString n)

/-- the figures of a word -/
def figs (w : Str) : List Nat := if (tl w).take 1 = [45] then (tl w).drop 1 else tl w
def isFig (c : Nat) : Bool := decide (48 ≤ c) && decide (c ≤ 57)
def isNum (w : Str) : Bool :=
  decide (1 ≤ (figs w).length) && decide ((figs w).length ≤ 19) && (figs w).all isFig && !((figs w).take 1 == [48] && decide (tl w ≠ [48]))
def numV (w : Str) : Int := if (tl w).take 1 = [45] then -(NumText.digitsVal (figs w) : Int) else (NumText.digitsVal (figs w) : Int)
def numP (w : Str) : Option Int := if isNum w = true then some (numV w) else none

def isLet (c : Nat) : Bool := decide (97 ≤ c) && decide (c ≤ 122)
def isNm (w : Str) : Bool := decide (1 ≤ w.length) && decide (w.length ≤ 8) && (tl w).all isLet

/-- a word without blank and row end -/
def GW (w : Str) : Prop := 32 ∉ tl w ∧ 10 ∉ tl w

theorem isFig_iff {c : Nat} : isFig c = true ↔ 48 ≤ c ∧ c ≤ 57 := by simp [isFig]
theorem isLet_iff {c : Nat} : isLet c = true ↔ 97 ≤ c ∧ c ≤ 122 := by simp [isLet]
theorem all_fig {l : List Nat} : l.all isFig = true ↔ NumText.AllDigits l := by
  unfold NumText.AllDigits
  rw [List.all_eq_true]
  exact ⟨fun h c hc => isFig_iff.mp (h c hc), fun h c hc => isFig_iff.mpr (h c hc)⟩

theorem dv_snoc (l : List Nat) (c : Nat) : NumText.digitsVal (l ++ [c]) = NumText.digitsVal l * 10 + (c - 48) := by
  unfold NumText.digitsVal
  rw [List.foldl_append]
  rfl
theorem dv_pos : ∀ (n : Nat) (l : List Nat), l.length = n → NumText.AllDigits l → l ≠ [] → l.take 1 ≠ [48] → 1 ≤ NumText.digitsVal l
  | 0, l, hl, _, hn, _ => absurd (List.length_eq_zero_iff.mp hl) hn
  | n + 1, l, hl, hd, hn, h0 => by
    obtain ⟨g, c, rfl⟩ : ∃ g c, l = g ++ [c] := ⟨l.dropLast, l.getLast hn, (List.dropLast_concat_getLast hn).symm⟩
    rw [dv_snoc]
    by_cases hg : g = []
    · subst hg
      have hc := hd c (by simp)
      have : c ≠ 48 := fun e => h0 (by simp [e])
      show 1 ≤ 0 * 10 + (c - 48)
      omega
    · have := dv_pos n g (by simpa using hl) (fun x hx => hd x (List.mem_append_left _ hx)) hg (fun e => h0 (by
        cases g with
        | nil => exact absurd rfl hg
        | cons a r => simpa using e))
      omega
theorem numL_dv : ∀ (n : Nat) (l : List Nat), l.length = n → NumText.AllDigits l → l ≠ [] → (l.take 1 ≠ [48] ∨ l = [48]) → numL (NumText.digitsVal l) = l
  | 0, l, hl, _, hn, _ => absurd (List.length_eq_zero_iff.mp hl) hn
  | n + 1, l, hl, hd, hn, h0 => by
    obtain ⟨g, c, rfl⟩ : ∃ g c, l = g ++ [c] := ⟨l.dropLast, l.getLast hn, (List.dropLast_concat_getLast hn).symm⟩
    have hc := hd c (by simp)
    by_cases hg : g = []
    · subst hg
      have e : NumText.digitsVal ([] ++ [c]) = c - 48 := by
        rw [dv_snoc]
        show 0 * 10 + (c - 48) = _
        omega
      rw [e, numL_lt (by omega)]
      show [48 + (c - 48)] = [c]
      congr 1
      omega
    · have hg0 : g.take 1 ≠ [48] := by
        intro e
        rcases h0 with h0 | h0
        · refine h0 ?_
          cases g with
          | nil => exact absurd rfl hg
          | cons a r => simpa using e
        · have e2 := congrArg List.length h0
          have : g.length ≠ 0 := fun z => hg (List.length_eq_zero_iff.mp z)
          simp at e2
          exact hg e2
      have hgd : NumText.AllDigits g := fun x hx => hd x (List.mem_append_left _ hx)
      have p := dv_pos n g (by simpa using hl) hgd hg hg0
      have ih := numL_dv n g (by simpa using hl) hgd hg (.inl hg0)
      rw [dv_snoc, numL_step (by omega)]
      have e1 : (NumText.digitsVal g * 10 + (c - 48)) / 10 = NumText.digitsVal g := by omega
      have e2 : 48 + (NumText.digitsVal g * 10 + (c - 48)) % 10 = c := by omega
      rw [e1, e2, ih]
theorem tl_strI_nat (n : Nat) : tl (strI (n : Int)) = numL n := tl_num n
theorem tl_strI_neg (n : Nat) (h : 0 < n) : tl (strI (-(n : Int))) = 45 :: numL n := by
  have e : toString (-(n : Int)) = "-" ++ toString ((n : Nat) : Int) := by
    rw [PyProof.Rows.toString_neg (by omega)]
    have : (0 : Int) - (-(n : Int)) = (n : Int) := by omega
    rw [this]
  have e1 : tl (strI (-(n : Int))) = (toString (-(n : Int))).toList.map Char.toNat := tl_ofString _
  have e2 : numL n = (toString ((n : Nat) : Int)).toList.map Char.toNat := by rw [← tl_num n]; exact tl_ofString _
  rw [e1, e, e2, String.toList_append, List.map_append]
  rfl

theorem take1_cons {a : Nat} {l : List Nat} : (a :: l).take 1 = [a] := rfl
/-- what a number's word is written as -/
theorem numP_str {w : Str} {n : Int} (h : numP w = some n) : strI n = w := by
  unfold numP at h
  split at h
  · rename_i hn
    have e : numV w = n := Option.some.inj h
    subst e
    unfold isNum at hn
    simp only [Bool.and_eq_true, decide_eq_true_eq, Bool.not_eq_true', Bool.and_eq_false_iff, decide_eq_false_iff_not, beq_eq_false_iff_ne, Decidable.not_not, ne_eq] at hn
    obtain ⟨⟨⟨h1, h2⟩, h3⟩, h4⟩ := hn
    have hd := all_fig.mp h3
    have hne : figs w ≠ [] := fun z => by rw [z] at h1; simp at h1
    refine ext_tl ?_
    unfold numV
    by_cases hs : (tl w).take 1 = [45]
    · rw [if_pos hs]
      have ef : figs w = (tl w).drop 1 := if_pos hs
      have ew : tl w = 45 :: figs w := by
        rw [ef]
        cases e : tl w with
        | nil => rw [e] at hs; simp at hs
        | cons a r =>
          rw [e] at hs
          have : a = 45 := by simpa using hs
          subst this
          rfl
      have h40 : (figs w).take 1 ≠ [48] := by
        rcases h4 with h4 | h4
        · exact h4
        · rw [ew] at h4
          simp at h4
      rw [tl_strI_neg _ (dv_pos _ _ rfl hd hne h40), numL_dv _ _ rfl hd hne (.inl h40), ← ew]
    · rw [if_neg hs]
      have ef : figs w = tl w := if_neg hs
      rw [tl_strI_nat, numL_dv _ _ rfl hd hne (by
        rcases h4 with h4 | h4
        · exact .inl h4
        · exact .inr (by rw [ef]; exact h4)), ef]
  · cases h
theorem digits_free {l : List Nat} (h : NumText.AllDigits l) {c : Nat} (hc : c < 48) : c ∉ l := fun hm => by
  have := h c hm
  omega
theorem gw_num {w : Str} (h : (numP w).isSome = true) : GW w := by
  unfold numP at h
  split at h
  · rename_i hn
    unfold isNum at hn
    simp only [Bool.and_eq_true] at hn
    have hd := all_fig.mp hn.1.2
    by_cases hs : (tl w).take 1 = [45]
    · have ef : figs w = (tl w).drop 1 := if_pos hs
      rw [ef] at hd
      cases e : tl w with
      | nil => rw [e] at hs; simp at hs
      | cons a r =>
        rw [e] at hs hd
        have ea : a = 45 := by simpa using hs
        subst ea
        have hd' : NumText.AllDigits r := hd
        unfold GW
        rw [e]
        simp only [List.mem_cons, not_or]
        exact ⟨⟨by decide, digits_free hd' (by decide)⟩, by decide, digits_free hd' (by decide)⟩
    · have ef : figs w = tl w := if_neg hs
      rw [ef] at hd
      exact ⟨digits_free hd (by decide), digits_free hd (by decide)⟩
  · cases h
/-- numbers of at most 19 figures are read -/
theorem numP_strI {n : Int} (h1 : -(10 ^ 19 : Int) < n) (h2 : n < 10 ^ 19) : numP (strI n) = some n := by
  have key : ∀ m : Nat, (m : Int) < 10 ^ 19 → (numL m).length ≤ 19 := fun m hm => numL_len (by decide) (by
    have : ((10 : Int) ^ 19) = ((10 ^ 19 : Nat) : Int) := by decide
    rw [this] at hm
    exact Int.ofNat_lt.mp hm)
  have h48 : ∀ m : Nat, (numL m).take 1 = [48] → m = 0 := fun m => by
    induction m using Nat.strongRecOn with
    | _ m ih =>
      intro hm
      by_cases hlt : m < 10
      · rw [numL_lt hlt] at hm
        have : 48 + m = 48 := by simpa using hm
        omega
      · rw [numL_step (by omega)] at hm
        have hq : (numL (m / 10)).take 1 = [48] := by
          cases e : numL (m / 10) with
          | nil => exact absurd e (numL_ne _)
          | cons a r => rw [e] at hm; simpa using hm
        have := ih (m / 10) (by omega) hq
        omega
  rcases Int.lt_or_le n 0 with hn | hn
  · obtain ⟨m, rfl⟩ : ∃ m : Nat, n = -(m : Int) := ⟨n.natAbs, by omega⟩
    have hm : 0 < m := by omega
    have et := tl_strI_neg m hm
    have hs : (tl (strI (-(m : Int)))).take 1 = [45] := by rw [et]; rfl
    have ef : figs (strI (-(m : Int))) = numL m := by
      unfold figs
      rw [if_pos hs, et]
      rfl
    have hv : numV (strI (-(m : Int))) = -(m : Int) := by
      unfold numV
      rw [if_pos hs, ef, numL_val]
    have hi : isNum (strI (-(m : Int))) = true := by
      unfold isNum
      rw [ef]
      simp only [Bool.and_eq_true, decide_eq_true_eq, Bool.not_eq_true', Bool.and_eq_false_iff, decide_eq_false_iff_not, beq_eq_false_iff_ne, ne_eq]
      refine ⟨⟨⟨List.length_pos_iff.mpr (numL_ne m), key m (by omega)⟩, all_fig.mpr (numL_digits m)⟩, .inl fun z => ?_⟩
      have := h48 m z
      omega
    unfold numP
    rw [if_pos hi, hv]
  · obtain ⟨m, rfl⟩ := Int.eq_ofNat_of_zero_le hn
    have et := tl_strI_nat m
    have hs : ¬ (tl (strI (m : Int))).take 1 = [45] := by
      rw [et]
      intro z
      have hd := numL_digits m
      cases e : numL m with
      | nil => exact numL_ne m e
      | cons a r =>
        rw [e] at z hd
        have ea : a = 45 := by simpa using z
        have := hd a (by simp)
        omega
    have ef : figs (strI (m : Int)) = numL m := by
      unfold figs
      rw [if_neg hs, et]
    have hv : numV (strI (m : Int)) = (m : Int) := by
      unfold numV
      rw [if_neg hs, ef, numL_val]
    have hi : isNum (strI (m : Int)) = true := by
      unfold isNum
      rw [ef, et]
      simp only [Bool.and_eq_true, decide_eq_true_eq, Bool.not_eq_true', Bool.and_eq_false_iff, decide_eq_false_iff_not, beq_eq_false_iff_ne, ne_eq, Decidable.not_not]
      refine ⟨⟨⟨List.length_pos_iff.mpr (numL_ne m), key m (by omega)⟩, all_fig.mpr (numL_digits m)⟩, ?_⟩
      by_cases hz : m = 0
      · right
        rw [hz]
        exact numL_lt (by decide)
      · left
        intro z
        exact hz (h48 m z)
    unfold numP
    rw [if_pos hi, hv]
theorem strI_len {n : Int} (h1 : -(10 ^ 19 : Int) < n) (h2 : n < 10 ^ 19) : (strI n).length ≤ 20 := by
  have h := numP_strI h1 h2
  unfold numP at h
  split at h
  · rename_i hn
    unfold isNum at hn
    simp only [Bool.and_eq_true, decide_eq_true_eq] at hn
    have h3 := hn.1.1.2
    rw [len_tl]
    unfold figs at h3
    split at h3
    · rw [List.length_drop] at h3
      omega
    · omega
  · cases h
theorem gw_nm {w : Str} (h : isNm w = true) : GW w := by
  unfold isNm at h
  simp only [Bool.and_eq_true, List.all_eq_true] at h
  exact ⟨fun hm => by have := isLet_iff.mp (h.2 _ hm); omega, fun hm => by have := isLet_iff.mp (h.2 _ hm); omega⟩
end BD
/-! P2: plain law, part 2: rows of words, the block machine. -/
namespace BD
open PySem TL

abbrev Ws := List Str
def arity (w : Str) : Option Nat :=
  if w = "not" then some 1 else if w = "add" then some 2 else if w = "sub" then some 2 else if w = "mul" then some 2 else if w = "quo" then some 2 else if w = "less" then some 2
  else if w = "same" then some 2 else if w = "both" then some 2 else if w = "any" then some 2 else if w = "pick" then some 3 else none
def times (f : Ws → Option Ws) : Nat → Ws → Option Ws
  | 0, r => some r
  | n + 1, r => match f r with
    | none => none
    | some r' => times f n r'
def numS : Ws → Option (Int × Ws)
  | [] => none
  | w :: r => match numP w with
    | none => none
    | some n => some (n, r)
def numR (r : Ws) : Option Ws := (numS r).map (·.2)
def withinS (lo hi : Int) (r : Ws) : Option (Int × Ws) := match numS r with
  | none => none
  | some (n, r) => if n < lo ∨ n > hi then none else some (n, r)
/-- a word without its first sign -/
def tailW (w : Str) : Str := ⟨((tl w).drop 1).toArray⟩
def leafP (w : Str) (r : Ws) : Option Ws :=
  if (tl w).take 1 = [39] then (if (arity (tailW w)).isSome then some r else none)
  else if isNm w = true then some r else if (numP w).isSome then some r else none
def fieldP (r : Ws) : Option Ws := match numS r with
  | none => none
  | some (n, r) => if n < 0 then none else some r
def termP : Nat → Ws → Option Ws
  | 0, _ => none
  | _ + 1, [] => none
  | d + 1, w :: r =>
    if w = "." then fieldP r
    else match arity w with
      | some k => times (termP d) k r
      | none => leafP w r
def thenP (f g : Ws → Option Ws) (r : Ws) : Option Ws := match f r with
  | none => none
  | some r => g r
def bindS (o : Option (Int × Ws)) (f : Int → Ws → Option Ws) : Option Ws := match o with
  | none => none
  | some (n, r) => f n r
def measP : Ws → Option Ws
  | [] => none
  | h :: r =>
    if h = "count" then some r
    else if h = "kinds" then termP 14 r
    else if h = "sum" then thenP (times numR 2) (termP 14) r
    else none
def listsP (r : Ws) : Option Ws := bindS (withinS 1 9 r) fun many r => bindS (withinS 1 9 r) fun wide r => times (times (termP 14) wide.toNat) many.toNat r
def pairP (wide : Nat) (r : Ws) : Option Ws := thenP numR (times numR wide) r
def pairsP (r : Ws) : Option Ws := bindS (withinS 0 9 r) fun many r => bindS (withinS (min many 1) (9 * min many 1) r) fun wide r => times (pairP wide.toNat) many.toNat r
def viewP : Nat → Ws → Option Ws
  | 0, _ => none
  | _ + 1, [] => none
  | d + 1, h :: r =>
    if h = "all" then some r
    else if h = "keep" then thenP (termP 14) (viewP d) r
    else if h = "rows" then thenP listsP (viewP d) r
    else if h = "unlike" then viewP d r
    else if h = "cap" then thenP numR (thenP (termP 14) (viewP d)) r
    else if h = "both" then thenP (viewP d) (viewP d) r
    else if h = "match" then thenP pairsP (thenP (termP 14) (viewP d)) r
    else none
def ofP : Ws → Option Ws
  | [] => none
  | w :: r => if w = "of" then some r else none
def askedP (r : Ws) : Option Ws := thenP measP (thenP ofP (viewP 8)) r
def manyP (r : Ws) : Option Ws := bindS (withinS 0 9 r) fun many r => times askedP many.toNat r
def askingP (head : Str) : Ws → Option Ws
  | [] => none
  | name :: r =>
    if isNm name = true then
      (if head = "pick" then thenP (times numR 3) manyP r
       else thenP (times numR 3) (if head = "ask" then thenP numR askedP else askedP) r)
    else none

inductive BK where
  | iff | els | parts | key | draw | on
  deriving DecidableEq
inductive RK where
  | ask | opn (b : BK) | key | els | nd | width
  deriving DecidableEq
def fin (o : Option Ws) (k : RK) : Option RK := match o with
  | some [] => some k
  | _ => none
def rowW : Ws → Option RK
  | [] => none
  | h :: r =>
    if h = "ask" ∨ h = "flat" ∨ h = "pick" then fin (askingP h r) .ask
    else if h = "if" then fin (termP 14 r) (.opn .iff)
    else if h = "parts" then fin (termP 14 r) (.opn .parts)
    else if h = "draw" then fin (times numR 2 r) (.opn .draw)
    else if h = "on" then fin (viewP 8 r) (.opn .on)
    else if h = "key" then fin (numR r) .key
    else if h = "width" then fin (numR r) .width
    else if h = "else" then fin (some r) .els
    else if h = "end" then fin (some r) .nd
    else none
def mkS (l : List Nat) : Str := ⟨l.toArray⟩
def wordsOf (row : Str) : Ws := (spl [32] 0 [] (tl row)).map mkS
def rowsOf (text : Str) : Ws := (spl [10] 0 [] (tl text)).map mkS
def rowP (row : Str) : Option RK := rowW (wordsOf row)

abbrev sp1 : Str := " "
abbrev nl1 : Str := "\n"
theorem tl_sp : tl sp1 = [32] := by decide +kernel
theorem tl_nl : tl nl1 = [10] := by decide +kernel
theorem map_mkS_tl : ∀ l : Ws, (l.map tl).map mkS = l
  | [] => rfl
  | x :: l => by
    rw [List.map_cons, List.map_cons, map_mkS_tl l]
    rfl
theorem words_eq (row : Str) : Txt.split row sp1 = wordsOf row := by
  have h := split_spl row sp1 (by rw [tl_sp]; simp) (kind_ok (by decide +kernel))
  unfold wordsOf
  rw [← tl_sp, ← h, map_mkS_tl]
theorem rows_eq (row : Str) : Txt.split row nl1 = rowsOf row := by
  have h := split_spl row nl1 (by rw [tl_nl]; simp) (kind_ok (by decide +kernel))
  unfold rowsOf
  rw [← tl_nl, ← h, map_mkS_tl]
theorem join_words (row : Str) : Txt.join sp1 (wordsOf row) = row := by
  rw [← words_eq, join_eq]
  exact StrLaws.join_split row sp1
theorem join_rows (text : Str) : Txt.join nl1 (rowsOf text) = text := by
  rw [← rows_eq, join_eq]
  exact StrLaws.join_split text nl1
theorem words_join {ws : Ws} (h : ws ≠ []) (g : ∀ w ∈ ws, 32 ∉ tl w) : wordsOf (Txt.join sp1 ws) = ws := by
  rw [← words_eq]
  exact split_join (s := 32) (S := []) tl_sp (by decide +kernel) h g
theorem rows_join {ws : Ws} (h : ws ≠ []) (g : ∀ w ∈ ws, 10 ∉ tl w) : rowsOf (Txt.join nl1 ws) = ws := by
  rw [← rows_eq]
  exact split_join (s := 10) (S := []) tl_nl (by decide +kernel) h g
theorem sp_mk : sp1 = (⟨#[32]⟩ : Str) := ext_tl (by rw [tl_sp])
theorem nl_mk : nl1 = (⟨#[10]⟩ : Str) := ext_tl (by rw [tl_nl])
theorem rows_free (text : Str) : ∀ r ∈ rowsOf text, 10 ∉ tl r := fun r hr => by
  rw [← rows_eq, nl_mk] at hr
  exact StrLaws.split_free text 10 r hr
theorem spl_ne (S : List Nat) : ∀ (k : Nat) (acc l : List Nat), spl S k acc l ≠ []
  | _, acc, [] => by rw [spl_nil]; simp
  | 0, acc, c :: r => by
    show (if pre S (c :: r) = true then acc :: spl S (S.length - 1) [] r else spl S 0 (acc ++ [c]) r) ≠ []
    split
    · simp
    · exact spl_ne S 0 _ r
  | k + 1, acc, c :: r => spl_ne S k acc r
theorem rowsOf_ne (text : Str) : rowsOf text ≠ [] := fun h => spl_ne _ _ _ _ (List.map_eq_nil_iff.mp h)
theorem wordsOf_ne (text : Str) : wordsOf text ≠ [] := fun h => spl_ne _ _ _ _ (List.map_eq_nil_iff.mp h)

/-! ### the machine: the open blocks, the innermost first -/
def stepP : RK → List BK → Option (List BK)
  | .width, _ => none
  | .els, .iff :: s => some (.els :: s)
  | .els, _ => none
  | .key, .parts :: s => some (.key :: s)
  | .key, .key :: s => some (.key :: s)
  | .key, _ => none
  | .nd, [] => none
  | .nd, .iff :: _ => none
  | .nd, _ :: s => some s
  | .ask, .parts :: _ => none
  | .ask, s => some s
  | .opn _, .parts :: _ => none
  | .opn b, s => if s.length + 1 > 6 then none else some (b :: s)
def lineP (row : Str) (s : List BK) : Option (List BK) := match rowP row with
  | none => none
  | some k => stepP k s
def runP : Ws → List BK → Option (List BK)
  | [], s => some s
  | r :: rs, s => match lineP r s with
    | none => none
    | some s' => runP rs s'
/-- none: read; else the row at fault -/
def goP : Ws → List BK → Nat → Option Nat
  | [], s, n => if s = [] then none else some n
  | r :: rs, s, n => match lineP r s with
    | none => some n
    | some s' => goP rs s' (n + 1)
def readP : Ws → Option Nat
  | [] => some 1
  | r :: rs => if rowP r = some .width then goP rs [] 2 else some 1

theorem runP_app : ∀ (a b : Ws) (s : List BK), runP (a ++ b) s = match runP a s with
    | none => none
    | some s' => runP b s'
  | [], b, s => rfl
  | r :: a, b, s => by
    show (match lineP r s with | none => none | some s' => runP (a ++ b) s') = _
    cases h : lineP r s with
    | none => simp only [runP, h]
    | some s' => simp only [runP, h, runP_app a b s']
theorem goP_run : ∀ (a b : Ws) (s s' : List BK) (n : Nat), runP a s = some s' → goP (a ++ b) s n = goP b s' (n + a.length)
  | [], b, s, s', n, h => by
    cases h
    rfl
  | r :: a, b, s, s', n, h => by
    cases e : lineP r s with
    | none => simp only [runP, e] at h; cases h
    | some s1 =>
      simp only [runP, e] at h
      show (match lineP r s with | none => some n | some s' => goP (a ++ b) s' (n + 1)) = _
      rw [e]
      show goP (a ++ b) s1 (n + 1) = _
      rw [goP_run a b s1 s' (n + 1) h, List.length_cons]
      congr 1
      omega
theorem goP_some : ∀ (a : Ws) (s : List BK) (n m : Nat), goP a s n = some m → n ≤ m ∧ m ≤ n + a.length ∧ (∃ s', runP (a.take (m - n)) s = some s') ∧ (m < n + a.length → goP (a.take (m - n + 1)) s n = some m)
  | [], s, n, m, h => by
    simp only [goP] at h
    split at h
    · cases h
    · cases h
      refine ⟨Nat.le_refl _, by simp, ⟨s, by simp [runP]⟩, fun h => by simp at h⟩
  | r :: a, s, n, m, h => by
    cases e : lineP r s with
    | none =>
      simp only [goP, e] at h
      cases h
      refine ⟨Nat.le_refl _, by simp, ⟨s, by simp [runP]⟩, fun _ => ?_⟩
      rw [Nat.sub_self, Nat.zero_add, List.take_succ_cons]
      simp only [goP, e]
    | some s1 =>
      simp only [goP, e] at h
      obtain ⟨h1, h2, ⟨s2, h3⟩, h4⟩ := goP_some a s1 (n + 1) m h
      have em : m - n = (m - (n + 1)) + 1 := by omega
      refine ⟨by omega, by rw [List.length_cons]; omega, ⟨s2, ?_⟩, fun hl => ?_⟩
      · rw [em, List.take_succ_cons]
        simp only [runP, e, h3]
      · rw [em, List.take_succ_cons]
        simp only [goP, e]
        exact h4 (by rw [List.length_cons] at hl; omega)

/-- the rows that shut the open blocks -/
def endsP : List BK → Ws
  | [] => []
  | .iff :: s => "else" :: "end" :: endsP s
  | _ :: s => "end" :: endsP s
theorem row_else : rowP "else" = some .els := by decide +kernel
theorem row_end : rowP "end" = some .nd := by decide +kernel
theorem run_ends : ∀ s : List BK, runP (endsP s) s = some []
  | [] => rfl
  | b :: s => by
    have ih := run_ends s
    cases b <;> simp only [endsP, runP, lineP, row_else, row_end, stepP, ih]

/-- THE LAW of texts: where a text is refused -/
theorem any_some {rows : Ws} {m : Nat} (h : readP rows = some m) (hne : rows ≠ []) : 1 ≤ m ∧ m ≤ rows.length + 1 ∧
    (1 < m → ∃ s, runP ((rows.take (m - 1)).tail) [] = some s ∧ rowP (rows.headD "") = some .width ∧ readP (rows.take (m - 1) ++ endsP s) = none) ∧ (m ≤ rows.length → readP (rows.take m) = some m) := by
  cases rows with
  | nil => exact absurd rfl hne
  | cons r rs =>
    by_cases hw : rowP r = some .width
    · simp only [readP, if_pos hw] at h
      obtain ⟨h1, h2, ⟨s, h3⟩, h4⟩ := goP_some rs [] 2 m h
      have e1 : m - 1 = (m - 2) + 1 := by omega
      refine ⟨by omega, by rw [List.length_cons]; omega, fun _ => ⟨s, ?_, hw, ?_⟩, fun hl => ?_⟩
      · rw [e1, List.take_succ_cons]
        exact h3
      · rw [e1, List.take_succ_cons, List.cons_append]
        simp only [readP, if_pos hw]
        rw [goP_run _ _ _ _ _ h3]
        have z := goP_run (endsP s) [] s [] (2 + (List.take (m - 2) rs).length) (run_ends s)
        rw [List.append_nil] at z
        rw [z]
        rfl
      · have e2 : m = (m - 2 + 1) + 1 := by omega
        rw [List.length_cons] at hl
        have z := h4 (by omega)
        rw [e2, List.take_succ_cons]
        simp only [readP, if_pos hw]
        rw [← e2]
        exact z
    · simp only [readP, if_neg hw] at h
      cases h
      refine ⟨by omega, by simp, fun h => absurd h (by decide), fun _ => ?_⟩
      rw [List.take_succ_cons]
      simp only [readP, if_neg hw]
/-- a spoiled row -/
theorem spoiled {a b : Ws} {r bad : Str} {s : List BK} (hw : rowP r = some .width) (ha : runP a [] = some s) (hb : lineP bad s = none) : readP (r :: a ++ bad :: b) = some (a.length + 2) := by
  rw [List.cons_append]
  simp only [readP, if_pos hw]
  rw [goP_run _ _ _ _ _ ha]
  simp only [goP, hb]
  congr 1
  omega
theorem runP_take {a : Ws} {s s' : List BK} (h : runP a s = some s') (k : Nat) : ∃ s1, runP (a.take k) s = some s1 := by
  have e := runP_app (a.take k) (a.drop k) s
  rw [List.take_append_drop, h] at e
  cases q : runP (a.take k) s with
  | none => rw [q] at e; cases e
  | some s1 => exact ⟨s1, rfl⟩
/-- the last end left out -/
theorem end_lacks {a : Ws} {r : Str} (hw : rowP r = some .width) (h : runP (a ++ [("end" : Str)]) [] = some []) : readP (r :: a) = some (a.length + 2) := by
  rw [runP_app] at h
  cases q : runP a [] with
  | none => rw [q] at h; cases h
  | some s =>
    rw [q] at h
    have hs : s ≠ [] := fun z => by
      subst z
      simp only [runP, lineP, row_end, stepP] at h
      cases h
    simp only [readP, if_pos hw]
    have z := goP_run a [] [] s 2 q
    rw [List.append_nil] at z
    rw [z]
    simp only [goP, if_neg hs]
    congr 1
    omega
end BD
/-! P3: plain law, part 3: what the law builds is read; what is bad is not. -/
namespace BD
open PySem TL

def Eat (f : Ws → Option Ws) (ws : Ws) : Prop := ∀ r, f (ws ++ r) = some r
def GWs (ws : Ws) : Prop := ∀ w ∈ ws, GW w
theorem gws_nil : GWs [] := fun _ h => nomatch h
theorem gws_cons {w : Str} {ws : Ws} (h : GW w) (g : GWs ws) : GWs (w :: ws) := fun x hx => by
  rcases List.mem_cons.mp hx with rfl | hx
  · exact h
  · exact g x hx
theorem gws_app {a b : Ws} (h : GWs a) (g : GWs b) : GWs (a ++ b) := fun x hx => (List.mem_append.mp hx).elim (h x) (g x)
instance (w : Str) : Decidable (GW w) := inferInstanceAs (Decidable (_ ∧ _))

/-! ### leaves -/
theorem ne_of_num {w c : Str} (h : (numP w).isSome = true) (hc : numP c = none) : w ≠ c := fun e => by rw [e, hc] at h; cases h
theorem arity_num {w : Str} (h : (numP w).isSome = true) : arity w = none := by
  unfold arity
  rw [if_neg (ne_of_num h (by decide +kernel)), if_neg (ne_of_num h (by decide +kernel)), if_neg (ne_of_num h (by decide +kernel)), if_neg (ne_of_num h (by decide +kernel)), if_neg (ne_of_num h (by decide +kernel)),
    if_neg (ne_of_num h (by decide +kernel)), if_neg (ne_of_num h (by decide +kernel)), if_neg (ne_of_num h (by decide +kernel)), if_neg (ne_of_num h (by decide +kernel)), if_neg (ne_of_num h (by decide +kernel))]
theorem quote_num {w : Str} (h : (numP w).isSome = true) : (tl w).take 1 ≠ [39] := by
  unfold numP at h
  split at h
  · rename_i hn
    unfold isNum at hn
    simp only [Bool.and_eq_true, decide_eq_true_eq] at hn
    obtain ⟨⟨⟨h1, _⟩, h3⟩, _⟩ := hn
    have hd := all_fig.mp h3
    intro z
    by_cases hs : (tl w).take 1 = [45]
    · rw [hs] at z; cases z
    · have ef : figs w = tl w := if_neg hs
      rw [ef] at hd
      cases e : tl w with
      | nil => rw [e] at z; cases z
      | cons a r =>
        rw [e] at z hd
        have ea : a = 39 := by simpa using z
        have := hd a (by simp)
        omega
  · cases h
theorem eat_num {d : Nat} {n : Int} (h1 : -(10 ^ 19 : Int) < n) (h2 : n < 10 ^ 19) : Eat (termP (d + 1)) [strI n] := fun r => by
  have hn : (numP (strI n)).isSome = true := by rw [numP_strI h1 h2]; rfl
  show termP (d + 1) (strI n :: r) = some r
  simp only [termP, if_neg (ne_of_num hn (show numP "." = none by decide +kernel)), arity_num hn, leafP, if_neg (quote_num hn), hn, if_true]
  split <;> rfl
theorem numS_cons {n : Int} (h1 : -(10 ^ 19 : Int) < n) (h2 : n < 10 ^ 19) (r : Ws) : numS (strI n :: r) = some (n, r) := by
  simp only [numS, numP_strI h1 h2]
theorem eat_numR {n : Int} (h1 : -(10 ^ 19 : Int) < n) (h2 : n < 10 ^ 19) : Eat numR [strI n] := fun r => by
  show (numS (strI n :: r)).map (·.2) = some r
  rw [numS_cons h1 h2]
  rfl
theorem eat_field {d : Nat} {n : Int} (h1 : 0 ≤ n) (h2 : n < 10 ^ 19) : Eat (termP (d + 1)) [".", strI n] := fun r => by
  show termP (d + 1) (("." : Str) :: strI n :: r) = some r
  simp only [termP, if_pos trivial, fieldP, numS_cons (show -(10 ^ 19 : Int) < n by omega) h2]
  rw [if_neg (by omega)]
theorem eat_name {d : Nat} {w : Str} (h : isNm w = true) (ha : arity w = none) (hd : w ≠ ".") : Eat (termP (d + 1)) [w] := fun r => by
  have hq : (tl w).take 1 ≠ [39] := fun z => by
    unfold isNm at h
    simp only [Bool.and_eq_true, List.all_eq_true] at h
    cases e : tl w with
    | nil => rw [e] at z; cases z
    | cons a q =>
      rw [e] at z
      have ea : a = 39 := by simpa using z
      have := isLet_iff.mp (h.2 a (by rw [e]; simp))
      omega
  show termP (d + 1) (w :: r) = some r
  simp only [termP, if_neg hd, ha, leafP, if_neg hq, h, if_true]
theorem eat_quoted {d : Nat} {w : Str} (hq : (tl w).take 1 = [39]) (ht : (arity (tailW w)).isSome = true) (ha : arity w = none) (hd : w ≠ ".") : Eat (termP (d + 1)) [w] := fun r => by
  show termP (d + 1) (w :: r) = some r
  simp only [termP, if_neg hd, ha, leafP, if_pos hq, ht, if_true]
theorem gw_strI {n : Int} (h1 : -(10 ^ 19 : Int) < n) (h2 : n < 10 ^ 19) : GW (strI n) := gw_num (by rw [numP_strI h1 h2]; rfl)

/-! ### terms -/
theorem times_mono {f g : Ws → Option Ws} (h : ∀ ws r, f ws = some r → g ws = some r) : ∀ (n : Nat) (ws r : Ws), times f n ws = some r → times g n ws = some r
  | 0, _, _, e => e
  | n + 1, ws, r, e => by
    cases q : f ws with
    | none => simp only [times, q] at e; cases e
    | some r1 =>
      simp only [times, q] at e
      simp only [times, h ws r1 q]
      exact times_mono h n r1 r e
theorem termP_mono : ∀ (d : Nat) (ws r : Ws), termP d ws = some r → termP (d + 1) ws = some r
  | 0, _, _, e => by cases e
  | d + 1, [], _, e => by cases e
  | d + 1, w :: ws, r, e => by
    by_cases hw : w = "."
    · simp only [termP, if_pos hw] at e ⊢
      exact e
    · simp only [termP, if_neg hw] at e ⊢
      cases ha : arity w with
      | none => rw [ha] at e; exact e
      | some k =>
        rw [ha] at e
        exact times_mono (termP_mono d) k ws r e
theorem eat_mono {d : Nat} {ws : Ws} (h : Eat (termP d) ws) : Eat (termP (d + 1)) ws := fun r => termP_mono _ _ _ (h r)
theorem eat_mono_le {d e : Nat} {ws : Ws} (h : Eat (termP d) ws) (hl : d ≤ e) : Eat (termP e) ws := by
  induction hl with
  | refl => exact h
  | step _ ih => exact eat_mono ih
theorem eat_op1 {d : Nat} {w : Str} {a : Ws} (hw : w ≠ ".") (ha : arity w = some 1) (h1 : Eat (termP d) a) : Eat (termP (d + 1)) (w :: a) := fun r => by
  show termP (d + 1) (w :: (a ++ r)) = some r
  simp only [termP, if_neg hw, ha, times, h1 r]
theorem eat_op2 {d : Nat} {w : Str} {a b : Ws} (hw : w ≠ ".") (ha : arity w = some 2) (h1 : Eat (termP d) a) (h2 : Eat (termP d) b) : Eat (termP (d + 1)) (w :: (a ++ b)) := fun r => by
  show termP (d + 1) (w :: (a ++ b ++ r)) = some r
  rw [List.append_assoc]
  simp only [termP, if_neg hw, ha, times, h1 (b ++ r), h2 r]
theorem eat_op3 {d : Nat} {w : Str} {a b c : Ws} (hw : w ≠ ".") (ha : arity w = some 3) (h1 : Eat (termP d) a) (h2 : Eat (termP d) b) (h3 : Eat (termP d) c) : Eat (termP (d + 1)) (w :: (a ++ b ++ c)) := fun r => by
  show termP (d + 1) (w :: (a ++ b ++ c ++ r)) = some r
  rw [List.append_assoc, List.append_assoc]
  simp only [termP, if_neg hw, ha, times, h1 (b ++ (c ++ r)), h2 (c ++ r), h3 r]

/-! ### repeated -/
def Acc (f : Ws → Option Ws) (k : Nat) (ws : Ws) : Prop := ∀ m r, times f (k + m) (ws ++ r) = times f m r
theorem acc_nil {f : Ws → Option Ws} : Acc f 0 [] := fun m r => by rw [Nat.zero_add]; rfl
theorem acc_snoc {f : Ws → Option Ws} {k : Nat} {ws x : Ws} (h : Acc f k ws) (hx : Eat f x) : Acc f (k + 1) (ws ++ x) := fun m r => by
  have e : k + 1 + m = k + (m + 1) := by omega
  rw [e, List.append_assoc, h (m + 1) (x ++ r)]
  simp only [times, hx r]
theorem acc_done {f : Ws → Option Ws} {k : Nat} {ws : Ws} (h : Acc f k ws) : Eat (times f k) ws := fun r => by
  have e := h 0 r
  rw [Nat.add_zero] at e
  exact e
theorem eat_then {f g : Ws → Option Ws} {a b : Ws} (h1 : Eat f a) (h2 : Eat g b) : Eat (thenP f g) (a ++ b) := fun r => by
  rw [List.append_assoc]
  simp only [thenP, h1 (b ++ r), h2 r]

/-! ### views -/
theorem eat_all {d : Nat} : Eat (viewP (d + 1)) ["all"] := fun r => by
  show viewP (d + 1) (("all" : Str) :: r) = some r
  simp only [viewP, if_pos trivial]
theorem eat_unlike {d : Nat} {v : Ws} (h : Eat (viewP d) v) : Eat (viewP (d + 1)) ("unlike" :: v) := fun r => by
  show viewP (d + 1) (("unlike" : Str) :: (v ++ r)) = some r
  simp only [viewP, if_neg (show ("unlike" : Str) ≠ "all" by decide +kernel), if_neg (show ("unlike" : Str) ≠ "keep" by decide +kernel), if_neg (show ("unlike" : Str) ≠ "rows" by decide +kernel), if_pos trivial]
  exact h r
theorem eat_keep {d : Nat} {t v : Ws} (ht : Eat (termP 14) t) (h : Eat (viewP d) v) : Eat (viewP (d + 1)) ("keep" :: (t ++ v)) := fun r => by
  show viewP (d + 1) (("keep" : Str) :: (t ++ v ++ r)) = some r
  simp only [viewP, if_neg (show ("keep" : Str) ≠ "all" by decide +kernel), if_pos trivial]
  exact eat_then ht h r
theorem eat_rows {d : Nat} {t v : Ws} (ht : Eat listsP t) (h : Eat (viewP d) v) : Eat (viewP (d + 1)) ("rows" :: (t ++ v)) := fun r => by
  show viewP (d + 1) (("rows" : Str) :: (t ++ v ++ r)) = some r
  simp only [viewP, if_neg (show ("rows" : Str) ≠ "all" by decide +kernel), if_neg (show ("rows" : Str) ≠ "keep" by decide +kernel), if_pos trivial]
  exact eat_then ht h r
theorem eat_cap {d : Nat} {n : Int} {t v : Ws} (h1 : -(10 ^ 19 : Int) < n) (h2 : n < 10 ^ 19) (ht : Eat (termP 14) t) (h : Eat (viewP d) v) : Eat (viewP (d + 1)) ("cap" :: strI n :: (t ++ v)) := fun r => by
  show viewP (d + 1) (("cap" : Str) :: ([strI n] ++ (t ++ v) ++ r)) = some r
  simp only [viewP, if_neg (show ("cap" : Str) ≠ "all" by decide +kernel), if_neg (show ("cap" : Str) ≠ "keep" by decide +kernel), if_neg (show ("cap" : Str) ≠ "rows" by decide +kernel), if_neg (show ("cap" : Str) ≠ "unlike" by decide +kernel), if_pos trivial]
  exact eat_then (eat_numR h1 h2) (eat_then ht h) r
theorem eat_both {d : Nat} {u v : Ws} (hu : Eat (viewP d) u) (h : Eat (viewP d) v) : Eat (viewP (d + 1)) ("both" :: (u ++ v)) := fun r => by
  show viewP (d + 1) (("both" : Str) :: (u ++ v ++ r)) = some r
  simp only [viewP, if_neg (show ("both" : Str) ≠ "all" by decide +kernel), if_neg (show ("both" : Str) ≠ "keep" by decide +kernel), if_neg (show ("both" : Str) ≠ "rows" by decide +kernel), if_neg (show ("both" : Str) ≠ "unlike" by decide +kernel), if_neg (show ("both" : Str) ≠ "cap" by decide +kernel), if_pos trivial]
  exact eat_then hu h r
theorem eat_match {d : Nat} {p t v : Ws} (hp : Eat pairsP p) (ht : Eat (termP 14) t) (h : Eat (viewP d) v) : Eat (viewP (d + 1)) ("match" :: (p ++ (t ++ v))) := fun r => by
  show viewP (d + 1) (("match" : Str) :: (p ++ (t ++ v) ++ r)) = some r
  simp only [viewP, if_neg (show ("match" : Str) ≠ "all" by decide +kernel), if_neg (show ("match" : Str) ≠ "keep" by decide +kernel), if_neg (show ("match" : Str) ≠ "rows" by decide +kernel), if_neg (show ("match" : Str) ≠ "unlike" by decide +kernel), if_neg (show ("match" : Str) ≠ "cap" by decide +kernel), if_neg (show ("match" : Str) ≠ "both" by decide +kernel), if_pos trivial]
  exact eat_then hp (eat_then ht h) r
theorem ite_mono {c : Prop} [Decidable c] {a a' b b' : Option Ws} {r : Ws} (h1 : a = some r → a' = some r) (h2 : b = some r → b' = some r) : (if c then a else b) = some r → (if c then a' else b') = some r := by
  split
  · exact h1
  · exact h2
theorem viewP_mono : ∀ (d : Nat) (ws r : Ws), viewP d ws = some r → viewP (d + 1) ws = some r
  | 0, _, _, e => by cases e
  | d + 1, [], _, e => by cases e
  | d + 1, w :: ws, r, e => by
    have tm : ∀ (f : Ws → Option Ws) (ws r : Ws), thenP f (viewP d) ws = some r → thenP f (viewP (d + 1)) ws = some r := fun f ws r e => by
      cases q : f ws with
      | none => simp only [thenP, q] at e; cases e
      | some r1 =>
        simp only [thenP, q] at e ⊢
        exact viewP_mono d _ _ e
    have tm2 : ∀ (f g : Ws → Option Ws) (ws r : Ws), thenP f (thenP g (viewP d)) ws = some r → thenP f (thenP g (viewP (d + 1))) ws = some r := fun f g ws r e => by
      cases q : f ws with
      | none => simp only [thenP, q] at e; cases e
      | some r1 =>
        have e' : thenP g (viewP d) r1 = some r := by simpa only [thenP, q] using e
        have := tm g _ _ e'
        simpa only [thenP, q] using this
    unfold viewP at e ⊢
    refine ite_mono id (ite_mono (tm _ _ _) (ite_mono (tm _ _ _) (ite_mono (viewP_mono d _ _) (ite_mono (tm2 _ _ _ _) (ite_mono (fun e => ?_) (ite_mono (tm2 _ _ _ _) id)))))) e
    cases q : viewP d ws with
    | none => simp only [thenP, q] at e; cases e
    | some r1 =>
      simp only [thenP, q] at e
      simp only [thenP, viewP_mono d _ _ q]
      exact viewP_mono d _ _ e
theorem eatV_mono_le {d e : Nat} {ws : Ws} (h : Eat (viewP d) ws) (hl : d ≤ e) : Eat (viewP e) ws := by
  induction hl with
  | refl => exact h
  | step _ ih => exact fun r => viewP_mono _ _ _ (ih r)
theorem bindS_some {n : Int} {r : Ws} {f : Int → Ws → Option Ws} : bindS (some (n, r)) f = f n r := rfl
theorem bindS_none {f : Int → Ws → Option Ws} : bindS none f = none := rfl
theorem within_ok {lo hi n : Int} (h1 : lo ≤ n) (h2 : n ≤ hi) (hl : -(10 ^ 19 : Int) < n) (hh : n < 10 ^ 19) (r : Ws) : withinS lo hi (strI n :: r) = some (n, r) := by
  simp only [withinS, numS_cons hl hh]
  rw [if_neg (by omega)]
theorem eat_lists {many wide : Nat} {ws : Ws} (m1 : 1 ≤ many) (m9 : many ≤ 9) (w1 : 1 ≤ wide) (w9 : wide ≤ 9) (h : Acc (times (termP 14) wide) many ws) : Eat listsP (strI many :: strI wide :: ws) := fun r => by
  show listsP (strI many :: strI wide :: (ws ++ r)) = some r
  unfold listsP
  rw [within_ok (by omega) (by omega) (by omega) (by omega)]
  rw [bindS_some, within_ok (by omega) (by omega) (by omega) (by omega)]
  exact acc_done h r
theorem eat_pairs {many wide : Nat} {ws : Ws} (m9 : many ≤ 9) (w1 : min many 1 ≤ wide) (w9 : wide ≤ 9 * min many 1) (h : Acc (pairP wide) many ws) : Eat pairsP (strI many :: strI wide :: ws) := fun r => by
  show pairsP (strI many :: strI wide :: (ws ++ r)) = some r
  unfold pairsP
  rw [within_ok (by omega) (by omega) (by omega) (by omega)]
  rw [bindS_some, within_ok (by omega) (by omega) (by omega) (by omega)]
  exact acc_done h r
theorem eat_pair {wide : Nat} {n : Int} {ws : Ws} (h1 : -(10 ^ 19 : Int) < n) (h2 : n < 10 ^ 19) (h : Acc numR wide ws) : Eat (pairP wide) (strI n :: ws) := fun r => by
  show pairP wide (strI n :: (ws ++ r)) = some r
  have e : numR (strI n :: (ws ++ r)) = some (ws ++ r) := eat_numR h1 h2 (ws ++ r)
  simp only [pairP, thenP, e]
  exact acc_done h r

/-! ### measures of views, rows -/
theorem eat_count : Eat measP ["count"] := fun r => by
  show measP (("count" : Str) :: r) = some r
  simp only [measP, if_pos trivial]
theorem eat_kinds {t : Ws} (h : Eat (termP 14) t) : Eat measP ("kinds" :: t) := fun r => by
  show measP (("kinds" : Str) :: (t ++ r)) = some r
  simp only [measP, if_neg (show ("kinds" : Str) ≠ "count" by decide +kernel), if_pos trivial]
  exact h r
theorem eat_sum {lo hi : Int} {t : Ws} (h1 : -(10 ^ 19 : Int) < lo) (h2 : lo < 10 ^ 19) (h3 : -(10 ^ 19 : Int) < hi) (h4 : hi < 10 ^ 19) (h : Eat (termP 14) t) : Eat measP ("sum" :: strI lo :: strI hi :: t) := fun r => by
  show measP (("sum" : Str) :: strI lo :: strI hi :: (t ++ r)) = some r
  have e1 : numR (strI lo :: strI hi :: (t ++ r)) = some (strI hi :: (t ++ r)) := eat_numR h1 h2 (strI hi :: (t ++ r))
  have e2 : numR (strI hi :: (t ++ r)) = some (t ++ r) := eat_numR h3 h4 (t ++ r)
  simp only [measP, if_neg (show ("sum" : Str) ≠ "count" by decide +kernel), if_neg (show ("sum" : Str) ≠ "kinds" by decide +kernel), if_pos trivial, thenP, times, e1, e2]
  exact h r
theorem eat_of : Eat ofP ["of"] := fun r => by
  show ofP (("of" : Str) :: r) = some r
  simp only [ofP, if_pos trivial]
theorem eat_asked {m v : Ws} (hm : Eat measP m) (hv : Eat (viewP 8) v) : Eat askedP (m ++ (("of" : Str) :: v)) := fun r => eat_then hm (eat_then eat_of hv) r
theorem rowP_join {ws : Ws} {k : RK} (g : GWs ws) (h : rowW ws = some k) : rowP (Txt.join sp1 ws) = some k := by
  unfold rowP
  rw [words_join (fun e => by rw [e] at h; cases h) fun w hw => (g w hw).1]
  exact h
theorem join_free {S ws : Ws} {y : Str} {c : Nat} (hy : c ∉ tl y) (h : ∀ w ∈ ws, c ∉ tl w) : c ∉ tl (Txt.join y ws) := by
  rw [join_eq, tl_join]
  induction ws with
  | nil => simp [joinL]
  | cons a l ih =>
    cases l with
    | nil => exact h a (by simp)
    | cons b l =>
      show c ∉ tl a ++ (tl y ++ joinL (tl y) ((b :: l).map tl))
      simp only [List.mem_append, not_or]
      exact ⟨h a (by simp), hy, ih fun w hw => h w (List.mem_cons_of_mem _ hw)⟩
theorem join_no_nl {ws : Ws} (g : GWs ws) : 10 ∉ tl (Txt.join sp1 ws) := join_free (S := ws) (by rw [tl_sp]; decide) fun w hw => (g w hw).2
end BD
/-! L1: a comprehension whose element is a call that may raise; the error leaves the def. -/
namespace BD
open PySem PySem.Spec L2
open PyProof.Rows hiding St

/-- the block's context with a wish of its own about what is raised -/
abbrev blkX (X : Cx) (s : Shared) (H : Hp) (scope : Scope) (ce : Env) (fp : List Addr) (xe : Value → Shared → Prop) : Cx := (X.blk s H scope ce fp).wish xe

section
variable {X : Cx} {pins : List (Addr × Obj)} {σ : St}
/-- what flies out of a call in the block: noted, the block's names let go, on its way in the def's own frame -/
theorem out_of_block {pinsB : List (Addr × Obj)} {σB : St} {H3 H1 : Hp} {s3 s1 s2 : Shared} {E : XK} {W : WX} {scope : Scope} {ce : Env} {fp : List Addr} {xb : Value → Shared → Prop} {u : Value}
    (I3 : Inv X pins σ H3 s3) (hcf : ce.frame = X.env.frame) (hcL : ce.locals = s3.heap.objs.size) (hs : X.stack = X.env :: X.outer) (hf : X.env.frame = some X.env.locals)
    (ffp : ∀ b ∈ fp, FpOk X pins H3 b) (tk : Takes X W) (hW : ∀ cls d H, E cls d H → W cls d σ H)
    (I1 : Inv (blkX X s3 H3 scope ce fp xb) pinsB σB H1 s1) (c : L2.CX X.prog X.w X.stack H1 s1 E u s2) :
    notedBy (model X.prog X.w) X.A ce (CompFails (model X.prog X.w) X.A X.xe ce) u s2 := by
  obtain ⟨a, B, HE, cls, d, rfl, fl, okB, ub, na, eos, bare, hE⟩ := c
  have hfr : X.A.frames = some (X.env :: X.outer) := by rw [I3.ok.frames, hs]
  -- the block's names: not tracked, no frame, in the ground
  have c1 : H1 ce.locals = none := I1.free
  obtain ⟨mC, ⟨oC, esC, epC, hoC, hdC, hrC⟩, _⟩ := I1.loc
  have hoC : s1.heap.get? ce.locals = some oC := hoC
  have cE : HE ce.locals = none := ub.free _ _ hoC c1
  have cF : ce.locals ∉ frs X.stack := fun hm => by
    rw [hcL] at hm
    rcases List.mem_cons.mp (I3.stkSub _ hm) with z | z
    · exact absurd I3.lt (by rw [← z]; exact Nat.lt_irrefl _)
    · exact I3.nofs (Nat.le_refl _) z
  have cB : B.get? ce.locals = some oC := ub.keep _ _ hoC c1 cF
  have lt3 : ∀ {b : Addr} {o : Obj}, s3.heap.get? b = some o → b ≠ ce.locals := fun e z => by
    have := Heap.lt_size e
    rw [z, hcL] at this
    exact Nat.lt_irrefl _ this
  show wpAny (model X.prog X.w) X.A (noteFrame (.ref a) ce) _ _ s2
  rw [noteFrame_env _ hcf]
  have fl' : HandSPX.FlyingZ B (X.env :: X.outer) a (Zc cls d) s2.heap := by rw [← hs]; exact fl
  refine HandSPX.looks_onZ Zc.steady hfr hf fl' fun h1 hh up1 => ?_
  obtain ⟨st1, bn, ff1, oe, vs, Tr, oT, ts, he, hz, hd, hv, hnT, hTe, hT, hdT, hfl⟩ := hh
  refine ⟨mC, ⟨oC, esC, epC, st1 _ _ cB, hdC, hrC⟩, fun h2 m2 hn2 sb => ?_⟩
  have na2 : a ≠ ce.locals := fun z => by rw [z, cB] at bn; cases bn
  have nT2 : Tr ≠ ce.locals := fun z => by rw [z, cB] at hnT; cases hnT
  have he2 : h2.get? a = some oe := (sb.2 a na2).trans he
  have hT2 : h2.get? Tr = some oT := (sb.2 Tr nT2).trans hT
  -- the ground without the block's names
  obtain ⟨G, g1, g2⟩ := restrict B fun b => decide (b ≠ ce.locals)
  have gB : ∀ b o, G.get? b = some o → B.get? b = some o ∧ b ≠ ce.locals := fun b o e => by
    by_cases hb : b = ce.locals
    · rw [g2 b (decide_eq_false fun z => z hb)] at e; cases e
    · rw [g1 b (decide_eq_true hb)] at e; exact ⟨e, hb⟩
  have Bg : ∀ b o, B.get? b = some o → b ≠ ce.locals → G.get? b = some o := fun b o e hb => (g1 b (decide_eq_true hb)).trans e
  have gn : ∀ b, B.get? b = none → G.get? b = none := fun b e => by
    cases q : G.get? b with
    | none => rfl
    | some o => rw [(gB b o q).1] at e; cases e
  have st2 : G.StaysIn h2 := fun b o e => (sb.2 b (gB b o e).2).trans (st1 b o (gB b o e).1)
  have ff2 : h2.FunFrames G (X.env :: X.outer) := funFrames_none (Heap.FunFrames.sameBut sb hn2 ff1) fun L hL => gn L (ff1.mem hL).1
  unfold PySem.passOn
  refine wpAny_bind (wpAny_field he2 hd hv ?_)
  rw [if_neg (show ¬ ((Value.ref Tr == Value.none) = true) from by simp)]
  rw [hcf, hf]
  refine wpAny_bind (HandSPX.setFlight_anyZ st2 ff2 ⟨oe, vs, Tr, oT, ts, he2, hz, hd, hv, gn _ hnT, hTe, hT2, hdT, hfl⟩ fun h3 st3 ff3 T3 up3 => ?_)
  refine wpAny_throw (tk _ _ ?_)
  -- the state without the error
  obtain ⟨J, j1, j2⟩ := restrict h3 fun b => (G.get? b).isSome || decide (b ∈ frs X.stack)
  have GJ : ∀ b o, G.get? b = some o → J.get? b = some o := fun b o e => (j1 b (by simp [e])).trans (st3 b o e)
  have FJ : ∀ b, b ∈ frs X.stack → J.get? b = h3.get? b := fun b hb => j1 b (by simp [hb])
  have oJ : ∀ b o, J.get? b = some o → h3.get? b = some o ∧ ((G.get? b).isSome = true ∨ b ∈ frs X.stack) := fun b o e => by
    cases q : ((G.get? b).isSome || decide (b ∈ frs X.stack)) with
    | false => rw [j2 b q] at e; cases e
    | true =>
      rw [j1 b q] at e
      exact ⟨e, by simpa [Bool.or_eq_true] using q⟩
  have bs := I1.base
  have frame : ∀ b o, s3.heap.get? b = some o → b ∈ frs X.stack → b ∉ fp → ∃ sl, J.get? b = some { o with slots := sl } := fun b o e hb hx => by
    obtain ⟨_, o', e', hnf⟩ := I3.stack.mem hb
    rw [e] at e'
    cases e'
    obtain ⟨sl1, q1⟩ := bs.slot b o e (I3.stkFree b hb) hb hx
    obtain ⟨sl2, q2⟩ := ub.slot b _ q1 hb
    obtain ⟨sl3, q3⟩ := up1 b _ q2 hnf
    obtain ⟨sl4, q4⟩ := up3 b _ ((sb.2 b (lt3 e)).trans q3) hnf
    exact ⟨sl4, by rw [FJ b hb]; exact q4⟩
  have nofp : ∀ b, b ∈ frs X.stack → b ∉ fp := fun b hb hx => by
    obtain ⟨_, n1, n2, _⟩ := ffp b hx
    rcases List.mem_cons.mp (I3.stkSub b hb) with z | z
    · exact n1 z
    · exact n2 z
  have okJ : HOk X.prog X.w HE J := fun b o q => by
    have trackedNe : ∀ c, HE c ≠ none → c ≠ ce.locals := fun c hc z => hc (by rw [z]; exact cE)
    refine (okB b o q).stay (fun c v hc r => GJ c v (Bg c v r (trackedNe c ?_))) (fun _ r => r) fun _ _ r => r
    rcases hc with rfl | hc
    · rw [q]; simp
    · rw [hc]; simp
  have K : Inv X pins σ HE { s1 with heap := J, gens := s2.gens, drawn := s2.drawn, toks := s2.toks } := by
    refine I3.call' (ch := fp) (show s1.os = s3.os from I1.os) ⟨fun b o e n hb hx => ?_, fun b o e n hb hx => frame b o e hb hx, fun b o e n hx => ?_, fun b o e hx => ?_, fun b xs e => ub.tups b xs (bs.tups b xs e), fun b o xs e => ub.frzs b o xs (bs.frzs b o xs e), fun b ps e => ?_⟩ okJ bare
      fun b hb => ⟨(ffp b hb).2.2.2.1, (ffp b hb).2.1, (ffp b hb).2.2.2.2.1, (ffp b hb).2.2.2.2.2⟩
    · exact GJ b o (Bg b o (ub.keep b o (bs.keep b o e n hb hx) (bs.free b o e n hx) hb) (lt3 e))
    · obtain ⟨o1, e1⟩ := bs.there b o e hx
      exact ub.free b o1 e1 (bs.free b o e n hx)
    · by_cases hb : b ∈ frs X.stack
      · obtain ⟨sl, q⟩ := frame b o e hb hx
        exact ⟨_, q⟩
      · obtain ⟨o1, e1⟩ := bs.there b o e hx
        obtain ⟨o2, e2⟩ := ub.there b o1 e1 hb
        exact ⟨o2, GJ b o2 (Bg b o2 e2 (lt3 e))⟩
    · obtain ⟨p1, e1⟩ := bs.tbls b ps e
      obtain ⟨p2, e2⟩ := ub.tbls b _ e1
      exact ⟨p1 ++ p2, by rw [e2, Array.append_assoc]⟩
  refine ⟨a, G, _, pins, σ, HE, cls, d, rfl, K, fun b o e hb => ?_, Heap.UpToSlots.of_keeps fun b o e => (oJ b o e).1, .inr (.inr ?_), na, eos, bare, hW _ _ _ hE⟩
  · obtain ⟨e3, h⟩ := oJ b o e
    rcases h with h | h
    · obtain ⟨o', q⟩ := Option.isSome_iff_exists.mp h
      have z := st3 b o' q
      rw [e3] at z
      cases z
      exact q
    · exact absurd h hb
  · rw [hs]
    exact ⟨st3, gn _ bn, ff3, T3⟩
end
end BD

namespace BD
open PySem PySem.Spec L2
open PyProof.Rows hiding St
section
variable {X : Cx}
/-- [elt for target in iter], the element a call that may raise what leaves the def: as a value -/
theorem pe_lcX {elt tg iter : Expr} {scope : Scope} {own : List (Str × Nat)} {pos : Pos} {wi : TI} {g : TG} {te : TE} {E : XK} (hc : X.calm = true) (hN : X.N.Nodup) (hs : X.stack = X.env :: X.outer) (hf : X.env.frame = some X.env.locals)
    (tk : Takes X (fun cls d _ H => E cls d H)) (hi : PI X tg iter wi) (ok : BlkOk X.N X.env.scope scope own)
    (hg : ∀ (s : Shared) (H : Hp) (C : Addr) (cl : List (Str × Addr)) (fp : List Addr) (xe : Value → Shared → Prop), PG (blkX X s H scope (compEnvC scope cl C X.env) fp xe) tg g)
    (he : ∀ (s : Shared) (H : Hp) (C : Addr) (cl : List (Str × Addr)) (fp : List Addr) (xe : Value → Shared → Prop), Passes (L2.CX X.prog X.w) (blkX X s H scope (compEnvC scope cl C X.env) fp xe) E → PE (blkX X s H scope (compEnvC scope cl C X.env) fp xe) elt te)
    (hfs : ∀ x, foldedSetIterable iter X.env x = pure x := by intro _; rfl) :
    PE X (.ListComp elt [⟨tg, iter, [], 0⟩] scope pos) (tLc wi g tYes te (own.map (·.2))) := by
  refine ⟨fun pins s σ H Q I h => ?_⟩
  rw [eval_ListComp]
  have clo : ∀ y ∈ scope.names, y.2 = .free → ∃ c, X.env.cells.lookup y.1 = some c := fun y hy e => (ok.free y hy e).elim (fun k => I.ok.has _ (.inl k)) fun k => I.ok.has _ (.inr k)
  refine comprehension_at (use := none) rfl hfs (closure_ok clo) ok.kind (fun y hy e => by rw [ok.uniq y hy, e]) ?_
  refine thn (hi.run pins s σ H _ I h) fun xv s1 hx => thn hx fun itv s2 hit => ?_
  obtain ⟨it, fp, tn, J, H2, rfl, I2, T, tn2, ffp2, q⟩ := hit
  refine wpAny_newObj_type (newEnv_comp ?_) (Nat.zero_le _)
  obtain ⟨W, ⟨m0, w0⟩, turn⟩ := q s2.heap.objs.size (I2.hok.fresh (Nat.le_refl _))
  -- the new list at D, in the state sD
  generalize eD : s2.heap.objs.size = D at *
  generalize eH : upd H2 D (.lst []) = H3 at *
  generalize es : ({ s2 with heap := s2.heap.push { cls := .type "list", data := .seq ([] : List Value).toArray } } : Shared) = sD
  have hD : sD.heap = s2.heap.push { cls := .type "list", data := .seq ([] : List Value).toArray } := by rw [← es]
  have szD : sD.heap.objs.size = s2.heap.objs.size + 1 := by rw [hD, Heap.size_push]
  have ID : Inv X pins σ H3 sD := by
    rw [← es, ← eH]
    refine I2.laid (t' := s2.toks) (fun b o e => Heap.get?_push_of_some _ e) (Nat.le_of_eq eD) ⟨Nat.zero_le _, [], 0, .nil, ?_⟩
    rw [← eD]
    exact Heap.get?_push_size _ rfl
  have old : ∀ b ∈ fp, b < s2.heap.objs.size := fun b hb => let ⟨o, e, _⟩ := T.obj _ _ tn2 b hb; Heap.lt_size e
  have ffp : ∀ b ∈ fp, FpOk X pins H3 b ∧ b < sD.heap.objs.size := fun b hb => by
    have hlt := old b hb
    refine ⟨⟨?_, (ffp2 b hb).2⟩, by rw [szD]; exact Nat.lt_succ_of_lt hlt⟩
    rw [← eH, upd_ne (fun z => by rw [z, eD] at hlt; exact Nat.lt_irrefl _ hlt)]
    exact (ffp2 b hb).1
  have tnD : tn 0 sD.heap := T.keep _ _ _ tn2 fun b _ o e => by rw [hD]; exact Heap.get?_push_of_some _ e
  have IB := block_start ID ok hN ffp
  generalize eC : compEnvC scope (cellsFrom (sD.heap.objs.size + 1) scope.names (cloFrom X.env.cells scope.names [])) sD.heap.objs.size X.env = ce at *
  have cL : ce.locals = sD.heap.objs.size := by rw [← eC]; rfl
  have cF : ce.frame = X.env.frame := by rw [← eC]; rfl
  let xb : Value → Shared → Prop := notedBy (model X.prog X.w) X.A ce (CompFails (model X.prog X.w) X.A X.xe ce)
  have pg : PG (blkX X sD H3 scope ce fp xb) tg g := by rw [← eC]; exact hg _ _ _ _ _ _
  have pe : PE (blkX X sD H3 scope ce fp xb) elt te := by
    have ps : Passes (L2.CX X.prog X.w) (blkX X sD H3 scope ce fp xb) E := fun pinsB σB H1 s1 u s3 I1 c => out_of_block ID cF cL hs hf (fun b hb => (ffp b hb).1) tk (fun _ _ _ h => h) I1 c
    revert ps
    rw [← eC]
    exact he _ _ _ _ _ _
  have nfp : ∀ b ∈ fp, H3 b = none := fun b hb => (ffp b hb).1.1
  have stat : ∀ {σ' : St} {H' : Hp} {s' : Shared}, Inv (blkX X sD H3 scope ce fp xb) [] σ' H' s' → (∀ b ∈ fp, H' b = none) → ∀ b ∈ fp, FpOk (blkX X sD H3 scope ce fp xb) [] H' b := fun {σ' H' s'} I' hn b hb =>
    ⟨hn b hb, (I'.ok.exf b hb).1, I'.ok.exfs b hb, .inl hb, fun x c e => (I'.ok.exf b hb).2 x c e, fun p hp => absurd (show p ∈ ([] : List (Addr × Obj)) ++ [] from hp) (by simp)⟩
  generalize es4 : ({ sD with heap := pushCells (sD.heap.push { cls := .type "dict", data := .dict #[] }) scope.names } : Shared) = s4 at IB
  have tn4 : tn 0 s4.heap := T.keep _ _ _ tnD fun b _ o e => by rw [← es4]; exact pushCells_keeps _ _ _ _ (Heap.get?_push_of_some _ e)
  have loop : codeAny (model X.prog X.w) X.A (.compLoop (.ListComp elt [⟨tg, iter, [], 0⟩] scope pos) 0 (.ref it) (.ref D) ce) (compEnds (model X.prog X.w) X.A X.xe none (EP X pins σ Q) (.ref D) ce) s4 := by
    refine compLoop_any (fun n s' => ∃ i H', Inv (blkX X sD H3 scope ce fp xb) [] (wipe σ (own.map (·.2))) H' s' ∧ tn i s'.heap ∧ (∀ b ∈ fp, H' b = none) ∧ W i n H') ?_ m0 ⟨0, H3, IB.wish xb, tn4, nfp, w0⟩
    rintro n s5 ⟨i, H5, I5, tn5, n5, w5⟩
    rcases turn i n H5 w5 with ⟨stop, qq⟩ | ⟨go, Nx, hNx, step⟩
    · refine thnF (T.done (blkX X sD H3 scope ce fp xb) rfl rfl rfl hc i [] s5 _ H5 (fun _ _ => False) I5 (stat I5 n5) tn5 stop) fun r s6 ⟨hr, I6⟩ => ?_
      subst hr
      have I7 : Inv X pins σ H5 s6 := ID.call' (ch := fp) I6.os I6.base I6.hok I6.bare fun b hb => let f := (ffp b hb).1; ⟨f.2.2.2.1, f.2.1, f.2.2.2.2.1, f.2.2.2.2.2⟩
      have nC : H5 ce.locals = none := I6.free
      obtain ⟨m, hn, _⟩ := I6.loc
      refine ⟨m, hn, fun h' sb => ?_⟩
      obtain ⟨f0, f1, f2, f3, f4, f5⟩ := ID.fpOk (b := ce.locals) (by rw [cL]; exact Nat.le_refl _) nC
      exact ⟨.ref D, H5, I7.turned (t' := s6.toks) (fun b o hb e => (sb.2 b hb).trans e) f0 f1 f3 f4 f5, rfl, qq⟩
    · refine thnF (T.item (blkX X sD H3 scope ce fp xb) rfl rfl rfl hc i [] s5 _ H5 (fun _ _ => False) I5 (stat I5 n5) tn5 go) fun r s6 ⟨u, hr, h6⟩ => ?_
      subst hr
      refine thnF h6 fun _ s7 ⟨x, H7, I7, r7, y7, tn7, n7⟩ => ?_
      have P7 := I7.pinned (stat I7 n7) (T.obj _ _ tn7)
      refine thn (pg.run _ s7 _ H7 x u _ P7 r7 (step x H7 y7)) fun _ s8 ⟨σ8, H8, I8, hw8, q8⟩ => ?_
      refine wpAny_tests_nil ?_
      rw [if_pos rfl]
      simp only [tYes, if_true] at q8
      refine thn (pe.run _ s8 σ8 H8 _ I8 q8) fun z s9 ⟨yv, H9, I9, r9, acc, hD9, hz9, nx⟩ => ?_
      refine app_ok (X := blkX X sD H3 scope ce fp xb) I9 hD9 hz9 r9 fun s10 I10 => ?_
      obtain ⟨m', hm, w'⟩ := hNx _ nx
      have pin : ∀ b ∈ fp, ∀ o, s7.heap.get? b = some o → s10.heap.get? b = some o ∧ (upd H9 D (.lst (acc ++ [yv]))) b = none := fun b hb o e =>
        let z := I10.pin (b, o) (List.mem_append_right _ (List.mem_append_right _ (mem_pinsAt hb e)))
        ⟨z.1, z.2.1⟩
      have hl : (wipe σ (own.map (·.2))).length = σ8.length := by rw [← hw8, wipe_length]
      refine ⟨m', hm, i + 1, _, (I10.unpinned (pins := [])).weak hl (fun j v e => ?_), T.keep _ _ _ tn7 fun b hb o e => (pin b hb o e).1, fun b hb => ?_, w'⟩
      · rw [← hw8] at e
        exact (wipe_some e).1
      · obtain ⟨o, e, _⟩ := T.obj _ _ tn7 b hb
        exact (pin b hb o e).2
  have fin := codeAny_compStart_list loop (T.self X.A 0 _ _ _ tn4 loop)
  rw [← eC] at fin
  exact fin
end
end BD
/-! L3: Base.__init__(self, ..) of an own exception class; isinstance of a caught own error that has a dict. -/
namespace BD
open PySem PySem.Spec L2
open PyProof.Rows hiding St

section
variable {X : Cx} {o e : Expr} {es : List Expr} {ta : TA} {p1 p2 pos : Pos}
/-- Base.__init__(self, ..): Base an own class whose __init__ is ValueError's -/
theorem pe_blinit {pl : Sem Bool} {x : Str} {B : Addr} {mc : Value} (hg : Gl X x) (hm : X.mg x = some (.ref B)) (R : ClX.CRead X.K B mc) (vV : PySem.W.findCls X.K (.ref B) mc "__init__" = some (.val (.builtin "ValueError.__init__"))) (ha : PA X (e :: es) ta)
    (hc : eval (.Call (.Attribute (.Name x p1) "__init__" p2) (e :: es) [] pos) X.env = (do
      let ov ← eval (.Name x p1) X.env
      standAt p2.atName
      let (f, first) ← holding [ov] (getMethod ov "__init__" pl)
      callWith pos f first (backTo pos (starEach (e :: es) X.env)) (backToKw pos (keywordEach [] X.env))) := by rfl)
    (hdb : (x == ("__debug__" : Str)) = false := by decide) (he : starEach (e :: es) X.env = (false, eval e X.env) :: starEach es X.env := by rfl) (hpl : (backTo pos (starEach es X.env)).any (·.1) = false := by rfl) :
    PE X (.Call (.Attribute (.Name x p1) "__init__" p2) (e :: es) [] pos) (tVeI X.K ta) := by
  refine ⟨fun pins s σ H Q I h => ?_⟩
  refine PySem.W.methodCall_KW (ld_glob I hg hm ?_ hdb) hc
  refine PySem.W.method_cls I.kIn R.ga (PySem.W.cls_value I.kIn R.rd vV (by decide +kernel) ?_)
  refine PyProof.Rows.callWith_method1 (thn (ha.run pos pins _ σ H _ (I.tok _) h) fun us s1 hh => ?_) he hpl
  obtain ⟨vs, H1, I1, r1, a, C, ws, ev, hl, T, ea, q⟩ := hh
  subst ev
  cases r1 with
  | @cons _ u0 _ ur ra rw' =>
    obtain rfl : u0 = Value.ref a := ra
    have hlen : ur.length ≤ sizeLine := by
      rw [← Paired.length rw', sizeLine_eq]
      omega
    exact oinit_ok T I1 ea hlen fun s' J => ⟨.non, H1, J, rfl, q⟩
end

/-- isinstance(e, c), e the error of class D that the suite holds, its dict at dd -/
def rIsD (K : PySem.W.Frag) (D a dd : Addr) : List V → Hp → VK → Prop := fun xs H Q => ∃ (c : V) (cv : Value) (b : Bool) (fs : List (Str × V)), xs = [.ref a, c] ∧ H dd = some (.xd fs) ∧ (∀ u, RelV c u → u = cv) ∧ PySem.W.kitOne K (.ref D) cv = some b ∧ Q (.bl b) H
theorem call_isD {X : Cx} {a D dd : Addr} {oe : Obj} {pn : List (Addr × Obj)} (C : ExcC X.K D) (hz : Zc (.ref D) (some dd) oe) (hf : ∃ vs, oe.data = .fields vs) : CallR (X.suite a ((a, oe) :: pn)) (.builtin "isinstance") (rIsD X.K D a dd) := by
  intro pins s σ H xs us Q I r h
  obtain ⟨c, cv, b, fs, rfl, hdd, hcv, e, q⟩ := h
  cases r with
  | cons rx rr =>
    cases rr with
    | cons rt rr =>
      cases rr
      cases rx
      have ec := hcv _ rt
      subst ec
      obtain ⟨hget, _⟩ := I.pin (a, oe) (List.mem_append.mpr (.inl List.mem_cons_self))
      obtain ⟨vs, hv⟩ := hf
      have hx : ObjOk X.prog X.w H s.heap dd (.xd fs) := I.hok dd _ hdd
      obtain ⟨od, hod⟩ : ∃ od, s.heap.get? dd = some od := by
        obtain ⟨_, ⟨o, _, _, e', _⟩, _⟩ := hx
        exact ⟨o, e'⟩
      have J : PySem.W.InstAt s.heap a oe D (some od) := ⟨hget, hz.1, by unfold PySem.W.notCls; rw [hv] <;> rfl, by rw [hz.2]; exact hod⟩
      have hcl : (PySem.W.clsIn X.K D).isSome = true := by
        obtain ⟨cd, hc, _⟩ := PySem.W.any_some C.hd
        rw [hc]
        rfl
      exact PySem.W.kia_one (PySem.W.kitx_exc hcl C.hg C.hk C.hs C.ha C.hn C.ht C.hm) I.kIn J e (fun z => nomatch z) fun tk => ⟨.bl b, H, I.kept (t' := tk) fun _ _ z => z, rfl, q⟩
end BD
/-! C0: the text by places; what the top has written; short words. -/
namespace BD
open PySem PySem.Spec L2 TL
open PyProof.Rows hiding St

def top (i : Nat) : Stmt := PySem.Challenge.pw_blurdesk_k48_whole_texts.main.body.getD i (.Pass ⟨0, 0, 0, 0⟩)

structure Df (K : PySem.W.Frag) (mg : Str → Option Value) (x : Str) (st : Stmt) (ps : List Str) where
  f : Addr
  fd : FuncData
  F : Fun K x x st f fd
  g : mg x = some (.ref f)
  b : Binds K fd ps []
structure Mf (K : PySem.W.Frag) (C : Addr) (m qual : Str) (st : Stmt) (ps : List Str) where
  f : Addr
  fd : FuncData
  F : Fun K m qual st f fd
  m : Meth K C m f
  b : Binds K fd ps []
structure Cf (K : PySem.W.Frag) (mg : Str → Option Value) (C : Addr) (x qual : Str) (st : Stmt) (ps : List Str) where
  f : Addr
  fd : FuncData
  F : Fun K "__init__" qual st f fd
  mkk : Mk K C f
  g : mg x = some (.ref C)
  b : Binds K fd ps []
def Cst (mg : Str → Option Value) (x : Str) (v : V) : Prop := ∃ u, mg x = some u ∧ RelV v u

theorem pe_cst {X : Cx} {x : Str} {v : V} {pos : Pos} (hg : Gl X x) (h : Cst X.mg x v) (hd : (x == ("__debug__" : Str)) = false := by decide) : PE X (.Name x pos) (tC v) := by
  obtain ⟨u, hm, r⟩ := h
  exact pe_glob hg hm r hd
def isStrC : Expr → Bool
  | .Constant (.str _) _ _ => true
  | _ => false
def strC : Expr → V
  | .Constant (.str x) _ _ => .str x
  | _ => .non
def tStrs (es : List Expr) : TA := fun _ H Q => Q (es.map strC) H
theorem pa_strs {X : Cx} : ∀ {es : List Expr}, es.all isStrC = true → PA X es (tStrs es)
  | [], _ => pa_nil
  | e :: es, h => by
    rw [List.all_cons] at h
    obtain ⟨h1, h2⟩ := Bool.and_eq_true_iff.mp h
    unfold isStrC at h1
    split at h1
    · exact pa_cons pe_str (pa_strs h2)
    · cases h1
theorem passX {P : Program} {w : World} {K : PySem.W.Frag} {mg : Str → Option Value} {base : Heap} {N : List Str} {qual : Str} {scope : Scope} {f : Addr} {cd : Value} {A : Around} {outer : List Env} {s : Shared} {H : Hp} {E : XK} :
    Passes (L2.CX P w) (cxOf (L2.CX P w) P w K mg base N qual scope f cd A outer s H E) E :=
  passes_call (W := fun cls d _ H => E cls d H) (takes_of rfl rfl rfl rfl) fun _ _ _ _ h => h

/-- PARTS -/
structure PartsT (K : PySem.W.Frag) (w : World) (d : Addr) (es : Array DictEntry) (n : Nat) : Prop where
  kd : KDict K w d es n
  no : ∀ z, arity z = none → PySem.W.nsIn K d z = some none
  yes : ∀ z k, arity z = some k → ∃ u, PySem.W.nsIn K d z = some (some u) ∧ RelV (.int k) u

structure Txt (K : PySem.W.Frag) (mg : Str → Option Value) (w : World) where
  aP : Addr
  aL : Addr
  aE : Addr
  aT : Addr
  aG : Addr
  aW : Addr
  aB : Addr
  pes : Array DictEntry
  pn : Nat
  c_LETTERS : Cst mg "LETTERS" (.str "abcdefghijklmnopqrstuvwxyz")
  c_FIGURES : Cst mg "FIGURES" (.str "0123456789")
  c_MOST_FIGURES : Cst mg "MOST_FIGURES" (.int 19)
  c_TERMS_DEEP : Cst mg "TERMS_DEEP" (.int 14)
  c_VIEWS_DEEP : Cst mg "VIEWS_DEEP" (.int 8)
  c_BLOCKS_DEEP : Cst mg "BLOCKS_DEEP" (.int 6)
  c_PARTS : Cst mg "PARTS" (.ref aP)
  pt : PartsT K w aP pes pn
  n_len : mg "len" = none
  n_isinstance : mg "isinstance" = none
  n_str : mg "str" = none
  n_int : mg "int" = none
  n_bool : mg "bool" = none
  n_tuple : mg "tuple" = none
  n_range : mg "range" = none
  n_min : mg "min" = none
  n_max : mg "max" = none
  n_sum : mg "sum" = none
  n_ValueError : mg "ValueError" = none
  -- Lost
  xL : PySem.W.excIn K aL [.type "ValueError", .type "Exception", .type "BaseException", .type "object"] "ValueError.__new__" = true
  g_Lost : mg "Lost" = some (.ref aL)
  kL : PySem.W.keepIn K (.ref aL) = true
  bL : PySem.W.subIn K (.ref aL) (.type "BaseException") = some true
  tL : PySem.W.typeIn K (.ref aL) = some (.type "type")
  eL : PySem.W.exmOne K (.ref aL) (.ref aL) = some true
  -- BlurError, BadText, BadProgram
  g_BlurError : mg "BlurError" = some (.ref aE)
  c_BlurError : Cst mg "BlurError" (.ref aE)
  rdB : ClX.CRead K aE (.type "type")
  inB : PySem.W.findCls K (.ref aE) (.type "type") "__init__" = some (.val (.builtin "ValueError.__init__"))
  g_BadText : mg "BadText" = some (.ref aT)
  oB : OexC K aT
  noRow : PySem.W.findIn K (.ref aT) "row" = some none
  xfB : XfC K aT
  excB : ExcC K aT
  eT : PySem.W.exmOne K (.ref aT) (.ref aT) = some true
  kitE : PySem.W.kitOne K (.ref aT) (.ref aE) = some true
  kitV : PySem.W.kitOne K (.ref aT) (.type "ValueError") = some true
  kitG : PySem.W.kitOne K (.ref aT) (.ref aG) = some false
  c_BadProgram : Cst mg "BadProgram" (.ref aG)
  fT : Addr
  fdT : FuncData
  FT : Fun K "__init__" "BadText.__init__" (inClass (top 2) 0) fT fdT
  bT : Binds K fdT ["self", "words", "row"] []
  iB : PySem.W.findIn K (.ref aT) "__init__" = some (some (.ref fT))
  tB : PySem.W.typeIn K (.ref fT) = some (.type "function")
  -- Words, Block
  cl_Words : Cls K aW
  w_some : NoAttr K aW "some"
  w_place : NoAttr K aW "place"
  cl_Block : Cls K aB
  b_head : NoAttr K aB "head"
  b_shut : NoAttr K aB "shut"
  b_rows : NoAttr K aB "rows"
  b_key : NoAttr K aB "key"
  Words_init : Cf K mg aW "Words" "Words.__init__" (inClass (top 16) 0) ["self", "row"]
  Words_word : Mf K aW "word" "Words.word" (inClass (top 16) 1) ["self"]
  Words_number : Mf K aW "number" "Words.number" (inClass (top 16) 2) ["self"]
  Words_within : Mf K aW "within" "Words.within" (inClass (top 16) 3) ["self", "low", "high"]
  Words_name : Mf K aW "name" "Words.name" (inClass (top 16) 4) ["self"]
  Words_must_be : Mf K aW "must_be" "Words.must_be" (inClass (top 16) 5) ["self", "due"]
  Words_ended : Mf K aW "ended" "Words.ended" (inClass (top 16) 6) ["self"]
  Block_init : Cf K mg aB "Block" "Block.__init__" (inClass (top 25) 0) ["self", "head"]
  Block_shuts : Mf K aB "shuts" "Block.shuts" (inClass (top 25) 1) ["self"]
  Block_statement : Mf K aB "statement" "Block.statement" (inClass (top 25) 2) ["self"]
  is_name : Df K mg "is_name" (top 7) ["thing"]
  number_of : Df K mg "number_of" (top 15) ["word"]
  term_from : Df K mg "term_from" (top 17) ["words", "deep"]
  measure_from : Df K mg "measure_from" (top 18) ["words"]
  lists_from : Df K mg "lists_from" (top 19) ["words"]
  pairs_from : Df K mg "pairs_from" (top 20) ["words"]
  view_from : Df K mg "view_from" (top 21) ["words", "deep"]
  asked_from : Df K mg "asked_from" (top 22) ["words"]
  asking_from : Df K mg "asking_from" (top 23) ["words", "head"]
  said_in : Df K mg "said_in" (top 24) ["row"]
  lies_right : Df K mg "lies_right" (top 26) ["blocks", "said"]
  row_said : Df K mg "row_said" (top 27) ["row"]
  read : Df K mg "read" (top 28) ["text"]
  term_words : Df K mg "term_words" (top 30) ["term"]
  measure_words : Df K mg "measure_words" (top 31) ["measure"]
  lists_words : Df K mg "lists_words" (top 32) ["lists"]
  pairs_words : Df K mg "pairs_words" (top 33) ["pairs"]
  view_words : Df K mg "view_words" (top 34) ["view"]
  asked_words : Df K mg "asked_words" (top 35) ["view", "measure"]
  pick_words : Df K mg "pick_words" (top 36) ["statement"]
  block_rows : Df K mg "block_rows" (top 37) ["statement"]
  statement_rows : Df K mg "statement_rows" (top 38) ["statement"]
  all_rows : Df K mg "all_rows" (top 39) ["rows"]
  written : Df K mg "written" (top 40) ["program"]
  _law_whole : Df K mg "_law_whole" (top 42) ["_law_found"]
  _law_at : Df K mg "_law_at" (top 43) ["_law_cells", "_law_k"]
  _law_big : Df K mg "_law_big" (top 44) ["_law_cell"]
  _law_word_of : Df K mg "_law_word_of" (top 45) ["_law_cell"]
  _law_leaf_by : Df K mg "_law_leaf_by" (top 46) ["_law_cell"]
  _law_term_by : Df K mg "_law_term_by" (top 47) ["_law_cell"]
  _law_lists_by : Df K mg "_law_lists_by" (top 48) ["_law_cell", "_law_term", "_law_words"]
  _law_pairs_by : Df K mg "_law_pairs_by" (top 49) ["_law_cell"]
  _law_view_by : Df K mg "_law_view_by" (top 50) ["_law_cell", "_law_deep"]
  _law_source_by : Df K mg "_law_source_by" (top 51) ["_law_cell"]
  _law_asking_by : Df K mg "_law_asking_by" (top 52) ["_law_cell", "_law_small"]
  _law_opened : Df K mg "_law_opened" (top 53) ["_law_cell"]
  _law_shut : Df K mg "_law_shut" (top 54) ["_law_blocks", "_law_lines"]
  _law_go_on : Df K mg "_law_go_on" (top 55) ["_law_blocks", "_law_lines", "_law_cell", "_law_small"]
  _law_built : Df K mg "_law_built" (top 56) ["_law_script"]
  _law_bad_asks : Df K mg "_law_bad_asks" (top 57) ["_law_cell"]
  _law_bad_flats : Df K mg "_law_bad_flats" (top 58) ["_law_cell"]
  _law_bad_row : Df K mg "_law_bad_row" (top 59) ["_law_cell"]
  _law_open : Df K mg "_law_open" (top 60) ["_law_lines"]
  _law_not_here : Df K mg "_law_not_here" (top 61) ["_law_cell", "_law_blocks"]
  _law_ends : Df K mg "_law_ends" (top 62) ["_law_blocks"]
  _law_read : Df K mg "_law_read" (top 63) ["_law_text"]
  _law_changed : Df K mg "_law_changed" (top 64) ["_law_text", "_law_cell"]
  _law_any : Df K mg "_law_any" (top 65) ["_law_text"]
  law : Df K mg "law" (top 66) ["_law_script"]

/-! ### heaps -/
/-- all but what stands at w is as it was -/
def SB (w : Addr) (H H' : Hp) : Prop := ∀ b o, b ≠ w → H b = some o → H' b = some o
theorem SB.refl (w : Addr) (H : Hp) : SB w H H := fun _ _ _ h => h
theorem SB.trans {w : Addr} {H H1 H2 : Hp} (a : SB w H H1) (b : SB w H1 H2) : SB w H H2 := fun c o n h => b c o n (a c o n h)
theorem SB.of_same {w : Addr} {H H' : Hp} (h : Same H H') : SB w H H' := fun b o _ e => h b o e
theorem Same.laid {H : Hp} {p : Addr} {o : HO} (n : H p = none) : Same H (upd H p o) := fun b u e => by rw [upd_ne (ne_of_none e n)]; exact e
/-- the tuples stay -/
def Tups (H H' : Hp) : Prop := ∀ a xs, H a = some (.tup xs) → H' a = some (.tup xs)
theorem Tups.refl (H : Hp) : Tups H H := fun _ _ h => h
theorem Tups.trans {H H1 H2 : Hp} (a : Tups H H1) (b : Tups H1 H2) : Tups H H2 := fun c xs h => b c xs (a c xs h)
theorem Same.tups {H H' : Hp} (h : Same H H') : Tups H H' := fun a xs e => h a _ e
theorem SB.tups {w : Addr} {H H' : Hp} (h : SB w H H') (hw : ∀ xs, H w ≠ some (.tup xs)) : Tups H H' := fun a xs e => h a _ (fun z => hw xs (by rw [← z]; exact e)) e
theorem ins_no_tup {H : Hp} {a C dx : Addr} {fs : List (Str × V)} (h : H a = some (.ins C dx fs)) : ∀ xs, H a ≠ some (.tup xs) := fun xs z => by rw [h] at z; cases z
theorem lst_no_tup {H : Hp} {a : Addr} {ys : List V} (h : H a = some (.lst ys)) : ∀ xs, H a ≠ some (.tup xs) := fun xs z => by rw [h] at z; cases z
theorem sz1000 {n : Nat} (h : n ≤ 1000) : n ≤ sizeLine := Nat.le_of_lt (small1000 h)
/-- an inductive of pairs side by side -/
def All2 {α β : Type} (R : α → β → Prop) (l : List α) (m : List β) : Prop := PySem.Paired R l m
end BD
/-! W1: is_name, number_of, BadText.__init__, Words. -/
namespace BD
open PySem PySem.Spec L2 TL
open PyProof.Rows hiding St
local macro_rules | `(tactic| walk_at "g") => `(tactic| repeat (first | refine ⟨_, rfl, ?_⟩ | refine ⟨_, _, rfl, rfl, ?_⟩ | refine ⟨rfl, ?_⟩))
theorem all_take {l : List Nat} {f : Nat → Bool} {i c : Nat} (h : (l.take i).all f = true) (hc : l[i]? = some c) (e : f c = true) : (l.take (i + 1)).all f = true := by
  rw [List.take_succ, hc, List.all_append, h]
  simp [e]
theorem all_not {l : List Nat} {f : Nat → Bool} {i c : Nat} (hc : l[i]? = some c) (e : f c = false) : l.all f = false := by
  cases q : l.all f with
  | false => rfl
  | true => rw [List.all_eq_true.mp q c (List.mem_of_getElem? hc)] at e; cases e
section
variable {P : Program} {w : World} {K : PySem.W.Frag} {mg : Str → Option Value} {base : Heap}

/-! ### is_name -/
def sp_is_name : Sp := fun vs H Q _ => ∃ z : Str, vs = [.str z] ∧ z.length ≤ sizeLine ∧ Q (.bl (isNm z)) H
theorem let_mem {c : Nat} : decide (c ∈ (("abcdefghijklmnopqrstuvwxyz" : Str)).cps.toList) = isLet c := by
  have e : (("abcdefghijklmnopqrstuvwxyz" : Str)).cps.toList = [97, 98, 99, 100, 101, 102, 103, 104, 105, 106, 107, 108, 109, 110, 111, 112, 113, 114, 115, 116, 117, 118, 119, 120, 121, 122] := by decide +kernel
  rw [e]
  unfold isLet
  by_cases h : 97 ≤ c ∧ c ≤ 122
  · have : c ∈ [97, 98, 99, 100, 101, 102, 103, 104, 105, 106, 107, 108, 109, 110, 111, 112, 113, 114, 115, 116, 117, 118, 119, 120, 121, 122] := by
      simp only [List.mem_cons, List.not_mem_nil, or_false]
      omega
    rw [decide_eq_true this, decide_eq_true h.1, decide_eq_true h.2]
    rfl
  · have : c ∉ [97, 98, 99, 100, 101, 102, 103, 104, 105, 106, 107, 108, 109, 110, 111, 112, 113, 114, 115, 116, 117, 118, 119, 120, 121, 122] := by
      simp only [List.mem_cons, List.not_mem_nil, or_false]
      omega
    rw [decide_eq_false this]
    by_cases h1 : 97 ≤ c
    · rw [decide_eq_true h1, decide_eq_false (fun z => h ⟨h1, z⟩)]
      rfl
    · rw [decide_eq_false h1]
      rfl
theorem fig_mem {c : Nat} : decide (c ∈ (("0123456789" : Str)).cps.toList) = isFig c := by
  have e : (("0123456789" : Str)).cps.toList = [48, 49, 50, 51, 52, 53, 54, 55, 56, 57] := by decide +kernel
  rw [e]
  unfold isFig
  by_cases h : 48 ≤ c ∧ c ≤ 57
  · have : c ∈ [48, 49, 50, 51, 52, 53, 54, 55, 56, 57] := by
      simp only [List.mem_cons, List.not_mem_nil, or_false]
      omega
    rw [decide_eq_true this, decide_eq_true h.1, decide_eq_true h.2]
    rfl
  · have : c ∉ [48, 49, 50, 51, 52, 53, 54, 55, 56, 57] := by
      simp only [List.mem_cons, List.not_mem_nil, or_false]
      omega
    rw [decide_eq_false this]
    by_cases h1 : 48 ≤ c
    · rw [decide_eq_true h1, decide_eq_false (fun z => h ⟨h1, z⟩)]
      rfl
    · rw [decide_eq_false h1]
      rfl
theorem sc_is_name : FnScope ["thing", "sign"] ["thing"] (defScope (top 7)) := ⟨rfl, rfl, rfl, by decide +kernel, rfl, by decide +kernel, by decide +kernel⟩
theorem ok_is_name (T : Txt K mg w) : FnOk P w K mg base CX0 1 T.is_name.f T.is_name.fd ["thing"] sp_is_name := by
  refine T.is_name.F.ok sc_is_name (fun vs H Q E h => ?_) (fun cdv A outer s H vs Q E hr h => ?_)
  · obtain ⟨z, rfl, _⟩ := h
    rfl
  · obtain ⟨z, rfl, hz, k⟩ := h
    refine ⟨_, (pss_cons (ps_if (PW.pt (pw_or (pt_not (pt_val (pe_callB call_isi (by rfl) T.n_isinstance (by decide +kernel) (pa_cons (pv 0) (pa_cons (pe_bltn (v := .ty "str") (u := .type "str") rfl T.n_str (by decide +kernel) rfl) pa_nil))))) (pw_or (pt_cmpR op_lt (pe_callB call_len_str (by rfl) T.n_len (by decide +kernel) (pa_cons (pv 0) pa_nil)) pe_int (nomark _)) (pw_or1 (pt_cmpR op_gt (pe_callB call_len_str (by rfl) T.n_len (by decide +kernel) (pa_cons (pv 0) pa_nil)) pe_int (nomark _)))))) (pss_one (ps_ret pe_bl)) pss_nil)
      (pss_cons (ps_for PassesOwn.never rfl (pi_str (pv 0)) (pg_name (i := 1) sc_is_name.nd rfl (Or.inl rfl)) (pss_one (ps_if (pt_cmpR op_notIn_sign (pv 1) (pe_cst rfl T.c_LETTERS) rfl) (pss_one (ps_ret pe_bl)) pss_nil)))
      (pss_one (ps_ret pe_bl)))), ?_⟩
    walk_at "g"
    refine ⟨_, _, _, _, true, rfl, .ty _, .base (.str _), kit_ty (by decide +kernel), _, rfl, ?_⟩
    refine iteF ?_
    walk_at "g"
    refine ⟨hz, ?_⟩
    walk_at "g"
    have len0 : isNm z = (decide (1 ≤ z.length) && decide (z.length ≤ 8) && (tl z).all isLet) := rfl
    refine ite2 (fun h => ?_) (fun h => ?_)
    · have h1 : ((z.length : Nat) : Int) < 1 := of_decide_eq_true h
      have e : isNm z = false := by rw [len0, decide_eq_false (show ¬ 1 ≤ z.length by omega)]; rfl
      rw [e] at k
      exact k
    have h1 : ¬ ((z.length : Nat) : Int) < 1 := of_decide_eq_false (by simpa using h)
    walk_at "g"
    refine ⟨hz, ?_⟩
    walk_at "g"
    refine ite2 (fun h => ?_) (fun h => ?_)
    · have h2 : (8 : Int) < ((z.length : Nat) : Int) := of_decide_eq_true h
      have e : isNm z = false := by rw [len0, decide_eq_false (show ¬ z.length ≤ 8 by omega), Bool.and_false]; rfl
      rw [e] at k
      exact k
    have h2 : ¬ (8 : Int) < ((z.length : Nat) : Int) := of_decide_eq_false (by simpa using h)
    have e2 : isNm z = (tl z).all isLet := by rw [len0, decide_eq_true (show 1 ≤ z.length by omega), decide_eq_true (show z.length ≤ 8 by omega)]; rfl
    rw [e2] at k
    walk_at "g"
    refine for_it walk_str (fun i σ H' => (∃ v, σ = [some (.str z), v]) ∧ H' = H ∧ ((tl z).take i).all isLet = true) ⟨⟨_, rfl⟩, rfl, rfl⟩ (fun _ _ _ _ _ => trivial) ?_ ?_
    · rintro i x σ H1 H2 hi ⟨⟨v, rfl⟩, rfl, ha⟩ ⟨rfl, c, hc, rfl⟩
      have hc' : (tl z)[i]? = some c := by rw [← Array.getElem?_toList] at hc; exact hc
      refine ⟨_, rfl, _, _, rfl, rfl, _, rfl, ?_⟩
      rw [let_mem]
      cases hl : isLet c with
      | false =>
        refine iteT ?_
        rw [all_not hc' hl] at k
        exact k
      | true => exact iteF ⟨⟨_, rfl⟩, rfl, all_take ha hc' hl⟩
    · rintro σ H1 ⟨_, rfl, ha⟩
      have : (tl z).take z.cps.size = tl z := List.take_of_length_le (by simp [tl])
      rw [this] at ha
      rw [ha] at k
      exact k

/-! ### number_of -/
def sp_number_of (aL : Addr) : Sp := fun vs H Q E => ∃ z : Str, vs = [.str z] ∧ z.length ≤ sizeLine ∧ (∀ n, numP z = some n → Q (.int n) H) ∧ (numP z = none → E (.ref aL) none H)
theorem tl_cut1 (z : Str) : tl (cutS z none (some 1)) = (tl z).take 1 := by
  show ((tl z).drop (HT.sIx z.length 0 none)).take (HT.sIx z.length z.length (some 1) - HT.sIx z.length 0 none) = _
  have e1 : HT.sIx z.length 0 none = 0 := rfl
  have e2 : HT.sIx z.length z.length (some 1) = min 1 z.length := by
    show (if (1 : Int) < 0 then ((1 : Int) + (z.length : Int)).toNat else min (1 : Int).toNat z.length) = _
    rw [if_neg (by decide)]
    rfl
  rw [e1, e2, List.drop_zero, Nat.sub_zero, len_tl]
  rcases Nat.lt_or_ge (tl z).length 1 with h | h
  · have : tl z = [] := List.length_eq_zero_iff.mp (by omega)
    rw [this]
    rfl
  · rw [Nat.min_eq_left h]
theorem tl_cut2 (z : Str) : tl (cutS z (some 1) none) = (tl z).drop 1 := by
  show ((tl z).drop (HT.sIx z.length 0 (some 1))).take (HT.sIx z.length z.length none - HT.sIx z.length 0 (some 1)) = _
  have e1 : HT.sIx z.length z.length none = z.length := rfl
  have e2 : HT.sIx z.length 0 (some 1) = min 1 z.length := by
    show (if (1 : Int) < 0 then ((1 : Int) + (z.length : Int)).toNat else min (1 : Int).toNat z.length) = _
    rw [if_neg (by decide)]
    rfl
  rw [e1, e2, len_tl]
  rcases Nat.lt_or_ge (tl z).length 1 with h | h
  · have : tl z = [] := List.length_eq_zero_iff.mp (by omega)
    rw [this]
    rfl
  · rw [Nat.min_eq_left h]
    exact List.take_of_length_le (by rw [List.length_drop]; omega)
theorem str_eq_tl {x y : Str} : x = y ↔ tl x = tl y := ⟨fun e => by rw [e], ext_tl⟩
theorem dec_str_tl {x y : Str} : decide (V.str x = V.str y) = decide (tl x = tl y) := by
  by_cases h : tl x = tl y
  · rw [decide_eq_true h, decide_eq_true (by rw [ext_tl h])]
  · rw [decide_eq_false h, decide_eq_false (fun e => h (by injection e with e; rw [e]))]
theorem atI0 {α : Type} {a : α} {l : List α} : atI (a :: l) 0 = some a := by
  unfold atI ixN
  rw [if_pos (by decide), if_pos (by rw [List.length_cons]; omega)]
  rfl
theorem tl_0 : tl (("0" : Str)) = [48] := by decide +kernel
theorem tl_dash : tl (("-" : Str)) = [45] := by decide +kernel
theorem sc_number_of : FnScope ["word", "figures", "sign"] ["word"] (defScope (top 15)) := ⟨rfl, rfl, rfl, by decide +kernel, rfl, by decide +kernel, by decide +kernel⟩
theorem ok_number_of (T : Txt K mg w) : FnOk P w K mg base (L2.CX P w) 1 T.number_of.f T.number_of.fd ["word"] (sp_number_of T.aL) := by
  refine T.number_of.F.okX sc_number_of (fun vs H Q E h => ?_) (fun cdv A outer s H vs Q E hr h => ?_)
  · obtain ⟨z, rfl, _⟩ := h
    rfl
  · obtain ⟨z, rfl, hz, kS, kN⟩ := h
    refine ⟨_, (pss_cons (ps_set (i := 1) sc_number_of.nd rfl (Or.inl rfl) (pv 0))
      (C8.pss_cut (ps_if (pt_cmpR op_eq (pe_slice sl_str (pv 0) po_none (po_some pe_int)) pe_str (nomark _)) (pss_one (ps_set (i := 1) sc_number_of.nd rfl (Or.inl rfl) (pe_slice sl_str (pv 0) (po_some pe_int) po_none))) pss_nil)
      (pss_cons (ps_if (PW.pt (pw_or (pt_cmpR op_lt (pe_callB call_len_str (by rfl) T.n_len (by decide +kernel) (pa_cons (pv 1) pa_nil)) pe_int (nomark _)) (pw_or1 (pt_cmpR op_gt (pe_callB call_len_str (by rfl) T.n_len (by decide +kernel) (pa_cons (pv 1) pa_nil)) (pe_cst rfl T.c_MOST_FIGURES) (nomark _))))) (pss_one (ps_raise rfl (takes_of rfl rfl rfl rfl) (pmk_own PySem.F.excBase_ValueError T.xL T.g_Lost T.kL (raises_own T.bL T.tL) (by exact rfl)))) pss_nil)
      (pss_cons (ps_for (passes_of rfl) rfl (pi_str (pv 1)) (pg_name (i := 2) sc_number_of.nd rfl (Or.inl rfl)) (pss_one (ps_if (pt_cmpR op_notIn_sign (pv 2) (pe_cst rfl T.c_FIGURES) rfl) (pss_one (ps_raise rfl (takes_of rfl rfl rfl rfl) (pmk_own PySem.F.excBase_ValueError T.xL T.g_Lost T.kL (raises_own T.bL T.tL) (by exact rfl)))) pss_nil)))
      (C8.pss_cut (ps_if (PW.pt (pw_and (pt_cmpR op_eq (pe_ix ix_str (pv 1) pe_int (fun _ _ => rfl)) pe_str (nomark _)) (pw_and1 (pt_cmpR op_ne (pv 0) pe_str (nomark _))))) (pss_one (ps_raise rfl (takes_of rfl rfl rfl rfl) (pmk_own PySem.F.excBase_ValueError T.xL T.g_Lost T.kL (raises_own T.bL T.tL) (by exact rfl)))) pss_nil)
      (pss_cons (ps_if (pt_cmpR op_eq (pe_ix ix_str (pv 0) pe_int (fun _ _ => rfl)) pe_str (nomark _)) (pss_one (ps_ret (pe_un un_neg (pe_callTy call_int_str (by rfl) T.n_int (by decide +kernel) (pa_cons (pv 1) pa_nil))))) pss_nil)
      (pss_one (ps_ret (pe_callTy call_int_str (by rfl) T.n_int (by decide +kernel) (pa_cons (pv 1) pa_nil)))))))))), ?_⟩
    walk_at "g"
    refine ⟨fun σ' H' => (∃ f : Str, σ' = [some (.str z), some (.str f), none] ∧ tl f = figs z) ∧ H' = H, ?_, ?_⟩
    · refine ⟨_, rfl, _, rfl, _, rfl, hz, rfl, _, rfl, ?_⟩
      rw [dec_str_tl, tl_cut1, tl_dash]
      refine ite2 (fun h => ?_) (fun h => ?_)
      · refine ⟨_, rfl, _, rfl, z, rfl, hz, ⟨_, rfl, ?_⟩, rfl⟩
        rw [tl_cut2]
        exact (if_pos (of_decide_eq_true h)).symm
      · refine ⟨⟨_, rfl, ?_⟩, rfl⟩
        exact (if_neg (of_decide_eq_false (by simpa using h))).symm
    rintro σ' H' ⟨⟨f, rfl, hf⟩, rfl⟩
    have hfl : f.length = (figs z).length := by rw [len_tl, hf]
    have hfz : f.length ≤ sizeLine := by
      rw [hfl]
      unfold figs
      rw [len_tl] at hz
      split
      · rw [List.length_drop]
        omega
      · exact hz
    have bad : isNum z = false → numP z = none := fun e => by unfold numP; rw [if_neg (by rw [e]; exact Bool.false_ne_true)]
    have en : isNum z = (decide (1 ≤ (figs z).length) && decide ((figs z).length ≤ 19) && (figs z).all isFig && !((figs z).take 1 == [48] && decide (tl z ≠ [48]))) := rfl
    refine ⟨_, rfl, f, rfl, hfz, _, _, rfl, rfl, _, rfl, ?_⟩
    rw [hfl]
    refine ite2 (fun h => ?_) (fun h => ?_)
    · have h1 : (((figs z).length : Nat) : Int) < 1 := of_decide_eq_true h
      exact kN (bad (by rw [en, decide_eq_false (show ¬ 1 ≤ (figs z).length by omega)]; rfl))
    have h1 : ¬ (((figs z).length : Nat) : Int) < 1 := of_decide_eq_false (by simpa using h)
    refine ⟨_, rfl, f, rfl, hfz, _, _, rfl, rfl, _, rfl, ?_⟩
    rw [hfl]
    refine ite2 (fun h => ?_) (fun h => ?_)
    · have h2 : (19 : Int) < (((figs z).length : Nat) : Int) := of_decide_eq_true h
      exact kN (bad (by rw [en, decide_eq_false (show ¬ (figs z).length ≤ 19 by omega), Bool.and_false]; rfl))
    have h2 : ¬ (19 : Int) < (((figs z).length : Nat) : Int) := of_decide_eq_false (by simpa using h)
    have en2 : isNum z = ((figs z).all isFig && !((figs z).take 1 == [48] && decide (tl z ≠ [48]))) := by
      rw [en, decide_eq_true (show 1 ≤ (figs z).length by omega), decide_eq_true (show (figs z).length ≤ 19 by omega)]
      rfl
    refine ⟨_, rfl, f, rfl, ?_⟩
    refine for_it walk_str (fun i σ H2 => (∃ v, σ = [some (.str z), some (.str f), v]) ∧ H2 = H' ∧ ((figs z).take i).all isFig = true) ⟨⟨_, rfl⟩, rfl, rfl⟩ (fun _ _ _ _ _ => trivial) ?_ ?_
    · rintro i x σ H1 H2 hi ⟨⟨v, rfl⟩, rfl, ha⟩ ⟨rfl, c, hc, rfl⟩
      have hc' : (figs z)[i]? = some c := by rw [← hf, ← Array.getElem?_toList] at *; exact hc
      refine ⟨_, rfl, _, _, rfl, rfl, _, rfl, ?_⟩
      rw [fig_mem]
      cases hl : isFig c with
      | false => exact iteT (kN (bad (by rw [en2, all_not hc' hl]; rfl)))
      | true => exact iteF ⟨⟨_, rfl⟩, rfl, all_take ha hc' hl⟩
    · rintro σ H1 ⟨⟨v, rfl⟩, rfl, ha⟩
      have : (figs z).take f.cps.size = figs z := List.take_of_length_le (by rw [← hf]; simp [tl])
      rw [this] at ha
      have en3 : isNum z = !((figs z).take 1 == [48] && decide (tl z ≠ [48])) := by rw [en2, ha]; rfl
      obtain ⟨c, r, ec⟩ : ∃ c r, figs z = c :: r := by
        cases e : figs z with
        | nil => rw [e] at h1; simp at h1
        | cons c r => exact ⟨c, r, rfl⟩
      have hfc : tl f = c :: r := hf.trans ec
      have e1 : ∀ x : Str, tl x = [c] → decide (V.str x = V.str ("0" : Str)) = decide (c = 48) := fun x e => by
        rw [dec_str_tl, tl_0, e]
        by_cases h : c = 48
        · rw [h]
          rfl
        · rw [decide_eq_false h, decide_eq_false (by simpa using h)]
      have e2 : ((figs z).take 1 == [48]) = decide (c = 48) := by
        rw [ec]
        by_cases h : c = 48
        · rw [h]
          rfl
        · rw [decide_eq_false h]
          simpa using h
      refine ⟨fun σ2 H2 => σ2 = [some (.str z), some (.str f), v] ∧ H2 = H1 ∧ isNum z = true, ?_, ?_⟩
      · refine ⟨_, rfl, f, _, c, rfl, rfl, hfz, by rw [show f.cps.toList = c :: r from hfc]; exact atI0, rfl, _, rfl, ?_⟩
        rw [e1 _ rfl, ← e2]
        cases hb : ((figs z).take 1 == [48]) with
        | false =>
          refine iteF (iteF ⟨rfl, rfl, ?_⟩)
          rw [en3, hb]
          rfl
        | true =>
          refine iteT ⟨_, rfl, rfl, _, rfl, ?_⟩
          rw [dec_str_tl, tl_0]
          by_cases h : tl z = [48]
          · rw [decide_eq_true h]
            refine iteF ⟨rfl, rfl, ?_⟩
            rw [en3, hb, decide_eq_false (fun q => q h)]
            rfl
          · rw [decide_eq_false h]
            refine iteT (kN (bad ?_))
            rw [en3, hb, decide_eq_true h]
            rfl
      · rintro σ2 H2 ⟨rfl, rfl, hn⟩
        have hp : numP z = some (numV z) := if_pos hn
        have k := kS _ hp
        have hd : NumText.AllDigits (figs z) := all_fig.mp ha
        have hf19 : f.length ≤ 640 := by omega
        have hint : intText? f = some ((NumText.digitsVal (figs z) : Nat) : Int) := by
          have q := intText_digits (x := f) (by rw [show f.cps.toList = figs z from hf]; exact hd) (by rw [show f.cps.toList = c :: r from hfc]; simp) (by omega)
          rw [q, show f.cps.toList = figs z from hf]
        obtain ⟨a, t, ez⟩ : ∃ a t, tl z = a :: t := by
          cases e : tl z with
          | nil =>
            have : figs z = [] := by unfold figs; rw [e]; rfl
            rw [this] at ec
            cases ec
          | cons a t => exact ⟨a, t, rfl⟩
        refine ⟨_, rfl, z, _, a, rfl, rfl, hz, by rw [show z.cps.toList = a :: t from ez]; exact atI0, rfl, _, rfl, ?_⟩
        have eb : decide (V.str (⟨#[a]⟩ : Str) = V.str ("-" : Str)) = decide ((tl z).take 1 = [45]) := by
          rw [dec_str_tl, tl_dash, ez]
          rfl
        rw [eb]
        unfold numV at k
        by_cases h : (tl z).take 1 = [45]
        · rw [decide_eq_true h]
          rw [if_pos h] at k
          exact iteT ⟨_, rfl, f, _, rfl, hint, hf19, _, rfl, k⟩
        · rw [decide_eq_false h]
          rw [if_neg h] at k
          exact iteF ⟨_, rfl, f, _, rfl, hint, hf19, k⟩
end
end BD
/-! W2: BadText.__init__, Words. -/
namespace BD
open PySem PySem.Spec L2 TL
open PyProof.Rows hiding St
local macro_rules | `(tactic| walk_at "g") => `(tactic| repeat (first | refine ⟨_, rfl, ?_⟩ | refine ⟨_, _, rfl, rfl, ?_⟩ | refine ⟨rfl, ?_⟩))

/-! ### an object's attributes -/
theorem putF_ne {f g : Str} {v u : V} {fs : List (Str × V)} (h : g ≠ f) : putF f v ((g, u) :: fs) = (g, u) :: putF f v fs := by
  show (if g = f then _ else _) = _
  rw [if_neg h]
theorem putF_eq {f : Str} {v u : V} {fs : List (Str × V)} : putF f v ((f, u) :: fs) = (f, v) :: fs := by
  show (if f = f then _ else _) = _
  rw [if_pos rfl]
theorem lk_eq {f : Str} {v : V} {fs : List (Str × V)} : ((f, v) :: fs).lookup f = some v := by rw [lookup_put, if_pos rfl]
theorem lk_ne {f g : Str} {v : V} {fs : List (Str × V)} (h : g ≠ f) : ((f, v) :: fs).lookup g = fs.lookup g := by rw [lookup_put, if_neg h]
def wf (l : Addr) (k : Int) : List (Str × V) := [("some", .ref l), ("place", .int k)]
theorem ne_sp : ("some" : Str) ≠ "place" := by decide +kernel
theorem wf_new (l : Addr) (k : Int) : putF "place" (.int k) (putF "some" (.ref l) []) = wf l k := putF_ne ne_sp
theorem wf_put (l : Addr) (k j : Int) : putF "place" (.int j) (wf l k) = wf l j := (putF_ne ne_sp).trans (congrArg _ putF_eq)
theorem wf_some (l : Addr) (k : Int) : (wf l k).lookup ("some" : Str) = some (.ref l) := lk_eq
theorem wf_place (l : Addr) (k : Int) : (wf l k).lookup ("place" : Str) = some (.int k) := (lk_ne ne_sp.symm).trans lk_eq
theorem wf_no (l : Addr) (k : Int) {m : Str} (h1 : m ≠ "some") (h2 : m ≠ "place") : (wf l k).lookup m = none := (lk_ne h1).trans (lk_ne h2)
theorem wf_len (l : Addr) (k : Int) : (wf l k).length < 1000 := by show 2 < 1000; decide

/-- words pre were taken, words r are left -/
structure WA (C : Addr) (H : Hp) (wd l : Addr) (pre r : Ws) : Prop where
  ob : ∃ dx, H wd = some (.ins C dx (wf l pre.length))
  ls : H l = some (.lst ((pre ++ r).map V.str))
  sm : ∀ x ∈ r, x.length ≤ sizeLine
theorem WA.ntup {C : Addr} {H : Hp} {wd l : Addr} {pre r : Ws} (h : WA C H wd l pre r) : ∀ xs, H wd ≠ some (.tup xs) := fun xs z => by
  obtain ⟨dx, e⟩ := h.ob
  rw [e] at z
  cases z
theorem WA.same {C : Addr} {H H' : Hp} {wd l : Addr} {pre r : Ws} (h : WA C H wd l pre r) (s : Same H H') : WA C H' wd l pre r :=
  ⟨let ⟨dx, e⟩ := h.ob; ⟨dx, s _ _ e⟩, s _ _ h.ls, h.sm⟩
theorem WA.nil {C : Addr} {H : Hp} {wd l : Addr} {pre r : Ws} (h : WA C H wd l pre r) : WA C H wd l (pre ++ []) r := by rw [List.append_nil]; exact h

/-- what a def that eats words promises: it eats what rec eats, or raises Lost where rec doesn't -/
def spEat {ι : Type} (C cL : Addr) (args : ι → List V) (rec : ι → Ws → Option Ws) (Res : ι → Hp → V → Ws → Prop) : Sp := fun vs H Q E =>
  ∃ (i : ι) (wd l : Addr) (pre r : Ws), vs = .ref wd :: args i ∧ WA C H wd l pre r ∧
    (∀ cs r' v H', rec i r = some r' → r = cs ++ r' → Res i H' v cs → WA C H' wd l (pre ++ cs) r' → SB wd H H' → Q v H') ∧
    (rec i r = none → ∀ H', SB wd H H' → E (.ref cL) none H')
def wordP : Ws → Option Ws
  | [] => none
  | _ :: r => some r
def nameP : Ws → Option Ws
  | [] => none
  | x :: r => if isNm x = true then some r else none
def mustP (due : Str) : Ws → Option Ws
  | [] => none
  | x :: r => if x = due then some r else none
def endedP : Ws → Option Ws
  | [] => some []
  | _ :: _ => none
def withinR (lo hi : Int) (r : Ws) : Option Ws := (withinS lo hi r).map (·.2)
abbrev noA : Unit → List V := fun _ => []
section
variable {P : Program} {w : World} {K : PySem.W.Frag} {mg : Str → Option Value} {base : Heap}

/-! ### BadText.__init__ -/
def sp_btinit (aT : Addr) : Sp := fun vs H Q _ => ∃ (a : Addr) (m n : V), vs = [.ref a, m, n] ∧ H a = some (exo a aT none) ∧
  ∀ d, H d = none → d ≠ a → Q .non (upd (upd H d (exd d [("row", n)])) a (exo a aT (some d)))
theorem sc_BadText_init : FnScope ["self", "words", "row"] ["self", "words", "row"] (defScope (inClass (top 2) 0)) := ⟨rfl, rfl, rfl, by decide +kernel, rfl, by decide +kernel, by decide +kernel⟩
theorem ok_BadText_init (T : Txt K mg w) : FnOk P w K mg base CX0 1 T.fT T.fdT ["self", "words", "row"] (sp_btinit T.aT) := by
  refine T.FT.ok sc_BadText_init (fun vs H Q E h => ?_) (fun cdv A outer s H vs Q E hr h => ?_)
  · obtain ⟨a, m, n, rfl, _⟩ := h
    rfl
  · obtain ⟨a, m, n, rfl, ha, k⟩ := h
    refine ⟨_, (pss_cons (ps_expr (pe_blinit rfl T.g_BlurError T.rdB T.inB (pa_cons (pv 0) (pa_cons (pv 1) pa_nil))))
      (pss_one (ps_ost (pv 0) (pv 2)))), ?_⟩
    refine ⟨_, rfl, _, rfl, a, T.aT, [m], rfl, by show 1 ≤ 1000; decide, T.oB, ha, ?_⟩
    exact ⟨_, rfl, _, rfl, a, T.aT, rfl, T.oB, T.noRow, .inl ⟨ha, k⟩⟩

/-! ### Words -/
def sp_winit (aW : Addr) : Sp := fun vs H Q _ => ∃ (p dx : Addr) (row : Str), vs = [.ref p, .str row] ∧ row.length + 2 ≤ sizeLine ∧ H p = some (.ins aW dx []) ∧
  ∀ H' l, WA aW H' p l [] (wordsOf row) → SB p H H' → Q .non H'
theorem words_sm (row : Str) (h : row.length ≤ sizeLine) : ∀ x ∈ wordsOf row, x.length ≤ sizeLine := fun x hx => by
  have e := join_words row
  have key : ∀ (ws : Ws), x ∈ ws → x.length ≤ (Txt.join sp1 ws).length := fun ws => by
    rw [join_eq, len_tl, len_tl, tl_join]
    induction ws with
    | nil => intro h; cases h
    | cons a r ih =>
      intro h
      cases r with
      | nil =>
        have : x = a := by simpa using h
        rw [this]
        exact Nat.le_refl _
      | cons b r =>
        show _ ≤ (tl a ++ (tl sp1 ++ joinL (tl sp1) ((b :: r).map tl))).length
        rw [List.length_append, List.length_append]
        rcases List.mem_cons.mp h with h | h
        · rw [h]
          omega
        · have := ih h
          omega
  have := key _ hx
  rw [e] at this
  omega
theorem sc_Words_init : FnScope ["self", "row"] ["self", "row"] (defScope (inClass (top 16) 0)) := ⟨rfl, rfl, rfl, by decide +kernel, rfl, by decide +kernel, by decide +kernel⟩
theorem ok_Words_init (T : Txt K mg w) : FnOk P w K mg base CX0 1 T.Words_init.f T.Words_init.fd ["self", "row"] (sp_winit T.aW) := by
  refine T.Words_init.F.ok sc_Words_init (fun vs H Q E h => ?_) (fun cdv A outer s H vs Q E hr h => ?_)
  · obtain ⟨p, dx, row, rfl, _⟩ := h
    rfl
  · obtain ⟨p, dx, row, rfl, hz, hp, k⟩ := h
    refine ⟨_, (pss_cons (ps_fld (pv 0) (pe_split (pv 1) pe_str) rfl)
      (pss_one (ps_fld (pv 0) pe_int rfl))), ?_⟩
    refine ⟨_, rfl, ⟨_, rfl⟩, _, _, rfl, rfl, by decide +kernel, hz, fun l hl => ?_⟩
    have npl : p ≠ l := ne_of_none hp hl
    refine ⟨_, rfl, p, T.aW, dx, [], rfl, by rw [upd_ne npl]; exact hp, T.cl_Words, T.w_some, by decide, ?_⟩
    refine ⟨_, rfl, p, T.aW, dx, _, rfl, upd_same, T.cl_Words, T.w_place, by show 1 < 1000; decide, ?_⟩
    refine k _ l ⟨⟨dx, ?_⟩, ?_, words_sm row (by omega)⟩ (fun b o n e => ?_)
    · rw [upd_same, wf_new]
      rfl
    · rw [upd_ne npl.symm, upd_ne npl.symm, upd_same, words_eq]
      rfl
    · rw [upd_ne n, upd_ne n, upd_ne (ne_of_none e hl)]
      exact e
abbrev sp_word (T : Txt K mg w) : Sp := spEat T.aW T.aL noA (fun _ => wordP) (fun _ _ v cs => ∃ x : Str, v = .str x ∧ cs = [x] ∧ x.length ≤ sizeLine)
theorem sc_Words_word : FnScope ["self"] ["self"] (defScope (inClass (top 16) 1)) := ⟨rfl, rfl, rfl, by decide +kernel, rfl, by decide +kernel, by decide +kernel⟩
theorem ok_Words_word (T : Txt K mg w) : FnOk P w K mg base (L2.CX P w) 1 T.Words_word.f T.Words_word.fd ["self"] (sp_word T) := by
  refine T.Words_word.F.okX sc_Words_word (fun vs H Q E h => ?_) (fun cdv A outer s H vs Q E hr h => ?_)
  · obtain ⟨_, wd, l, pre, r, rfl, _⟩ := h
    rfl
  · obtain ⟨_, wd, l, pre, r, rfl, ⟨⟨dx, ho⟩, hl, sm⟩, kS, kN⟩ := h
    refine ⟨_, (pss_cons (ps_if (pt_cmpR op_ge (pe_fld (pv 0) rfl) (pe_callB call_len_seq (by rfl) T.n_len (by decide +kernel) (pa_cons (pe_fld (pv 0) rfl) pa_nil)) (nomark _)) (pss_one (ps_raise rfl (takes_of rfl rfl rfl rfl) (pmk_own PySem.F.excBase_ValueError T.xL T.g_Lost T.kL (raises_own T.bL T.tL) (by exact rfl)))) pss_nil)
      (pss_cons (ps_fld (pv 0) (pe_op op_add (pe_fld (pv 0) rfl) pe_int) rfl)
      (pss_one (ps_ret (pe_ix ix_list (pe_fld (pv 0) rfl) (pe_op op_sub (pe_fld (pv 0) rfl) pe_int) (fun _ _ => rfl)))))), ?_⟩
    refine ⟨_, rfl, wd, _, dx, _, _, rfl, ho, T.cl_Words, T.w_place, wf_place _ _, ?_⟩
    refine ⟨_, rfl, wd, _, dx, _, _, rfl, ho, T.cl_Words, T.w_some, wf_some _ _, l, _, rfl, .inl (SqL.of hl), _, _, rfl, rfl, _, rfl, ?_⟩
    cases r with
    | nil =>
      rw [decide_eq_true (by simp)]
      exact iteT (kN rfl _ (SB.refl _ _))
    | cons x r =>
      rw [decide_eq_false (by simp; omega)]
      refine iteF ?_
      refine ⟨_, rfl, wd, _, dx, _, _, rfl, ho, T.cl_Words, T.w_place, wf_place _ _, _, _, rfl, rfl, _, rfl, wd, _, dx, _, rfl, ho, T.cl_Words, T.w_place, wf_len _ _, ?_⟩
      have nlw : l ≠ wd := ne_of hl ho (fun z => by cases z)
      refine ⟨_, rfl, wd, _, dx, _, _, rfl, upd_same, T.cl_Words, T.w_some, by rw [wf_put]; exact wf_some _ _, _, rfl, wd, _, dx, _, _, rfl, upd_same, T.cl_Words, T.w_place, by rw [wf_put]; exact wf_place _ _, _, _, rfl, rfl, ?_⟩
      refine ⟨l, _, _, .str x, rfl, rfl, SqL.of (by rw [upd_ne nlw]; exact hl), at_of (j := pre.length) (by omega) (by simp), ?_⟩
      refine kS [x] r _ _ rfl rfl ⟨x, rfl, rfl, sm x (by simp)⟩ ⟨⟨dx, ?_⟩, ?_, fun y hy => sm y (List.mem_cons_of_mem _ hy)⟩ (fun b o n e => by rw [upd_ne n]; exact e)
      · rw [upd_same, wf_put, List.length_append]
        rfl
      · rw [upd_ne nlw, hl, List.append_assoc]
        rfl

def ResNum : Hp → V → Ws → Prop := fun _ v cs => ∃ (n : Int) (x : Str), v = .int n ∧ cs = [x] ∧ numP x = some n
abbrev sp_number (T : Txt K mg w) : Sp := spEat T.aW T.aL noA (fun _ => numR) (fun _ => ResNum)
theorem cons_of {x : Str} {cs r r' : Ws} (h : r = cs ++ r') (hc : cs = [x]) : r = x :: r' := by rw [h, hc]; rfl
theorem sc_Words_number : FnScope ["self"] ["self"] (defScope (inClass (top 16) 2)) := ⟨rfl, rfl, rfl, by decide +kernel, rfl, by decide +kernel, by decide +kernel⟩
theorem ok_Words_number (T : Txt K mg w) : FnOk P w K mg base (L2.CX P w) 2 T.Words_number.f T.Words_number.fd ["self"] (sp_number T) := by
  refine T.Words_number.F.okX sc_Words_number (fun vs H Q E h => ?_) (fun cdv A outer s H vs Q E hr h => ?_)
  · obtain ⟨_, wd, l, pre, r, rfl, _⟩ := h
    rfl
  · obtain ⟨_, wd, l, pre, r, rfl, W, kS, kN⟩ := h
    refine ⟨_, (pss_one (ps_ret (pe_call (ok_number_of T) (hr.mono (by first | decide | omega)) rfl T.number_of.g T.number_of.F.kp T.number_of.b .nil passX (pa_cons (pe_meth0 (pv 0) T.cl_Words T.Words_word.m (ok_Words_word T) (hr.mono (by first | decide | omega)) T.Words_word.b .nil passX) pa_nil)))), ?_⟩
    obtain ⟨dx, ho⟩ := W.ob
    refine ⟨_, rfl, wd, dx, _, rfl, ho, wf_no _ _ (by decide +kernel) (by decide +kernel), ?_⟩
    refine ⟨(), wd, l, pre, r, rfl, W, fun cs r' v H' e hr hR hW hS => ?_, fun e H' hS => ?_⟩
    · obtain ⟨x, rfl, rfl, hx⟩ := hR
      subst hr
      refine ⟨x, rfl, hx, fun n hn => ?_, fun hn => ?_⟩
      · exact kS [x] r' _ _ (by simp [numR, numS, hn]) rfl ⟨n, x, rfl, rfl, hn⟩ hW hS
      · exact kN (by simp [numR, numS, hn]) _ hS
    · refine kN ?_ _ hS
      cases r with
      | nil => rfl
      | cons a r => cases e
def ResWithin : Int × Int → Hp → V → Ws → Prop := fun i _ v cs => ∃ (n : Int) (x : Str), v = .int n ∧ cs = [x] ∧ numP x = some n ∧ i.1 ≤ n ∧ n ≤ i.2
abbrev sp_within (T : Txt K mg w) : Sp := spEat T.aW T.aL (fun i : Int × Int => [.int i.1, .int i.2]) (fun i => withinR i.1 i.2) ResWithin
theorem sc_Words_within : FnScope ["self", "low", "high", "n"] ["self", "low", "high"] (defScope (inClass (top 16) 3)) := ⟨rfl, rfl, rfl, by decide +kernel, rfl, by decide +kernel, by decide +kernel⟩
theorem ok_Words_within (T : Txt K mg w) : FnOk P w K mg base (L2.CX P w) 3 T.Words_within.f T.Words_within.fd ["self", "low", "high"] (sp_within T) := by
  refine T.Words_within.F.okX sc_Words_within (fun vs H Q E h => ?_) (fun cdv A outer s H vs Q E hr h => ?_)
  · obtain ⟨_, wd, l, pre, r, rfl, _⟩ := h
    rfl
  · obtain ⟨⟨lo, hi⟩, wd, l, pre, r, rfl, W, kS, kN⟩ := h
    refine ⟨_, (pss_cons (ps_set (i := 3) sc_Words_within.nd rfl (Or.inl rfl) (pe_meth0 (pv 0) T.cl_Words T.Words_number.m (ok_Words_number T) (hr.mono (by first | decide | omega)) T.Words_number.b .nil passX))
      (pss_cons (ps_if (PW.pt (pw_or (pt_cmpR op_lt (pv 3) (pv 1) (nomark _)) (pw_or1 (pt_cmpR op_gt (pv 3) (pv 2) (nomark _))))) (pss_one (ps_raise rfl (takes_of rfl rfl rfl rfl) (pmk_own PySem.F.excBase_ValueError T.xL T.g_Lost T.kL (raises_own T.bL T.tL) (by exact rfl)))) pss_nil)
      (pss_one (ps_ret (pv 3))))), ?_⟩
    obtain ⟨dx, ho⟩ := W.ob
    refine ⟨_, rfl, wd, dx, _, rfl, ho, wf_no _ _ (by decide +kernel) (by decide +kernel), ?_⟩
    refine ⟨(), wd, l, pre, r, rfl, W, fun cs r' v H' e hr hR hW hS => ?_, fun e H' hS => ?_⟩
    · obtain ⟨n, x, rfl, rfl, hn⟩ := hR
      subst hr
      walk_at "g"
      refine ite2 (fun h => ?_) (fun h => ?_)
      · have h1 : n < lo := of_decide_eq_true h
        exact kN (by simp [withinR, withinS, numS, hn, h1]) _ hS
      have h1 : ¬ n < lo := of_decide_eq_false (by simpa using h)
      walk_at "g"
      refine ite2 (fun h => ?_) (fun h => ?_)
      · have h2 : hi < n := of_decide_eq_true h
        exact kN (by simp [withinR, withinS, numS, hn, h2]) _ hS
      have h2 : ¬ hi < n := of_decide_eq_false (by simpa using h)
      refine ⟨_, rfl, kS [x] r' _ _ ?_ rfl ⟨n, x, rfl, rfl, hn, by omega, by omega⟩ hW hS⟩
      have : ¬ (n < lo ∨ n > hi) := by omega
      simp [withinR, withinS, numS, hn, this]
    · refine kN ?_ _ hS
      have e' : numS r = none := by
        cases q : numS r with
        | none => rfl
        | some p => simp [numR, q] at e
      simp [withinR, withinS, e']
abbrev sp_name (T : Txt K mg w) : Sp := spEat T.aW T.aL noA (fun _ => nameP) (fun _ _ v cs => ∃ x : Str, v = .str x ∧ cs = [x] ∧ isNm x = true)
theorem sc_Words_name : FnScope ["self", "word"] ["self"] (defScope (inClass (top 16) 4)) := ⟨rfl, rfl, rfl, by decide +kernel, rfl, by decide +kernel, by decide +kernel⟩
theorem ok_Words_name (T : Txt K mg w) : FnOk P w K mg base (L2.CX P w) 2 T.Words_name.f T.Words_name.fd ["self"] (sp_name T) := by
  refine T.Words_name.F.okX sc_Words_name (fun vs H Q E h => ?_) (fun cdv A outer s H vs Q E hr h => ?_)
  · obtain ⟨_, wd, l, pre, r, rfl, _⟩ := h
    rfl
  · obtain ⟨_, wd, l, pre, r, rfl, W, kS, kN⟩ := h
    refine ⟨_, (pss_cons (ps_set (i := 1) sc_Words_name.nd rfl (Or.inl rfl) (pe_meth0 (pv 0) T.cl_Words T.Words_word.m (ok_Words_word T) (hr.mono (by first | decide | omega)) T.Words_word.b .nil passX))
      (pss_cons (ps_if (pt_not (pt_val (pe_call (ok_is_name T) (hr.mono (by first | decide | omega)) rfl T.is_name.g T.is_name.F.kp T.is_name.b .nil pass0 (pa_cons (pv 1) pa_nil)))) (pss_one (ps_raise rfl (takes_of rfl rfl rfl rfl) (pmk_own PySem.F.excBase_ValueError T.xL T.g_Lost T.kL (raises_own T.bL T.tL) (by exact rfl)))) pss_nil)
      (pss_one (ps_ret (pv 1))))), ?_⟩
    obtain ⟨dx, ho⟩ := W.ob
    refine ⟨_, rfl, wd, dx, _, rfl, ho, wf_no _ _ (by decide +kernel) (by decide +kernel), ?_⟩
    refine ⟨(), wd, l, pre, r, rfl, W, fun cs r' v H' e hr hR hW hS => ?_, fun e H' hS => ?_⟩
    · obtain ⟨x, rfl, rfl, hx⟩ := hR
      subst hr
      refine ⟨_, rfl, x, rfl, hx, _, rfl, ?_⟩
      cases hb : isNm x with
      | false => exact iteT (kN (by simp [nameP, hb]) _ hS)
      | true => exact iteF ⟨_, rfl, kS [x] r' _ _ (by simp [nameP, hb]) rfl ⟨x, rfl, rfl, hb⟩ hW hS⟩
    · refine kN ?_ _ hS
      cases r with
      | nil => rfl
      | cons a r => cases e
abbrev sp_must_be (T : Txt K mg w) : Sp := spEat T.aW T.aL (fun due : Str => [.str due]) mustP (fun due _ v cs => v = .non ∧ cs = [due])
theorem sc_Words_must_be : FnScope ["self", "due"] ["self", "due"] (defScope (inClass (top 16) 5)) := ⟨rfl, rfl, rfl, by decide +kernel, rfl, by decide +kernel, by decide +kernel⟩
theorem ok_Words_must_be (T : Txt K mg w) : FnOk P w K mg base (L2.CX P w) 2 T.Words_must_be.f T.Words_must_be.fd ["self", "due"] (sp_must_be T) := by
  refine T.Words_must_be.F.okX sc_Words_must_be (fun vs H Q E h => ?_) (fun cdv A outer s H vs Q E hr h => ?_)
  · obtain ⟨_, wd, l, pre, r, rfl, _⟩ := h
    rfl
  · obtain ⟨due, wd, l, pre, r, rfl, W, kS, kN⟩ := h
    refine ⟨_, (pss_one (ps_if (pt_cmpR op_ne (pe_meth0 (pv 0) T.cl_Words T.Words_word.m (ok_Words_word T) (hr.mono (by first | decide | omega)) T.Words_word.b .nil passX) (pv 1) (nomark _)) (pss_one (ps_raise rfl (takes_of rfl rfl rfl rfl) (pmk_own PySem.F.excBase_ValueError T.xL T.g_Lost T.kL (raises_own T.bL T.tL) (by exact rfl)))) pss_nil)), ?_⟩
    obtain ⟨dx, ho⟩ := W.ob
    refine ⟨_, rfl, wd, dx, _, rfl, ho, wf_no _ _ (by decide +kernel) (by decide +kernel), ?_⟩
    refine ⟨(), wd, l, pre, r, rfl, W, fun cs r' v H' e hr hR hW hS => ?_, fun e H' hS => ?_⟩
    · obtain ⟨x, rfl, rfl, hx⟩ := hR
      subst hr
      refine ⟨_, rfl, rfl, _, rfl, ?_⟩
      by_cases h : x = due
      · rw [h, decide_eq_true rfl]
        subst h
        exact iteF (kS [x] r' _ _ (by simp [mustP]) rfl ⟨rfl, rfl⟩ hW hS)
      · rw [decide_eq_false (fun z => h (V.str.inj z))]
        exact iteT (kN (by simp [mustP, h]) _ hS)
    · refine kN ?_ _ hS
      cases r with
      | nil => rfl
      | cons a r => cases e
abbrev sp_ended (T : Txt K mg w) : Sp := spEat T.aW T.aL noA (fun _ => endedP) (fun _ _ v cs => v = .non ∧ cs = [])
theorem sc_Words_ended : FnScope ["self"] ["self"] (defScope (inClass (top 16) 6)) := ⟨rfl, rfl, rfl, by decide +kernel, rfl, by decide +kernel, by decide +kernel⟩
theorem ok_Words_ended (T : Txt K mg w) : FnOk P w K mg base (L2.CX P w) 1 T.Words_ended.f T.Words_ended.fd ["self"] (sp_ended T) := by
  refine T.Words_ended.F.okX sc_Words_ended (fun vs H Q E h => ?_) (fun cdv A outer s H vs Q E hr h => ?_)
  · obtain ⟨_, wd, l, pre, r, rfl, _⟩ := h
    rfl
  · obtain ⟨_, wd, l, pre, r, rfl, W, kS, kN⟩ := h
    refine ⟨_, (pss_one (ps_if (pt_cmpR op_ne (pe_fld (pv 0) rfl) (pe_callB call_len_seq (by rfl) T.n_len (by decide +kernel) (pa_cons (pe_fld (pv 0) rfl) pa_nil)) (nomark _)) (pss_one (ps_raise rfl (takes_of rfl rfl rfl rfl) (pmk_own PySem.F.excBase_ValueError T.xL T.g_Lost T.kL (raises_own T.bL T.tL) (by exact rfl)))) pss_nil)), ?_⟩
    obtain ⟨⟨dx, ho⟩, hl, sm⟩ := id W
    refine ⟨_, rfl, wd, _, dx, _, _, rfl, ho, T.cl_Words, T.w_place, wf_place _ _, ?_⟩
    refine ⟨_, rfl, wd, _, dx, _, _, rfl, ho, T.cl_Words, T.w_some, wf_some _ _, l, _, rfl, .inl (SqL.of hl), rfl, _, rfl, ?_⟩
    cases r with
    | nil =>
      rw [decide_eq_true (by simp)]
      exact iteF (kS [] [] _ _ rfl rfl ⟨rfl, rfl⟩ W.nil (SB.refl _ _))
    | cons x r =>
      rw [decide_eq_false (by intro z; injection z with z; simp at z; omega)]
      exact iteT (kN rfl _ (SB.refl _ _))
end
end BD
/-! W3: terms read. -/
namespace BD
open PySem PySem.Spec L2 TL
open PyProof.Rows hiding St
local macro_rules | `(tactic| walk_at "g") => `(tactic| repeat (first | refine ⟨_, rfl, ?_⟩ | refine ⟨_, _, rfl, rfl, ?_⟩ | refine ⟨rfl, ?_⟩))

/-! ### side by side -/
theorem All2.imp {α β : Type} {R S : α → β → Prop} {l : List α} {m : List β} (h : All2 R l m) (f : ∀ a b, R a b → S a b) : All2 S l m := Paired.mapP h f
theorem All2.len {α β : Type} {R : α → β → Prop} {l : List α} {m : List β} (h : All2 R l m) : l.length = m.length := Paired.length h
theorem All2.snoc {α β : Type} {R : α → β → Prop} : ∀ {l : List α} {m : List β} {a : α} {b : β}, All2 R l m → R a b → All2 R (l ++ [a]) (m ++ [b])
  | [], _, a, b, .nil, r => .cons r .nil
  | x :: l, _, a, b, .cons r1 r2, r => .cons r1 (All2.snoc (l := l) r2 r)
theorem flat_snoc {α : Type} (l : List (List α)) (x : List α) : (l ++ [x]).flatten = l.flatten ++ x := by simp

/-! ### a value that stands for words: a term, at most d deep -/
def TermAt : Nat → Hp → V → Ws → Prop
  | 0 => fun _ _ _ => False
  | d + 1 => fun H v ws => ∃ a, v = .ref a ∧
    ((∃ n x, H a = some (.tup [.str "num", .int n]) ∧ numP x = some n ∧ ws = [x]) ∨
     (∃ n x, H a = some (.tup [.str "field", .int n]) ∧ numP x = some n ∧ ws = [(("." : Str)), x]) ∨
     (∃ x q : Str, H a = some (.tup [.str "name", .str x]) ∧ ws = [q] ∧ ((arity x = none ∧ q = x) ∨ ((arity x).isSome = true ∧ tl q = 39 :: tl x))) ∨
     (∃ (op : Str) (vs : List V) (wss : List Ws), H a = some (.tup (.str op :: vs)) ∧ arity op = some vs.length ∧ ws = op :: wss.flatten ∧ All2 (fun v ws => TermAt d H v ws) vs wss))
theorem TermAt.mono : ∀ (d : Nat) {H H' : Hp} {v : V} {ws : Ws}, Tups H H' → TermAt d H v ws → TermAt d H' v ws
  | 0, _, _, _, _, _, h => h
  | d + 1, H, H', v, ws, t, ⟨a, e, h⟩ => by
    refine ⟨a, e, ?_⟩
    rcases h with ⟨n, x, h1, h2⟩ | ⟨n, x, h1, h2⟩ | ⟨x, q, h1, h2⟩ | ⟨op, vs, wss, h1, h2, h3, h4⟩
    · exact .inl ⟨n, x, t _ _ h1, h2⟩
    · exact .inr (.inl ⟨n, x, t _ _ h1, h2⟩)
    · exact .inr (.inr (.inl ⟨x, q, t _ _ h1, h2⟩))
    · exact .inr (.inr (.inr ⟨op, vs, wss, t _ _ h1, h2, h3, h4.imp fun a b h => TermAt.mono d t h⟩))

theorem tups_upd_lst {H : Hp} {D : Addr} {xs ys : List V} (h : H D = some (.lst xs)) : Tups H (upd H D (.lst ys)) := fun a zs e => by
  rw [upd_ne (fun z => by rw [z, h] at e; cases e)]
  exact e
theorem tups_laid {H : Hp} {p : Addr} {o : HO} (n : H p = none) : Tups H (upd H p o) := Same.tups (Same.laid n)
theorem WA.lst_upd {C : Addr} {H : Hp} {wd l D : Addr} {pre r : Ws} {xs : List V} (h : WA C H wd l pre r) (hl : l ≠ D) (hw : wd ≠ D) : WA C (upd H D (.lst xs)) wd l pre r :=
  ⟨let ⟨dx, e⟩ := h.ob; ⟨dx, by rw [upd_ne hw]; exact e⟩, by rw [upd_ne hl]; exact h.ls, h.sm⟩

theorem times_add (f : Ws → Option Ws) : ∀ (i n : Nat) (r : Ws), times f (i + n) r = match times f i r with
    | none => none
    | some r' => times f n r'
  | 0, n, r => by rw [Nat.zero_add]; rfl
  | i + 1, n, r => by
    rw [show i + 1 + n = (i + n) + 1 by omega]
    cases q : f r with
    | none => simp only [times, q]
    | some r1 =>
      simp only [times, q]
      exact times_add f i n r1
theorem times_one (f : Ws → Option Ws) (r : Ws) : times f 1 r = f r := by
  cases q : f r <;> simp [times, q]

/-- [f(words) for k in range(n)]: eaten n times -/
theorem lc_eat {n i0 : Nat} {te : TE} {σ : L2.St} {H : Hp} {D : Addr} {Qd : Hp → Prop} {C cL wd l : Addr} {pre r : Ws} {rec : Ws → Option Ws} {Res : Hp → V → Ws → Prop} {E : XK}
    (hmono : ∀ H H' v cs, Tups H H' → Res H v cs → Res H' v cs) (hD : H D = none) (W0 : WA C H wd l pre r) (hn : n ≤ 1000) (hw : ∀ v, wipe ((wipe σ [i0]).set i0 v) [i0] = wipe σ [i0])
    (hte : ∀ (j : Int) (H1 : Hp) (pre1 r1 : Ws) (Q1 : VK), WA C H1 wd l pre1 r1 → SB wd H H1 →
      (∀ cs r' v H', rec r1 = some r' → r1 = cs ++ r' → Res H' v cs → WA C H' wd l (pre1 ++ cs) r' → SB wd H1 H' → Q1 v H') →
      (rec r1 = none → ∀ H', SB wd H1 H' → E (.ref cL) none H') → te ((wipe σ [i0]).set i0 (some (.int j))) H1 Q1)
    (hfail : times rec n r = none → ∀ H', SB wd H H' → E (.ref cL) none H')
    (hdone : ∀ H' vs wss r', times rec n r = some r' → r = wss.flatten ++ r' → All2 (Res H') vs wss → vs.length = n → WA C H' wd l (pre ++ wss.flatten) r' → SB wd H H' → H' D = some (.lst vs) → Qd H') :
    ∃ W : Nat → Nat → Hp → Prop, (∃ m, W 0 m (upd H D (.lst []))) ∧ ∀ i m H, W i m H →
      ((Itr 0 n).stop i H ∧ Qd H) ∨ ((Itr 0 n).go i H ∧ ∃ Nx : Hp → Prop, (∀ H', Nx H' → ∃ m', m' < m ∧ W (i + 1) m' H') ∧ ∀ x H', (Itr 0 n).yld i H x H' → gName i0 x (wipe σ [i0]) H' fun σ2 H2 => wipe σ2 [i0] = wipe σ [i0] ∧ tYes σ2 H2 fun b H3 =>
        if b = true then te σ2 H3 fun y H4 => ∃ acc, H4 D = some (.lst acc) ∧ acc.length < sizeLine ∧ Nx (upd H4 D (.lst (acc ++ [y]))) else Nx H3) := by
  have lD : l ≠ D := fun z => by have := W0.ls; rw [z, hD] at this; cases this
  have wD : wd ≠ D := fun z => by obtain ⟨dx, e⟩ := W0.ob; rw [z, hD] at e; cases e
  refine lc_range (lo := 0) (n := n) (Qd := Qd) (fun i H' => ∃ (vs : List V) (wss : List Ws) (r' : Ws), times rec i r = some r' ∧ r = wss.flatten ++ r' ∧ All2 (Res H') vs wss ∧ vs.length = i ∧ WA C H' wd l (pre ++ wss.flatten) r' ∧ SB wd H H' ∧ H' D = some (.lst vs)) ?_ ?_ ?_
  · exact ⟨[], [], r, rfl, rfl, .nil, rfl, (W0.same (Same.laid hD)).nil, SB.of_same (Same.laid hD), upd_same⟩
  · rintro i H1 hi ⟨vs, wss, r1, h1, h2, h3, h4, h5, h6, h7⟩
    refine ⟨hw _, ?_⟩
    simp only [tYes, if_true]
    have et : ∀ m, times rec (i + m) r = times rec m r1 := fun m => by rw [times_add, h1]
    refine hte _ H1 _ r1 _ h5 h6 (fun cs r' v H' e hr hR hW hS => ?_) (fun e H' hS => ?_)
    · have hd' : H' D = some (.lst vs) := hS D _ (Ne.symm wD) h7
      have tu : Tups H1 H' := hS.tups h5.ntup
      have tv := tups_upd_lst (ys := vs ++ [v]) hd'
      refine ⟨vs, hd', by rw [h4]; exact small1000 (by omega), vs ++ [v], wss ++ [cs], r', ?_, ?_, ?_, by simp [h4], ?_, ?_, upd_same⟩
      · rw [et 1, times_one, e]
      · rw [flat_snoc, h2, hr, List.append_assoc]
      · exact (h3.imp fun a b h => hmono _ _ _ _ (tu.trans tv) h).snoc (hmono _ _ _ _ tv hR)
      · rw [flat_snoc, ← List.append_assoc]
        exact hW.lst_upd lD wD
      · intro b o nb e
        rw [upd_ne (ne_of_none e hD)]
        exact hS b o nb (h6 b o nb e)
    · refine hfail ?_ H' (h6.trans hS)
      have e1 : n = i + (1 + (n - i - 1)) := by omega
      rw [e1, et, times_add, times_one, e]
  · rintro H1 ⟨vs, wss, r1, h1, h2, h3, h4, h5, h6, h7⟩
    exact hdone H1 vs wss r1 h1 h2 h3 h4 h5 h6 h7

theorem arity_pos {x : Str} {k : Nat} (h : arity x = some k) : 1 ≤ k ∧ k ≤ 3 := by
  unfold arity at h
  repeat (split at h; · cases h; decide)
  cases h
theorem arity_dot {x : Str} {k : Nat} (h : arity x = some k) : x ≠ "." := fun e => by
  rw [e] at h
  have : arity "." = none := by decide +kernel
  rw [this] at h
  cases h
theorem WA.cat {C : Addr} {H : Hp} {wd l : Addr} {pre a b r : Ws} (h : WA C H wd l (pre ++ a ++ b) r) : WA C H wd l (pre ++ (a ++ b)) r := by rw [← List.append_assoc]; exact h
theorem WA.laid {C : Addr} {H : Hp} {wd l p : Addr} {o : HO} {pre r : Ws} (h : WA C H wd l pre r) (n : H p = none) : WA C (upd H p o) wd l pre r := h.same (Same.laid n)
theorem SB.laid {wd : Addr} {H H1 : Hp} {p : Addr} {o : HO} (h : SB wd H H1) (n : H1 p = none) : SB wd H (upd H1 p o) := h.trans (SB.of_same (Same.laid n))
theorem sz1 : (1 : Nat) ≤ sizeLine := sz1000 (by decide)
theorem sz2 : (2 : Nat) ≤ sizeLine := sz1000 (by decide)
theorem sz3 : (3 : Nat) ≤ sizeLine := sz1000 (by decide)
theorem sz4 : (4 : Nat) ≤ sizeLine := sz1000 (by decide)
theorem sz5 : (5 : Nat) ≤ sizeLine := sz1000 (by decide)
theorem sz8 : (8 : Nat) ≤ sizeLine := sz1000 (by decide)
theorem tl_quote : tl (("'" : Str)) = [39] := by decide +kernel
theorem tail_eq (x : Str) : cutS x (some 1) none = tailW x := ext_tl (tl_cut2 x)
theorem take1_of {l : List Nat} {a : Nat} (h : l.take 1 = [a]) : l = a :: l.drop 1 := by
  cases l with
  | nil => cases h
  | cons b r =>
    have : b = a := by simpa using h
    rw [this]
    rfl
section
variable {P : Program} {w : World} {K : PySem.W.Frag} {mg : Str → Option Value} {base : Heap}
abbrev sp_term (T : Txt K mg w) (d : Nat) : Sp := spEat T.aW T.aL (fun _ : Unit => [.int d]) (fun _ => termP d) (fun _ => TermAt d)
theorem sc_term_from : FnScope ["words", "deep", "word", "n", "k"] ["words", "deep"] (defScope (top 17)) := ⟨rfl, rfl, rfl, by decide +kernel, rfl, by decide +kernel, by decide +kernel⟩
theorem ok_term_d (T : Txt K mg w) : ∀ d : Nat, FnOk P w K mg base (L2.CX P w) (d + 3) T.term_from.f T.term_from.fd ["words", "deep"] (sp_term T d)
  | 0 => by
    refine T.term_from.F.okX sc_term_from (fun vs H Q E h => ?_) (fun cdv A outer s H vs Q E hr h => ?_)
    · obtain ⟨_, wd, l, pre, r, rfl, _⟩ := h
      rfl
    · obtain ⟨_, wd, l, pre, r, rfl, W, kS, kN⟩ := h
      refine ⟨tSeq (tIfS (tTest (tOp rEq (tVar 1) (tC (.int 0)))) (fun _ σ H => E (.ref T.aL) none H) tNext) tNever, pss_cons (ps_if (pt_cmpR op_eq (pv 1) pe_int (nomark _)) (pss_one (ps_raise rfl (takes_of rfl rfl rfl rfl) (pmk_own PySem.F.excBase_ValueError T.xL T.g_Lost T.kL (raises_own T.bL T.tL) (by exact rfl)))) pss_nil) pss_never, ?_⟩
      exact ⟨_, rfl, rfl, _, rfl, iteT (kN rfl _ (SB.refl _ _))⟩
  | d + 1 => by
    have ih := ok_term_d T d
    refine T.term_from.F.okX sc_term_from (fun vs H Q E h => ?_) (fun cdv A outer s H vs Q E hr h => ?_)
    · obtain ⟨_, wd, l, pre, r, rfl, _⟩ := h
      rfl
    · obtain ⟨_, wd, l, pre, r, rfl, W, kS, kN⟩ := h
      refine ⟨_, (pss_cons (ps_if (pt_cmpR op_eq (pv 1) pe_int (nomark _)) (pss_one (ps_raise rfl (takes_of rfl rfl rfl rfl) (pmk_own PySem.F.excBase_ValueError T.xL T.g_Lost T.kL (raises_own T.bL T.tL) (by exact rfl)))) pss_nil)
      (pss_cons (ps_set (i := 2) sc_term_from.nd rfl (Or.inl rfl) (pe_meth0 (pv 0) T.cl_Words T.Words_word.m (ok_Words_word T) (hr.mono (by first | decide | omega)) T.Words_word.b .nil passX))
      (pss_cons (ps_if (pt_cmpR op_eq (pv 2) pe_str (nomark _)) (pss_cons (ps_set (i := 3) sc_term_from.nd rfl (Or.inl rfl) (pe_meth0 (pv 0) T.cl_Words T.Words_number.m (ok_Words_number T) (hr.mono (by first | decide | omega)) T.Words_number.b .nil passX))
      (pss_cons (ps_if (pt_cmpR op_lt (pv 3) pe_int (nomark _)) (pss_one (ps_raise rfl (takes_of rfl rfl rfl rfl) (pmk_own PySem.F.excBase_ValueError T.xL T.g_Lost T.kL (raises_own T.bL T.tL) (by exact rfl)))) pss_nil)
      (pss_one (ps_ret (pe_tup (pa_cons pe_str (pa_cons (pv 3) pa_nil))))))) pss_nil)
      (pss_cons (ps_if (pt_cmpR (op_in_kd T.pt.kd) (pv 2) (pe_cst rfl T.c_PARTS) rfl) (pss_one (ps_ret (pe_op op_catT (pe_tup (pa_cons (pv 2) pa_nil)) (pe_callTy call_tuple_of (by rfl) T.n_tuple (by decide +kernel) (pa_cons (pe_lcX (own := [("k", 4)]) (g := gName 4) rfl sc_term_from.nd rfl rfl (takes_of rfl rfl rfl rfl) (pi_range1 rfl T.n_range (pa_cons (pe_ix ix_kdict (pe_cst rfl T.c_PARTS) (pv 2) (fun _ _ => rfl)) pa_nil)) (blkOk_by (own := [("k", 4)]) (N := ["words", "deep", "word", "n", "k"]) (sc := defScope (top 17)) (by decide +kernel)) (fun _ _ _ _ _ _ => pg_name (i := 4) sc_term_from.nd rfl (Or.inl rfl)) (fun _ _ _ _ _ _ ps => (pe_call (ih) (hr.mono (by first | decide | omega)) rfl T.term_from.g T.term_from.F.kp T.term_from.b .nil ps (pa_cons (pv 0) (pa_cons (pe_op op_sub (pv 1) pe_int) pa_nil))))) pa_nil))))) pss_nil)
      (pss_cons (ps_if (pt_cmpR op_eq (pe_slice sl_str (pv 2) po_none (po_some pe_int)) pe_str (nomark _)) (pss_cons (ps_if (pt_cmpR (op_notIn_kd T.pt.kd) (pe_slice sl_str (pv 2) (po_some pe_int) po_none) (pe_cst rfl T.c_PARTS) rfl) (pss_one (ps_raise rfl (takes_of rfl rfl rfl rfl) (pmk_own PySem.F.excBase_ValueError T.xL T.g_Lost T.kL (raises_own T.bL T.tL) (by exact rfl)))) pss_nil)
      (pss_one (ps_ret (pe_tup (pa_cons pe_str (pa_cons (pe_slice sl_str (pv 2) (po_some pe_int) po_none) pa_nil)))))) pss_nil)
      (pss_cons (ps_if (pt_val (pe_call (ok_is_name T) (hr.mono (by first | decide | omega)) rfl T.is_name.g T.is_name.F.kp T.is_name.b .nil pass0 (pa_cons (pv 2) pa_nil))) (pss_one (ps_ret (pe_tup (pa_cons pe_str (pa_cons (pv 2) pa_nil))))) pss_nil)
      (pss_one (ps_ret (pe_tup (pa_cons pe_str (pa_cons (pe_call (ok_number_of T) (hr.mono (by first | decide | omega)) rfl T.number_of.g T.number_of.F.kp T.number_of.b .nil passX (pa_cons (pv 2) pa_nil)) pa_nil))))))))))), ?_⟩
      refine ⟨_, rfl, rfl, _, rfl, ?_⟩
      rw [decide_eq_false (by intro z; injection z with z; omega)]
      refine iteF ?_
      obtain ⟨dx, ho⟩ := W.ob
      refine ⟨_, rfl, wd, dx, _, rfl, ho, wf_no _ _ (by decide +kernel) (by decide +kernel), ?_⟩
      refine ⟨(), wd, l, pre, r, rfl, W, fun cs r1 v H1 e hr1 hR W1 S1 => ?_, fun e H' hS => kN ?_ _ hS⟩
      case refine_2 =>
        cases r with
        | nil => rfl
        | cons a r => cases e
      obtain ⟨x, rfl, rfl, hx⟩ := hR
      subst hr1
      refine ⟨_, rfl, rfl, _, rfl, ?_⟩
      by_cases hdot : x = "."
      · rw [decide_eq_true (by rw [hdot])]
        refine iteT ?_
        obtain ⟨dx1, ho1⟩ := W1.ob
        refine ⟨_, rfl, wd, dx1, _, rfl, ho1, wf_no _ _ (by decide +kernel) (by decide +kernel), ?_⟩
        refine ⟨(), wd, l, _, r1, rfl, W1, fun cs2 r2 v2 H2 e2 hr2 hR2 W2 S2 => ?_, fun e2 H' hS => kN ?_ _ (S1.trans hS)⟩
        · obtain ⟨n, y, rfl, rfl, hy⟩ := hR2
          subst hr2
          walk_at "g"
          refine ite2 (fun h => ?_) (fun h => ?_)
          · have h1 : n < 0 := of_decide_eq_true h
            refine kN ?_ _ (S1.trans S2)
            show termP (d + 1) (x :: y :: r2) = none
            simp only [termP, if_pos hdot, fieldP, numS, hy]
            rw [if_pos h1]
          · have h1 : ¬ n < 0 := of_decide_eq_false (by simpa using h)
            refine ⟨_, rfl, sz2, fun p hp => ?_⟩
            refine kS ([x] ++ [y]) r2 _ _ ?_ (by rw [List.append_assoc]) ⟨p, rfl, .inr (.inl ⟨n, y, upd_same, hy, by rw [hdot]; rfl⟩)⟩ (W2.cat.laid hp) ((S1.trans S2).laid hp)
            show termP (d + 1) (x :: y :: r2) = some r2
            simp only [termP, if_pos hdot, fieldP, numS, hy]
            rw [if_neg h1]
        · show termP (d + 1) (x :: r1) = none
          have e3 : numS r1 = none := by
            cases q : numS r1 with
            | none => rfl
            | some p => simp [numR, q] at e2
          simp only [termP, if_pos hdot, fieldP, e3]
      rw [decide_eq_false (fun z => hdot (V.str.inj z))]
      refine iteF ?_
      cases ha : arity x with
      | some k =>
        have hk := arity_pos ha
        have hT : ∀ r', termP (d + 1) (x :: r') = times (termP d) k r' := fun r' => by simp only [termP, if_neg hdot, ha]
        obtain ⟨u, hu, ru⟩ := T.pt.yes x k ha
        refine ⟨_, rfl, x, some u, rfl, rfl, hu, _, rfl, iteT ?_⟩
        refine ⟨_, rfl, sz1, fun p hp => ?_⟩
        refine ⟨_, rfl, _, _, .int k, rfl, rfl, ⟨T.pes, T.pn, u, T.pt.kd.at_, T.pt.kd.lit, hu, ru⟩, _, rfl, by omega, by omega, fun D hD => ?_⟩
        refine lc_eat (n := k) (cL := T.aL) (E := E) (rec := termP d) (Res := TermAt d) (fun _ _ _ _ t h => TermAt.mono d t h) hD (W1.laid hp) (by omega) ?_ (fun j H2 pre1 r2 Q1 Wk Sk k1 k2 => ?_) (fun e H' hS => kN ((hT _).trans e) H' ((S1.laid hp).trans hS)) (fun H' vs wss r' e hr h3 hlen W3 S3 hD3 => ?_)
        · exact fun v => rfl
        · refine ⟨_, rfl, _, rfl, _, _, rfl, rfl, (), wd, l, pre1, r2, ?_, Wk, k1, k2⟩
          show [V.ref wd, V.int (((d + 1 : Nat) : Int) - 1)] = [V.ref wd, V.int d]
          rw [show ((d + 1 : Nat) : Int) - 1 = d by omega]
        · refine ⟨D, vs, rfl, .inl ⟨SqL.of hD3, fun t ht => ?_⟩⟩
          have hpw : p ≠ wd := fun z => by
            obtain ⟨dx1, ho1⟩ := W1.ob
            rw [z, ho1] at hp
            cases hp
          have hp3 : H' p = some (.tup [.str x]) := S3 p _ hpw upd_same
          refine ⟨p, t, [.str x], vs, rfl, rfl, SqT.of (by rw [upd_ne (ne_of_none hp3 ht)]; exact hp3), SqT.of upd_same, by simp, by rw [hlen]; exact sz1000 (by show 1 + k ≤ 1000; omega), fun z => ?_, fun _ q hq => ?_⟩
          · rw [z] at hlen
            simp at hlen
            omega
          · have tu : Tups H' (upd (upd H' t (.tup vs)) q (.tup ([.str x] ++ vs))) := (tups_laid ht).trans (tups_laid hq)
            refine kS ([x] ++ wss.flatten) r' _ _ ((hT _).trans e) (by rw [hr, List.append_assoc]) ⟨q, rfl, .inr (.inr (.inr ⟨x, vs, wss, upd_same, by rw [ha, hlen], rfl, h3.imp fun a b h => TermAt.mono d tu h⟩))⟩ ((W3.laid ht).laid hq).cat ((((S1.laid hp).trans S3).laid ht).laid hq)
      | none =>
        have hT : ∀ r', termP (d + 1) (x :: r') = leafP x r' := fun r' => by simp only [termP, if_neg hdot, ha]
        refine ⟨_, rfl, x, none, rfl, rfl, T.pt.no x ha, _, rfl, iteF ?_⟩
        refine ⟨_, rfl, _, rfl, x, rfl, hx, rfl, _, rfl, ?_⟩
        rw [dec_str_tl, tl_cut1, tl_quote]
        by_cases hq : (tl x).take 1 = [39]
        · rw [decide_eq_true hq]
          refine iteT ?_
          refine ⟨_, rfl, _, rfl, x, rfl, hx, ?_⟩
          rw [tail_eq]
          cases ht : arity (tailW x) with
          | none =>
            refine ⟨_, none, rfl, rfl, T.pt.no _ ht, _, rfl, iteT (kN ?_ _ S1)⟩
            refine (hT _).trans ?_
            simp [leafP, hq, ht]
          | some k =>
            obtain ⟨u, hu, ru⟩ := T.pt.yes _ k ht
            refine ⟨_, some u, rfl, rfl, hu, _, rfl, iteF ?_⟩
            refine ⟨_, rfl, _, rfl, x, rfl, hx, sz2, fun p hp => ?_⟩
            rw [tail_eq] at *
            refine kS [x] r1 _ _ ((hT _).trans ?_) rfl ⟨p, rfl, .inr (.inr (.inl ⟨tailW x, x, upd_same, rfl, .inr ⟨by rw [ht]; rfl, take1_of hq⟩⟩))⟩ (W1.laid hp) (S1.laid hp)
            simp [leafP, hq, ht]
        · rw [decide_eq_false hq]
          refine iteF ?_
          refine ⟨_, rfl, x, rfl, hx, _, rfl, ?_⟩
          cases hn : isNm x with
          | true =>
            refine iteT ⟨_, rfl, sz2, fun p hp => ?_⟩
            refine kS [x] r1 _ _ ((hT _).trans ?_) rfl ⟨p, rfl, .inr (.inr (.inl ⟨x, x, upd_same, rfl, .inl ⟨ha, rfl⟩⟩))⟩ (W1.laid hp) (S1.laid hp)
            simp [leafP, hq, hn]
          | false =>
            refine iteF ⟨_, rfl, x, rfl, hx, fun n hv => ⟨sz2, fun p hp => ?_⟩, fun hv => kN ((hT _).trans ?_) _ S1⟩
            · refine kS [x] r1 _ _ ((hT _).trans ?_) rfl ⟨p, rfl, .inl ⟨n, x, upd_same, hv, rfl⟩⟩ (W1.laid hp) (S1.laid hp)
              simp [leafP, hq, hn, hv]
            · simp [leafP, hq, hn, hv]
theorem ok_term_from (T : Txt K mg w) : FnOk P w K mg base (L2.CX P w) 17 T.term_from.f T.term_from.fd ["words", "deep"] (sp_term T 14) := ok_term_d T 14
end
end BD
/-! W4: measures, lists, pairs, views read. -/
namespace BD
open PySem PySem.Spec L2 TL
open PyProof.Rows hiding St
local macro_rules | `(tactic| walk_at "g") => `(tactic| repeat (first | refine ⟨_, rfl, ?_⟩ | refine ⟨_, _, rfl, rfl, ?_⟩ | refine ⟨rfl, ?_⟩))

theorem no_word (l : Addr) (k : Int) : (wf l k).lookup ("word" : Str) = none := wf_no l k (by decide +kernel) (by decide +kernel)
theorem no_number (l : Addr) (k : Int) : (wf l k).lookup ("number" : Str) = none := wf_no l k (by decide +kernel) (by decide +kernel)
theorem no_within (l : Addr) (k : Int) : (wf l k).lookup ("within" : Str) = none := wf_no l k (by decide +kernel) (by decide +kernel)
theorem no_name (l : Addr) (k : Int) : (wf l k).lookup ("name" : Str) = none := wf_no l k (by decide +kernel) (by decide +kernel)
theorem no_must (l : Addr) (k : Int) : (wf l k).lookup ("must_be" : Str) = none := wf_no l k (by decide +kernel) (by decide +kernel)
theorem no_ended (l : Addr) (k : Int) : (wf l k).lookup ("ended" : Str) = none := wf_no l k (by decide +kernel) (by decide +kernel)
theorem wordP_none {r : Ws} (h : wordP r = none) : r = [] := by
  cases r with
  | nil => rfl
  | cons a r => cases h
theorem numR_none {r : Ws} (h : numR r = none) : numS r = none := by
  cases q : numS r with
  | none => rfl
  | some p => simp [numR, q] at h
theorem within_none {lo hi : Int} {r : Ws} (h : withinR lo hi r = none) : withinS lo hi r = none := by
  cases q : withinS lo hi r with
  | none => rfl
  | some p => simp [withinR, q] at h
theorem within_eq {lo hi n : Int} {x : Str} {r : Ws} (h : numP x = some n) (h1 : lo ≤ n) (h2 : n ≤ hi) : withinS lo hi (x :: r) = some (n, r) := by
  simp only [withinS, numS, h]
  rw [if_neg (by omega)]
theorem numR_eq {n : Int} {x : Str} {r : Ws} (h : numP x = some n) : numR (x :: r) = some r := by simp [numR, numS, h]
theorem times_some {f : Ws → Option Ws} {n : Nat} {r r1 : Ws} (h : f r = some r1) : times f (n + 1) r = times f n r1 := by simp only [times, h]
theorem times_none {f : Ws → Option Ws} {n : Nat} {r : Ws} (h : f r = none) : times f (n + 1) r = none := by simp only [times, h]
theorem thenP_some {f g : Ws → Option Ws} {r r1 : Ws} (h : f r = some r1) : thenP f g r = g r1 := by simp only [thenP, h]
theorem thenP_none {f g : Ws → Option Ws} {r : Ws} (h : f r = none) : thenP f g r = none := by simp only [thenP, h]
theorem dec_ne {x y : Str} (h : x ≠ y) : decide (V.str x = V.str y) = false := decide_eq_false fun z => h (V.str.inj z)
theorem dec_eq {x y : Str} (h : x = y) : decide (V.str x = V.str y) = true := decide_eq_true (by rw [h])

/-! ### values that stand for words -/
def MeasAt (H : Hp) (v : V) (ws : Ws) : Prop := ∃ a, v = .ref a ∧
  ((H a = some (.tup [.str "count"]) ∧ ws = [(("count" : Str))]) ∨
   (∃ t tw, H a = some (.tup [.str "kinds", t]) ∧ TermAt 14 H t tw ∧ ws = ("kinds" : Str) :: tw) ∨
   (∃ t tw lo hi x y, H a = some (.tup [.str "sum", t, .int lo, .int hi]) ∧ numP x = some lo ∧ numP y = some hi ∧ TermAt 14 H t tw ∧ ws = ("sum" : Str) :: x :: y :: tw))
theorem MeasAt.mono {H H' : Hp} {v : V} {ws : Ws} (t : Tups H H') (h : MeasAt H v ws) : MeasAt H' v ws := by
  obtain ⟨a, e, h⟩ := h
  refine ⟨a, e, ?_⟩
  rcases h with ⟨h1, h2⟩ | ⟨u, tw, h1, h2, h3⟩ | ⟨u, tw, lo, hi, x, y, h1, h2, h3, h4, h5⟩
  · exact .inl ⟨t _ _ h1, h2⟩
  · exact .inr (.inl ⟨u, tw, t _ _ h1, h2.mono _ t, h3⟩)
  · exact .inr (.inr ⟨u, tw, lo, hi, x, y, t _ _ h1, h2, h3, h4.mono _ t, h5⟩)
def ListAt (wide : Nat) (H : Hp) (v : V) (ws : Ws) : Prop := ∃ a vs wss, v = .ref a ∧ H a = some (.tup vs) ∧ vs.length = wide ∧ All2 (TermAt 14 H) vs wss ∧ ws = wss.flatten
theorem ListAt.mono {wide : Nat} {H H' : Hp} {v : V} {ws : Ws} (t : Tups H H') (h : ListAt wide H v ws) : ListAt wide H' v ws := by
  obtain ⟨a, vs, wss, e, h1, h2, h3, h4⟩ := h
  exact ⟨a, vs, wss, e, t _ _ h1, h2, h3.imp fun _ _ h => h.mono _ t, h4⟩
def ListsAt (H : Hp) (v : V) (ws : Ws) : Prop := ∃ a vs wss wide, v = .ref a ∧ H a = some (.tup vs) ∧ (vs ≠ [] ∧ vs.length ≤ 9 ∧ wide ≤ 9) ∧ All2 (ListAt wide H) vs wss ∧ ws = strI vs.length :: strI wide :: wss.flatten
theorem ListsAt.mono {H H' : Hp} {v : V} {ws : Ws} (t : Tups H H') (h : ListsAt H v ws) : ListsAt H' v ws := by
  obtain ⟨a, vs, wss, wide, e, h1, h2, h3, h4⟩ := h
  exact ⟨a, vs, wss, wide, e, t _ _ h1, h2, h3.imp fun _ _ h => h.mono t, h4⟩
def NumAt (_ : Hp) (v : V) (ws : Ws) : Prop := ∃ (n : Int) (x : Str), v = .int n ∧ ws = [x] ∧ numP x = some n
def PairAt (wide : Nat) (H : Hp) (v : V) (ws : Ws) : Prop := ∃ a b n x vs wss, v = .ref a ∧ H a = some (.tup [.int n, .ref b]) ∧ H b = some (.tup vs) ∧ vs.length = wide ∧ numP x = some n ∧ All2 (NumAt H) vs wss ∧ ws = x :: wss.flatten
theorem PairAt.mono {wide : Nat} {H H' : Hp} {v : V} {ws : Ws} (t : Tups H H') (h : PairAt wide H v ws) : PairAt wide H' v ws := by
  obtain ⟨a, b, n, x, vs, wss, e, h1, h2, h3, h4, h5, h6⟩ := h
  exact ⟨a, b, n, x, vs, wss, e, t _ _ h1, t _ _ h2, h3, h4, h5.imp fun _ _ h => h, h6⟩
def PairsAt (H : Hp) (v : V) (ws : Ws) : Prop := ∃ a vs wss wide, v = .ref a ∧ H a = some (.tup vs) ∧ ((vs = [] → wide = 0) ∧ vs.length ≤ 9 ∧ wide ≤ 9) ∧ All2 (PairAt wide H) vs wss ∧ ws = strI vs.length :: strI wide :: wss.flatten
theorem PairsAt.mono {H H' : Hp} {v : V} {ws : Ws} (t : Tups H H') (h : PairsAt H v ws) : PairsAt H' v ws := by
  obtain ⟨a, vs, wss, wide, e, h1, h2, h3, h4⟩ := h
  exact ⟨a, vs, wss, wide, e, t _ _ h1, h2, h3.imp fun _ _ h => h.mono t, h4⟩
def ViewAt : Nat → Hp → V → Ws → Prop
  | 0 => fun _ _ _ => False
  | d + 1 => fun H v ws => ∃ a, v = .ref a ∧
    ((H a = some (.tup [.str "all"]) ∧ ws = [(("all" : Str))]) ∨
     (∃ t tw u uw, H a = some (.tup [.str "keep", t, u]) ∧ TermAt 14 H t tw ∧ ViewAt d H u uw ∧ ws = ("keep" : Str) :: (tw ++ uw)) ∨
     (∃ t tw u uw, H a = some (.tup [.str "rows", t, u]) ∧ ListsAt H t tw ∧ ViewAt d H u uw ∧ ws = ("rows" : Str) :: (tw ++ uw)) ∨
     (∃ u uw, H a = some (.tup [.str "unlike", u]) ∧ ViewAt d H u uw ∧ ws = ("unlike" : Str) :: uw) ∨
     (∃ n x t tw u uw, H a = some (.tup [.str "cap", t, .int n, u]) ∧ numP x = some n ∧ TermAt 14 H t tw ∧ ViewAt d H u uw ∧ ws = ("cap" : Str) :: x :: (tw ++ uw)) ∨
     (∃ t tw u uw, H a = some (.tup [.str "both", t, u]) ∧ ViewAt d H t tw ∧ ViewAt d H u uw ∧ ws = ("both" : Str) :: (tw ++ uw)) ∨
     (∃ p pw t tw u uw, H a = some (.tup [.str "match", p, t, u]) ∧ PairsAt H p pw ∧ TermAt 14 H t tw ∧ ViewAt d H u uw ∧ ws = ("match" : Str) :: (pw ++ (tw ++ uw))))
theorem ViewAt.mono : ∀ (d : Nat) {H H' : Hp} {v : V} {ws : Ws}, Tups H H' → ViewAt d H v ws → ViewAt d H' v ws
  | 0, _, _, _, _, _, h => h
  | d + 1, H, H', v, ws, t, ⟨a, e, h⟩ => by
    refine ⟨a, e, ?_⟩
    rcases h with ⟨h1, h2⟩ | ⟨x1, x2, x3, x4, h1, h2, h3, h4⟩ | ⟨x1, x2, x3, x4, h1, h2, h3, h4⟩ | ⟨x1, x2, h1, h2, h3⟩ | ⟨x1, x2, x3, x4, x5, x6, h1, h2, h3, h4, h5⟩ | ⟨x1, x2, x3, x4, h1, h2, h3, h4⟩ | ⟨x1, x2, x3, x4, x5, x6, h1, h2, h3, h4, h5⟩
    · exact .inl ⟨t _ _ h1, h2⟩
    · exact .inr (.inl ⟨x1, x2, x3, x4, t _ _ h1, h2.mono _ t, ViewAt.mono d t h3, h4⟩)
    · exact .inr (.inr (.inl ⟨x1, x2, x3, x4, t _ _ h1, h2.mono t, ViewAt.mono d t h3, h4⟩))
    · exact .inr (.inr (.inr (.inl ⟨x1, x2, t _ _ h1, ViewAt.mono d t h2, h3⟩)))
    · exact .inr (.inr (.inr (.inr (.inl ⟨x1, x2, x3, x4, x5, x6, t _ _ h1, h2, h3.mono _ t, ViewAt.mono d t h4, h5⟩))))
    · exact .inr (.inr (.inr (.inr (.inr (.inl ⟨x1, x2, x3, x4, t _ _ h1, ViewAt.mono d t h2, ViewAt.mono d t h3, h4⟩)))))
    · exact .inr (.inr (.inr (.inr (.inr (.inr ⟨x1, x2, x3, x4, x5, x6, t _ _ h1, h2.mono t, h3.mono _ t, ViewAt.mono d t h4, h5⟩)))))

section
variable {P : Program} {w : World} {K : PySem.W.Frag} {mg : Str → Option Value} {base : Heap}
abbrev sp_measure (T : Txt K mg w) : Sp := spEat T.aW T.aL noA (fun _ => measP) (fun _ => MeasAt)
theorem sc_measure_from : FnScope ["words", "head", "low", "high"] ["words"] (defScope (top 18)) := ⟨rfl, rfl, rfl, by decide +kernel, rfl, by decide +kernel, by decide +kernel⟩
theorem ok_measure_from (T : Txt K mg w) : FnOk P w K mg base (L2.CX P w) 18 T.measure_from.f T.measure_from.fd ["words"] (sp_measure T) := by
  refine T.measure_from.F.okX sc_measure_from (fun vs H Q E h => ?_) (fun cdv A outer s H vs Q E hr h => ?_)
  · obtain ⟨_, wd, l, pre, r, rfl, _⟩ := h
    rfl
  · obtain ⟨_, wd, l, pre, r, rfl, W, kS, kN⟩ := h
    refine ⟨_, (pss_cons (ps_set (i := 1) sc_measure_from.nd rfl (Or.inl rfl) (pe_meth0 (pv 0) T.cl_Words T.Words_word.m (ok_Words_word T) (hr.mono (by first | decide | omega)) T.Words_word.b .nil passX))
      (pss_cons (ps_if (pt_cmpR op_eq (pv 1) pe_str (nomark _)) (pss_one (ps_ret (pe_tup (pa_cons pe_str pa_nil)))) pss_nil)
      (pss_cons (ps_if (pt_cmpR op_eq (pv 1) pe_str (nomark _)) (pss_one (ps_ret (pe_tup (pa_cons pe_str (pa_cons (pe_call (ok_term_from T) (hr.mono (by first | decide | omega)) rfl T.term_from.g T.term_from.F.kp T.term_from.b .nil passX (pa_cons (pv 0) (pa_cons (pe_cst rfl T.c_TERMS_DEEP) pa_nil))) pa_nil))))) pss_nil)
      (pss_cons (ps_if (pt_cmpR op_ne (pv 1) pe_str (nomark _)) (pss_one (ps_raise rfl (takes_of rfl rfl rfl rfl) (pmk_own PySem.F.excBase_ValueError T.xL T.g_Lost T.kL (raises_own T.bL T.tL) (by exact rfl)))) pss_nil)
      (pss_cons (ps_set (i := 2) sc_measure_from.nd rfl (Or.inl rfl) (pe_meth0 (pv 0) T.cl_Words T.Words_number.m (ok_Words_number T) (hr.mono (by first | decide | omega)) T.Words_number.b .nil passX))
      (pss_cons (ps_set (i := 3) sc_measure_from.nd rfl (Or.inl rfl) (pe_meth0 (pv 0) T.cl_Words T.Words_number.m (ok_Words_number T) (hr.mono (by first | decide | omega)) T.Words_number.b .nil passX))
      (pss_one (ps_ret (pe_tup (pa_cons pe_str (pa_cons (pe_call (ok_term_from T) (hr.mono (by first | decide | omega)) rfl T.term_from.g T.term_from.F.kp T.term_from.b .nil passX (pa_cons (pv 0) (pa_cons (pe_cst rfl T.c_TERMS_DEEP) pa_nil))) (pa_cons (pv 2) (pa_cons (pv 3) pa_nil))))))))))))), ?_⟩
    obtain ⟨dx, ho⟩ := W.ob
    refine ⟨_, rfl, wd, dx, _, rfl, ho, no_word _ _, ?_⟩
    refine ⟨(), wd, l, pre, r, rfl, W, fun cs r1 v H1 e hr1 hR W1 S1 => ?_, fun e H' hS => kN (by rw [wordP_none e]; rfl) _ hS⟩
    obtain ⟨x, rfl, rfl, hx⟩ := hR
    subst hr1
    refine ⟨_, rfl, rfl, _, rfl, ?_⟩
    by_cases h1 : x = "count"
    · rw [dec_eq h1]
      refine iteT ⟨sz1, fun p hp => ?_⟩
      refine kS [x] r1 _ _ ?_ rfl ⟨p, rfl, .inl ⟨upd_same, by rw [h1]⟩⟩ (W1.laid hp) (S1.laid hp)
      show measP (x :: r1) = _
      simp only [measP, if_pos h1]
    rw [dec_ne h1]
    refine iteF ?_
    refine ⟨_, rfl, rfl, _, rfl, ?_⟩
    by_cases h2 : x = "kinds"
    · rw [dec_eq h2]
      have hT : ∀ r', measP (x :: r') = termP 14 r' := fun r' => by simp only [measP, if_neg h1, if_pos h2]
      refine iteT ⟨_, rfl, (), wd, l, _, r1, rfl, W1, fun cs2 r2 v2 H2 e2 hr2 hR2 W2 S2 => ⟨sz2, fun p hp => ?_⟩, fun e2 H' hS => kN ((hT _).trans e2) _ (S1.trans hS)⟩
      exact kS ([x] ++ cs2) r2 _ _ ((hT _).trans e2) (by rw [hr2, List.append_assoc]) ⟨p, rfl, .inr (.inl ⟨v2, cs2, upd_same, hR2.mono _ (tups_laid hp), by rw [h2]; rfl⟩)⟩ (W2.cat.laid hp) ((S1.trans S2).laid hp)
    rw [dec_ne h2]
    refine iteF ?_
    refine ⟨_, rfl, rfl, _, rfl, ?_⟩
    by_cases h3 : x = "sum"
    · rw [dec_eq h3]
      have hT : ∀ r', measP (x :: r') = thenP (times numR 2) (termP 14) r' := fun r' => by simp only [measP, if_neg h1, if_neg h2, if_pos h3]
      refine iteF ?_
      obtain ⟨dx1, ho1⟩ := W1.ob
      refine ⟨_, rfl, wd, dx1, _, rfl, ho1, no_number _ _, ?_⟩
      refine ⟨(), wd, l, _, r1, rfl, W1, fun cs2 r2 v2 H2 e2 hr2 hR2 W2 S2 => ?_, fun e2 H' hS => kN ((hT _).trans (thenP_none (times_none e2))) _ (S1.trans hS)⟩
      obtain ⟨lo, y, rfl, rfl, hy⟩ := hR2
      obtain ⟨dx2, ho2⟩ := W2.ob
      refine ⟨_, rfl, wd, dx2, _, rfl, ho2, no_number _ _, ?_⟩
      refine ⟨(), wd, l, _, r2, rfl, W2, fun cs3 r3 v3 H3 e3 hr3 hR3 W3 S3 => ?_, fun e3 H' hS => kN ((hT _).trans (thenP_none ((times_some e2).trans (times_none e3)))) _ ((S1.trans S2).trans hS)⟩
      obtain ⟨hi, z, rfl, rfl, hz⟩ := hR3
      refine ⟨_, rfl, (), wd, l, _, r3, rfl, W3, fun cs4 r4 v4 H4 e4 hr4 hR4 W4 S4 => ?_, fun e4 H' hS => kN ((hT _).trans ((thenP_some ((times_some e2).trans (times_some e3))).trans e4)) _ (((S1.trans S2).trans S3).trans hS)⟩
      refine ⟨_, rfl, _, rfl, sz4, fun p hp => ?_⟩
      refine kS ([x] ++ [y] ++ [z] ++ cs4) r4 _ _ ((hT _).trans ((thenP_some ((times_some e2).trans (times_some e3))).trans e4)) (by rw [hr2, hr3, hr4]; simp) ⟨p, rfl, .inr (.inr ⟨v4, cs4, lo, hi, y, z, upd_same, hy, hz, hR4.mono _ (tups_laid hp), by rw [h3]; rfl⟩)⟩ ?_ ((((S1.trans S2).trans S3).trans S4).laid hp)
      have := W4.laid (o := .tup [.str "sum", v4, .int lo, .int hi]) hp
      simpa [List.append_assoc] using this
    · rw [dec_ne h3]
      exact iteT (kN (by show measP (x :: r1) = none; simp only [measP, if_neg h1, if_neg h2, if_neg h3]) _ S1)
end
end BD
/-! W5: lists, pairs read. -/
namespace BD
open PySem PySem.Spec L2 TL
open PyProof.Rows hiding St
local macro_rules | `(tactic| walk_at "g") => `(tactic| repeat (first | refine ⟨_, rfl, ?_⟩ | refine ⟨_, _, rfl, rfl, ?_⟩ | refine ⟨rfl, ?_⟩))
section
variable {P : Program} {w : World} {K : PySem.W.Frag} {mg : Str → Option Value} {base : Heap}
theorem nat_of {n : Int} (h : 0 ≤ n) : ∃ k : Nat, n = k := ⟨n.toNat, by omega⟩
abbrev sp_lists (T : Txt K mg w) : Sp := spEat T.aW T.aL noA (fun _ => listsP) (fun _ => ListsAt)
theorem sc_lists_from : FnScope ["words", "many", "wide", "lists", "k", "j"] ["words"] (defScope (top 19)) := ⟨rfl, rfl, rfl, by decide +kernel, rfl, by decide +kernel, by decide +kernel⟩
theorem ok_lists_from (T : Txt K mg w) : FnOk P w K mg base (L2.CX P w) 18 T.lists_from.f T.lists_from.fd ["words"] (sp_lists T) := by
  refine T.lists_from.F.okX sc_lists_from (fun vs H Q E h => ?_) (fun cdv A outer s H vs Q E hr h => ?_)
  · obtain ⟨_, wd, l, pre, r, rfl, _⟩ := h
    rfl
  · obtain ⟨_, wd, l, pre, r, rfl, W, kS, kN⟩ := h
    refine ⟨_, (pss_cons (ps_set (i := 1) sc_lists_from.nd rfl (Or.inl rfl) (pe_meth (pv 0) T.cl_Words T.Words_within.m (ok_Words_within T) (hr.mono (by first | decide | omega)) T.Words_within.b .nil passX (pa_cons pe_int (pa_cons pe_int pa_nil))))
      (pss_cons (ps_set (i := 2) sc_lists_from.nd rfl (Or.inl rfl) (pe_meth (pv 0) T.cl_Words T.Words_within.m (ok_Words_within T) (hr.mono (by first | decide | omega)) T.Words_within.b .nil passX (pa_cons pe_int (pa_cons pe_int pa_nil))))
      (pss_cons (ps_set (i := 3) sc_lists_from.nd rfl (Or.inl rfl) (pe_lst pa_nil))
      (pss_cons (ps_for (passes_of rfl) rfl (pi_range1 rfl T.n_range (pa_cons (pv 1) pa_nil)) (pg_name (i := 4) sc_lists_from.nd rfl (Or.inl rfl)) (pss_one (ps_expr (pe_bm PySem.F.plainAttrs_list PySem.F.slot_list_append PySem.F.type_list_append mt_append (pv 3) (pa_cons (pe_callTy call_tuple_of (by rfl) T.n_tuple (by decide +kernel) (pa_cons (pe_lcX (own := [("j", 5)]) (g := gName 5) rfl sc_lists_from.nd rfl rfl (takes_of rfl rfl rfl rfl) (pi_range1 rfl T.n_range (pa_cons (pv 2) pa_nil)) (blkOk_by (own := [("j", 5)]) (N := ["words", "many", "wide", "lists", "k", "j"]) (sc := defScope (top 19)) (by decide +kernel)) (fun _ _ _ _ _ _ => pg_name (i := 5) sc_lists_from.nd rfl (Or.inl rfl)) (fun _ _ _ _ _ _ ps => (pe_call (ok_term_from T) (hr.mono (by first | decide | omega)) rfl T.term_from.g T.term_from.F.kp T.term_from.b .nil ps (pa_cons (pv 0) (pa_cons (pe_cst rfl T.c_TERMS_DEEP) pa_nil))))) pa_nil)) pa_nil)))))
      (pss_one (ps_ret (pe_callTy call_tuple_of (by rfl) T.n_tuple (by decide +kernel) (pa_cons (pv 3) pa_nil)))))))), ?_⟩
    obtain ⟨dx, ho⟩ := W.ob
    refine ⟨_, rfl, wd, dx, _, rfl, ho, no_within _ _, ?_⟩
    refine ⟨(1, 9), wd, l, pre, r, rfl, W, fun cs r1 v H1 e hr1 hR W1 S1 => ?_, fun e H' hS => kN (by show listsP r = none; unfold listsP; rw [within_none e, bindS_none]) _ hS⟩
    obtain ⟨many, x, rfl, rfl, hx, b1, b9⟩ := hR
    subst hr1
    obtain ⟨m, rfl⟩ := nat_of (show 0 ≤ many by have : (1 : Int) ≤ many := b1; omega)
    have b1 : (1 : Int) ≤ (m : Int) := b1
    have b9 : (m : Int) ≤ 9 := b9
    obtain ⟨dx1, ho1⟩ := W1.ob
    refine ⟨_, rfl, wd, dx1, _, rfl, ho1, no_within _ _, ?_⟩
    refine ⟨(1, 9), wd, l, _, r1, rfl, W1, fun cs2 r2 v2 H2 e2 hr2 hR2 W2 S2 => ?_, fun e2 H' hS => kN (by show listsP (x :: r1) = none; unfold listsP; rw [within_eq hx b1 b9, bindS_some, within_none e2, bindS_none]) _ (S1.trans hS)⟩
    obtain ⟨wide, y, rfl, rfl, hy, c1, c9⟩ := hR2
    subst hr2
    obtain ⟨n, rfl⟩ := nat_of (show 0 ≤ wide by have : (1 : Int) ≤ wide := c1; omega)
    have c1 : (1 : Int) ≤ (n : Int) := c1
    have c9 : (n : Int) ≤ 9 := c9
    have hT : listsP (x :: ([y] ++ r2)) = times (times (termP 14) n) m r2 := by
      show listsP (x :: y :: r2) = _
      unfold listsP
      rw [within_eq hx b1 b9, bindS_some, within_eq hy c1 c9, bindS_some]
      rfl
    refine ⟨sz1000 (by decide), fun L hL => ?_⟩
    have lL : l ≠ L := fun z => by have := W2.ls; rw [z, hL] at this; cases this
    have wL : wd ≠ L := fun z => by obtain ⟨dx, e⟩ := W2.ob; rw [z, hL] at e; cases e
    refine ⟨_, rfl, _, rfl, by omega, by omega, ?_⟩
    refine for_range (lo := 0) (n := m) (fun i σ H' => (∃ v, σ = [some (.ref wd), some (.int m), some (.int n), some (.ref L), v, none]) ∧ ∃ (vs : List V) (wss : List Ws) (r' : Ws), times (times (termP 14) n) i r2 = some r' ∧ r2 = wss.flatten ++ r' ∧ All2 (ListAt n H') vs wss ∧ vs.length = i ∧
      WA T.aW H' wd l (pre ++ [x] ++ [y] ++ wss.flatten) r' ∧ SB wd H2 H' ∧ H' L = some (.lst vs)) ?_ ?_ ?_
    · exact ⟨⟨_, rfl⟩, [], [], r2, rfl, rfl, .nil, rfl, (W2.laid hL).nil, SB.of_same (Same.laid hL), upd_same⟩
    · rintro i σ H3 hi ⟨⟨v, rfl⟩, vs, wss, r3, h1, h2, h3, h4, h5, h6, h7⟩
      have et : ∀ m, times (times (termP 14) n) (i + m) r2 = times (times (termP 14) n) m r3 := fun m => by rw [times_add, h1]
      refine ⟨_, rfl, .inl ⟨rfl, _, SqL.of h7⟩, ?_⟩
      refine ⟨_, rfl, _, rfl, by omega, by omega, fun D hD => ?_⟩
      refine lc_eat (n := n) (cL := T.aL) (E := E) (rec := termP 14) (Res := TermAt 14) (fun _ _ _ _ t h => TermAt.mono 14 t h) hD h5 (by omega) ?_ (fun j H4 pre1 r4 Q1 Wk Sk k1 k2 => ?_) (fun e H' hS => kN (hT.trans ?_) H' (((S1.trans S2).trans h6).trans hS)) (fun H' us uss r' e hr hres hlen W3 S3 hD3 => ?_)
      · exact fun v => rfl
      · exact ⟨_, rfl, (), wd, l, pre1, r4, rfl, Wk, k1, k2⟩
      · have e1 : m = i + (1 + (m - i - 1)) := by omega
        rw [e1, et, times_add, times_one, e]
      · refine ⟨D, us, rfl, .inl ⟨SqL.of hD3, fun t ht => ?_⟩⟩
        have h7' : H' L = some (.lst vs) := S3 L _ (Ne.symm wL) h7
        have h7'' : upd H' t (.tup us) L = some (.lst vs) := by rw [upd_ne (ne_of_none h7' ht)]; exact h7'
        have tu : Tups H3 (upd (upd H' t (.tup us)) L (.lst (vs ++ [.ref t]))) := ((S3.tups h5.ntup).trans (tups_laid ht)).trans (tups_upd_lst h7'')
        have tv : Tups H' (upd (upd H' t (.tup us)) L (.lst (vs ++ [.ref t]))) := (tups_laid ht).trans (tups_upd_lst h7'')
        have nt : t ≠ L := fun z => by rw [z, h7'] at ht; cases ht
        refine ⟨L, vs, .ref t, rfl, rfl, h7'', by rw [h4]; exact small1000 (by omega), ⟨_, rfl⟩, vs ++ [.ref t], wss ++ [uss.flatten], r', ?_, ?_, ?_, by simp [h4], ?_, ?_, upd_same⟩
        · rw [et 1, times_one, e]
        · rw [flat_snoc, h2, hr, List.append_assoc]
        · refine (h3.imp fun a b h => h.mono tu).snoc ⟨t, us, uss, rfl, ?_, hlen, hres.imp fun a b h => h.mono _ tv, rfl⟩
          rw [upd_ne nt]
          exact upd_same
        · rw [flat_snoc, ← List.append_assoc]
          exact (W3.laid ht).lst_upd lL wL
        · intro b o nb e
          rw [upd_ne (ne_of_none e hL), upd_ne (ne_of_none (S3 b o nb (h6 b o nb e)) ht)]
          exact S3 b o nb (h6 b o nb e)
    · rintro σ H3 ⟨⟨v, rfl⟩, vs, wss, r3, h1, h2, h3, h4, h5, h6, h7⟩
      refine ⟨_, rfl, L, vs, rfl, .inl ⟨SqL.of h7, fun t ht => ?_⟩⟩
      have ex : x = strI m := (numP_str hx).symm
      have ey : y = strI n := (numP_str hy).symm
      refine kS ([x] ++ [y] ++ wss.flatten) r3 _ _ (hT.trans h1) (by rw [h2]; simp) ⟨t, vs, wss, n, rfl, upd_same, ⟨fun z => ?_, by omega, by omega⟩, h3.imp fun a b h => h.mono (tups_laid ht), by rw [h4, ex, ey]; rfl⟩ ?_ (((S1.trans S2).trans h6).laid ht)
      · rw [z] at h4
        simp at h4
        omega
      · have := h5.laid (o := .tup vs) ht
        simpa [List.append_assoc] using this
abbrev sp_pairs (T : Txt K mg w) : Sp := spEat T.aW T.aL noA (fun _ => pairsP) (fun _ => PairsAt)
theorem sc_pairs_from : FnScope ["words", "many", "wide", "pairs", "k", "number", "j"] ["words"] (defScope (top 20)) := ⟨rfl, rfl, rfl, by decide +kernel, rfl, by decide +kernel, by decide +kernel⟩
theorem ok_pairs_from (T : Txt K mg w) : FnOk P w K mg base (L2.CX P w) 18 T.pairs_from.f T.pairs_from.fd ["words"] (sp_pairs T) := by
  refine T.pairs_from.F.okX sc_pairs_from (fun vs H Q E h => ?_) (fun cdv A outer s H vs Q E hr h => ?_)
  · obtain ⟨_, wd, l, pre, r, rfl, _⟩ := h
    rfl
  · obtain ⟨_, wd, l, pre, r, rfl, W, kS, kN⟩ := h
    refine ⟨_, (pss_cons (ps_set (i := 1) sc_pairs_from.nd rfl (Or.inl rfl) (pe_meth (pv 0) T.cl_Words T.Words_within.m (ok_Words_within T) (hr.mono (by first | decide | omega)) T.Words_within.b .nil passX (pa_cons pe_int (pa_cons pe_int pa_nil))))
      (pss_cons (ps_set (i := 2) sc_pairs_from.nd rfl (Or.inl rfl) (pe_meth (pv 0) T.cl_Words T.Words_within.m (ok_Words_within T) (hr.mono (by first | decide | omega)) T.Words_within.b .nil passX (pa_cons (pe_callB (call_min2 rfl) (by rfl) T.n_min (by decide +kernel) (pa_cons (pv 1) (pa_cons pe_int pa_nil))) (pa_cons (pe_op op_mul pe_int (pe_callB (call_min2 rfl) (by rfl) T.n_min (by decide +kernel) (pa_cons (pv 1) (pa_cons pe_int pa_nil)))) pa_nil))))
      (pss_cons (ps_set (i := 3) sc_pairs_from.nd rfl (Or.inl rfl) (pe_lst pa_nil))
      (pss_cons (ps_for (passes_of rfl) rfl (pi_range1 rfl T.n_range (pa_cons (pv 1) pa_nil)) (pg_name (i := 4) sc_pairs_from.nd rfl (Or.inl rfl)) (pss_cons (ps_set (i := 5) sc_pairs_from.nd rfl (Or.inl rfl) (pe_meth0 (pv 0) T.cl_Words T.Words_number.m (ok_Words_number T) (hr.mono (by first | decide | omega)) T.Words_number.b .nil passX))
      (pss_one (ps_expr (pe_bm PySem.F.plainAttrs_list PySem.F.slot_list_append PySem.F.type_list_append mt_append (pv 3) (pa_cons (pe_tup (pa_cons (pv 5) (pa_cons (pe_callTy call_tuple_of (by rfl) T.n_tuple (by decide +kernel) (pa_cons (pe_lcX (own := [("j", 6)]) (g := gName 6) rfl sc_pairs_from.nd rfl rfl (takes_of rfl rfl rfl rfl) (pi_range1 rfl T.n_range (pa_cons (pv 2) pa_nil)) (blkOk_by (own := [("j", 6)]) (N := ["words", "many", "wide", "pairs", "k", "number", "j"]) (sc := defScope (top 20)) (by decide +kernel)) (fun _ _ _ _ _ _ => pg_name (i := 6) sc_pairs_from.nd rfl (Or.inl rfl)) (fun _ _ _ _ _ _ ps => (pe_meth0 (pv 0) T.cl_Words T.Words_number.m (ok_Words_number T) (hr.mono (by first | decide | omega)) T.Words_number.b .nil ps))) pa_nil)) pa_nil))) pa_nil))))))
      (pss_one (ps_ret (pe_callTy call_tuple_of (by rfl) T.n_tuple (by decide +kernel) (pa_cons (pv 3) pa_nil)))))))), ?_⟩
    obtain ⟨dx, ho⟩ := W.ob
    refine ⟨_, rfl, wd, dx, _, rfl, ho, no_within _ _, ?_⟩
    refine ⟨(0, 9), wd, l, pre, r, rfl, W, fun cs r1 v H1 e hr1 hR W1 S1 => ?_, fun e H' hS => kN (by show pairsP r = none; unfold pairsP; rw [within_none e, bindS_none]) _ hS⟩
    obtain ⟨many, x, rfl, rfl, hx, b1, b9⟩ := hR
    subst hr1
    obtain ⟨m, rfl⟩ := nat_of (show 0 ≤ many from b1)
    have b9 : (m : Int) ≤ 9 := b9
    obtain ⟨dx1, ho1⟩ := W1.ob
    refine ⟨_, rfl, wd, dx1, _, rfl, ho1, no_within _ _, ?_⟩
    have em : (if (1 : Int) < (m : Int) then (1 : Int) else (m : Int)) = min (m : Int) 1 := by
      split <;> omega
    refine ⟨_, rfl, _, _, rfl, _, rfl, _, _, rfl, _, _, rfl, rfl, ?_, ?_⟩
    · rw [em]
      exact .inl ⟨by decide, by decide⟩
    rw [em]
    refine ⟨(min (m : Int) 1, 9 * min (m : Int) 1), wd, l, _, r1, rfl, W1, fun cs2 r2 v2 H2 e2 hr2 hR2 W2 S2 => ?_, fun e2 H' hS => kN (by show pairsP (x :: r1) = none; unfold pairsP; rw [within_eq hx b1 b9, bindS_some, within_none e2, bindS_none]) _ (S1.trans hS)⟩
    obtain ⟨wide, y, rfl, rfl, hy, c1, c9⟩ := hR2
    subst hr2
    have c1 : min (m : Int) 1 ≤ wide := c1
    have c9 : wide ≤ 9 * min (m : Int) 1 := c9
    obtain ⟨n, rfl⟩ := nat_of (show 0 ≤ wide by omega)
    have hT : pairsP (x :: ([y] ++ r2)) = times (pairP n) m r2 := by
      show pairsP (x :: y :: r2) = _
      unfold pairsP
      rw [within_eq hx b1 b9, bindS_some, within_eq hy c1 c9, bindS_some]
      rfl
    refine ⟨sz1000 (by decide), fun L hL => ?_⟩
    have lL : l ≠ L := fun z => by have := W2.ls; rw [z, hL] at this; cases this
    have wL : wd ≠ L := fun z => by obtain ⟨dx, e⟩ := W2.ob; rw [z, hL] at e; cases e
    refine ⟨_, rfl, _, rfl, by omega, by omega, ?_⟩
    refine for_range (lo := 0) (n := m) (fun i σ H' => (∃ v u, σ = [some (.ref wd), some (.int m), some (.int n), some (.ref L), v, u, none]) ∧ ∃ (vs : List V) (wss : List Ws) (r' : Ws), times (pairP n) i r2 = some r' ∧ r2 = wss.flatten ++ r' ∧ All2 (PairAt n H') vs wss ∧ vs.length = i ∧
      WA T.aW H' wd l (pre ++ [x] ++ [y] ++ wss.flatten) r' ∧ SB wd H2 H' ∧ H' L = some (.lst vs)) ?_ ?_ ?_
    · exact ⟨⟨_, _, rfl⟩, [], [], r2, rfl, rfl, .nil, rfl, (W2.laid hL).nil, SB.of_same (Same.laid hL), upd_same⟩
    · rintro i σ H3 hi ⟨⟨v, u, rfl⟩, vs, wss, r3, h1, h2, h3, h4, h5, h6, h7⟩
      have et : ∀ m, times (pairP n) (i + m) r2 = times (pairP n) m r3 := fun m => by rw [times_add, h1]
      have bad : pairP n r3 = none → times (pairP n) m r2 = none := fun e => by
        have e1 : m = i + (1 + (m - i - 1)) := by omega
        rw [e1, et, times_add, times_one, e]
      obtain ⟨dx3, ho3⟩ := h5.ob
      refine ⟨_, rfl, wd, dx3, _, rfl, ho3, no_number _ _, ?_⟩
      refine ⟨(), wd, l, _, r3, rfl, h5, fun cs4 r4 v4 H4 e4 hr4 hR4 W4 S4 => ?_, fun e4 H' hS => kN (hT.trans (bad (thenP_none e4))) _ (((S1.trans S2).trans h6).trans hS)⟩
      obtain ⟨k, z, rfl, rfl, hz⟩ := hR4
      subst hr4
      have h74 : H4 L = some (.lst vs) := S4 L _ (Ne.symm wL) h7
      refine ⟨_, rfl, .inl ⟨rfl, _, SqL.of h74⟩, ?_⟩
      refine ⟨_, rfl, _, rfl, _, rfl, by omega, by omega, fun D hD => ?_⟩
      refine lc_eat (n := n) (cL := T.aL) (E := E) (rec := numR) (Res := NumAt) (fun _ _ _ _ t h => h) hD W4 (by omega) ?_ (fun j H5 pre1 r5 Q1 Wk Sk k1 k2 => ?_) (fun e H' hS => kN (hT.trans (bad ((thenP_some e4).trans e))) H' ((((S1.trans S2).trans h6).trans S4).trans hS)) (fun H' us uss r' e hr hres hlen W3 S3 hD3 => ?_)
      · exact fun v => rfl
      · obtain ⟨dx5, ho5⟩ := Wk.ob
        refine ⟨_, rfl, wd, dx5, _, rfl, ho5, no_number _ _, ?_⟩
        exact ⟨(), wd, l, pre1, r5, rfl, Wk, k1, k2⟩
      · refine ⟨D, us, rfl, .inl ⟨SqL.of hD3, fun t ht => ⟨sz2, fun q hq => ?_⟩⟩⟩
        have h7' : H' L = some (.lst vs) := S3 L _ (Ne.symm wL) h74
        have h7t : upd H' t (.tup us) L = some (.lst vs) := by rw [upd_ne (ne_of_none h7' ht)]; exact h7'
        have nqL : q ≠ L := fun z => by rw [z, h7t] at hq; cases hq
        have h7q : upd (upd H' t (.tup us)) q (.tup [.int k, .ref t]) L = some (.lst vs) := by rw [upd_ne (Ne.symm nqL)]; exact h7t
        have tv : Tups H' (upd (upd (upd H' t (.tup us)) q (.tup [.int k, .ref t])) L (.lst (vs ++ [.ref q]))) := ((tups_laid ht).trans (tups_laid hq)).trans (tups_upd_lst h7q)
        have tu : Tups H3 (upd (upd (upd H' t (.tup us)) q (.tup [.int k, .ref t])) L (.lst (vs ++ [.ref q]))) := ((S4.tups h5.ntup).trans (S3.tups W4.ntup)).trans tv
        have nt : t ≠ L := fun z => by rw [z, h7'] at ht; cases ht
        have ntq : t ≠ q := fun z => by rw [← z, upd_same] at hq; cases hq
        refine ⟨L, vs, .ref q, rfl, rfl, h7q, by rw [h4]; exact small1000 (by omega), ⟨_, _, rfl⟩, vs ++ [.ref q], wss ++ [[z] ++ uss.flatten], r', ?_, ?_, ?_, by simp [h4], ?_, ?_, upd_same⟩
        · rw [et 1, times_one]
          exact (thenP_some e4).trans e
        · rw [flat_snoc, h2, hr]
          simp
        · refine (h3.imp fun a b h => h.mono tu).snoc ⟨q, t, k, z, us, uss, rfl, ?_, ?_, hlen, hz, hres.imp fun a b h => h, rfl⟩
          · rw [upd_ne nqL]
            exact upd_same
          · rw [upd_ne nt, upd_ne ntq]
            exact upd_same
        · have := ((W3.laid (o := .tup us) ht).laid (o := .tup [.int k, .ref t]) hq).lst_upd (xs := vs ++ [.ref q]) lL wL
          simpa [List.append_assoc] using this
        · intro b o nb e
          have e3 := S3 b o nb (S4 b o nb (h6 b o nb e))
          have e4 : upd H' t (.tup us) b = some o := by rw [upd_ne (ne_of_none e3 ht)]; exact e3
          rw [upd_ne (ne_of_none e hL), upd_ne (ne_of_none e4 hq)]
          exact e4
    · rintro σ H3 ⟨⟨v, u, rfl⟩, vs, wss, r3, h1, h2, h3, h4, h5, h6, h7⟩
      refine ⟨_, rfl, L, vs, rfl, .inl ⟨SqL.of h7, fun t ht => ?_⟩⟩
      have ex : x = strI m := (numP_str hx).symm
      have ey : y = strI n := (numP_str hy).symm
      refine kS ([x] ++ [y] ++ wss.flatten) r3 _ _ (hT.trans h1) (by rw [h2]; simp) ⟨t, vs, wss, n, rfl, upd_same, ⟨fun z => ?_, by omega, by omega⟩, h3.imp fun a b h => h.mono (tups_laid ht), by rw [h4, ex, ey]; rfl⟩ ?_ (((S1.trans S2).trans h6).laid ht)
      · rw [z] at h4
        simp at h4
        omega
      · have := h5.laid (o := .tup vs) ht
        simpa [List.append_assoc] using this
end
end BD
/-! W6: views, askings, rows read. -/
namespace BD
open PySem PySem.Spec L2 TL
open PyProof.Rows hiding St
local macro_rules | `(tactic| walk_at "g") => `(tactic| repeat (first | refine ⟨_, rfl, ?_⟩ | refine ⟨_, _, rfl, rfl, ?_⟩ | refine ⟨rfl, ?_⟩))
section
variable {P : Program} {w : World} {K : PySem.W.Frag} {mg : Str → Option Value} {base : Heap}
abbrev sp_view (T : Txt K mg w) (d : Nat) : Sp := spEat T.aW T.aL (fun _ : Unit => [.int d]) (fun _ => viewP d) (fun _ => ViewAt d)
theorem pred_int (d : Nat) : (((d + 1 : Nat) : Int) - 1) = (d : Int) := by omega
theorem arg_pred (wd : Addr) (d : Nat) : [V.ref wd, V.int (((d + 1 : Nat) : Int) - 1)] ++ [] = [V.ref wd, V.int d] := by rw [pred_int]; rfl
theorem sc_view_from : FnScope ["words", "deep", "head", "term", "lists", "many", "view", "pairs"] ["words", "deep"] (defScope (top 21)) := ⟨rfl, rfl, rfl, by decide +kernel, rfl, by decide +kernel, by decide +kernel⟩
theorem ok_view_d (T : Txt K mg w) : ∀ d : Nat, FnOk P w K mg base (L2.CX P w) (d + 19) T.view_from.f T.view_from.fd ["words", "deep"] (sp_view T d)
  | 0 => by
    refine T.view_from.F.okX sc_view_from (fun vs H Q E h => ?_) (fun cdv A outer s H vs Q E hr h => ?_)
    · obtain ⟨_, wd, l, pre, r, rfl, _⟩ := h
      rfl
    · obtain ⟨_, wd, l, pre, r, rfl, W, kS, kN⟩ := h
      refine ⟨tSeq (tIfS (tTest (tOp rEq (tVar 1) (tC (.int 0)))) (fun _ σ H => E (.ref T.aL) none H) tNext) tNever, pss_cons (ps_if (pt_cmpR op_eq (pv 1) pe_int (nomark _)) (pss_one (ps_raise rfl (takes_of rfl rfl rfl rfl) (pmk_own PySem.F.excBase_ValueError T.xL T.g_Lost T.kL (raises_own T.bL T.tL) (by exact rfl)))) pss_nil) pss_never, ?_⟩
      exact ⟨_, rfl, rfl, _, rfl, iteT (kN rfl _ (SB.refl _ _))⟩
  | d + 1 => by
    have ih := ok_view_d T d
    refine T.view_from.F.okX sc_view_from (fun vs H Q E h => ?_) (fun cdv A outer s H vs Q E hr h => ?_)
    · obtain ⟨_, wd, l, pre, r, rfl, _⟩ := h
      rfl
    · obtain ⟨_, wd, l, pre, r, rfl, W, kS, kN⟩ := h
      refine ⟨_, (pss_cons (ps_if (pt_cmpR op_eq (pv 1) pe_int (nomark _)) (pss_one (ps_raise rfl (takes_of rfl rfl rfl rfl) (pmk_own PySem.F.excBase_ValueError T.xL T.g_Lost T.kL (raises_own T.bL T.tL) (by exact rfl)))) pss_nil)
      (pss_cons (ps_set (i := 2) sc_view_from.nd rfl (Or.inl rfl) (pe_meth0 (pv 0) T.cl_Words T.Words_word.m (ok_Words_word T) (hr.mono (by first | decide | omega)) T.Words_word.b .nil passX))
      (pss_cons (ps_if (pt_cmpR op_eq (pv 2) pe_str (nomark _)) (pss_one (ps_ret (pe_tup (pa_cons pe_str pa_nil)))) pss_nil)
      (pss_cons (ps_if (pt_cmpR op_eq (pv 2) pe_str (nomark _)) (pss_cons (ps_set (i := 3) sc_view_from.nd rfl (Or.inl rfl) (pe_call (ok_term_from T) (hr.mono (by first | decide | omega)) rfl T.term_from.g T.term_from.F.kp T.term_from.b .nil passX (pa_cons (pv 0) (pa_cons (pe_cst rfl T.c_TERMS_DEEP) pa_nil))))
      (pss_one (ps_ret (pe_tup (pa_cons pe_str (pa_cons (pv 3) (pa_cons (pe_call (ih) (hr.mono (by first | decide | omega)) rfl T.view_from.g T.view_from.F.kp T.view_from.b .nil passX (pa_cons (pv 0) (pa_cons (pe_op op_sub (pv 1) pe_int) pa_nil))) pa_nil))))))) pss_nil)
      (pss_cons (ps_if (pt_cmpR op_eq (pv 2) pe_str (nomark _)) (pss_cons (ps_set (i := 4) sc_view_from.nd rfl (Or.inl rfl) (pe_call (ok_lists_from T) (hr.mono (by first | decide | omega)) rfl T.lists_from.g T.lists_from.F.kp T.lists_from.b .nil passX (pa_cons (pv 0) pa_nil)))
      (pss_one (ps_ret (pe_tup (pa_cons pe_str (pa_cons (pv 4) (pa_cons (pe_call (ih) (hr.mono (by first | decide | omega)) rfl T.view_from.g T.view_from.F.kp T.view_from.b .nil passX (pa_cons (pv 0) (pa_cons (pe_op op_sub (pv 1) pe_int) pa_nil))) pa_nil))))))) pss_nil)
      (pss_cons (ps_if (pt_cmpR op_eq (pv 2) pe_str (nomark _)) (pss_one (ps_ret (pe_tup (pa_cons pe_str (pa_cons (pe_call (ih) (hr.mono (by first | decide | omega)) rfl T.view_from.g T.view_from.F.kp T.view_from.b .nil passX (pa_cons (pv 0) (pa_cons (pe_op op_sub (pv 1) pe_int) pa_nil))) pa_nil))))) pss_nil)
      (pss_cons (ps_if (pt_cmpR op_eq (pv 2) pe_str (nomark _)) (pss_cons (ps_set (i := 5) sc_view_from.nd rfl (Or.inl rfl) (pe_meth0 (pv 0) T.cl_Words T.Words_number.m (ok_Words_number T) (hr.mono (by first | decide | omega)) T.Words_number.b .nil passX))
      (pss_cons (ps_set (i := 3) sc_view_from.nd rfl (Or.inl rfl) (pe_call (ok_term_from T) (hr.mono (by first | decide | omega)) rfl T.term_from.g T.term_from.F.kp T.term_from.b .nil passX (pa_cons (pv 0) (pa_cons (pe_cst rfl T.c_TERMS_DEEP) pa_nil))))
      (pss_one (ps_ret (pe_tup (pa_cons pe_str (pa_cons (pv 3) (pa_cons (pv 5) (pa_cons (pe_call (ih) (hr.mono (by first | decide | omega)) rfl T.view_from.g T.view_from.F.kp T.view_from.b .nil passX (pa_cons (pv 0) (pa_cons (pe_op op_sub (pv 1) pe_int) pa_nil))) pa_nil))))))))) pss_nil)
      (pss_cons (ps_if (pt_cmpR op_eq (pv 2) pe_str (nomark _)) (pss_cons (ps_set (i := 6) sc_view_from.nd rfl (Or.inl rfl) (pe_call (ih) (hr.mono (by first | decide | omega)) rfl T.view_from.g T.view_from.F.kp T.view_from.b .nil passX (pa_cons (pv 0) (pa_cons (pe_op op_sub (pv 1) pe_int) pa_nil))))
      (pss_one (ps_ret (pe_tup (pa_cons pe_str (pa_cons (pv 6) (pa_cons (pe_call (ih) (hr.mono (by first | decide | omega)) rfl T.view_from.g T.view_from.F.kp T.view_from.b .nil passX (pa_cons (pv 0) (pa_cons (pe_op op_sub (pv 1) pe_int) pa_nil))) pa_nil))))))) pss_nil)
      (pss_cons (ps_if (pt_cmpR op_ne (pv 2) pe_str (nomark _)) (pss_one (ps_raise rfl (takes_of rfl rfl rfl rfl) (pmk_own PySem.F.excBase_ValueError T.xL T.g_Lost T.kL (raises_own T.bL T.tL) (by exact rfl)))) pss_nil)
      (pss_cons (ps_set (i := 7) sc_view_from.nd rfl (Or.inl rfl) (pe_call (ok_pairs_from T) (hr.mono (by first | decide | omega)) rfl T.pairs_from.g T.pairs_from.F.kp T.pairs_from.b .nil passX (pa_cons (pv 0) pa_nil)))
      (pss_cons (ps_set (i := 3) sc_view_from.nd rfl (Or.inl rfl) (pe_call (ok_term_from T) (hr.mono (by first | decide | omega)) rfl T.term_from.g T.term_from.F.kp T.term_from.b .nil passX (pa_cons (pv 0) (pa_cons (pe_cst rfl T.c_TERMS_DEEP) pa_nil))))
      (pss_one (ps_ret (pe_tup (pa_cons pe_str (pa_cons (pv 7) (pa_cons (pv 3) (pa_cons (pe_call (ih) (hr.mono (by first | decide | omega)) rfl T.view_from.g T.view_from.F.kp T.view_from.b .nil passX (pa_cons (pv 0) (pa_cons (pe_op op_sub (pv 1) pe_int) pa_nil))) pa_nil)))))))))))))))))), ?_⟩
      refine ⟨_, rfl, rfl, _, rfl, ?_⟩
      rw [decide_eq_false (by intro z; injection z with z; omega)]
      refine iteF ?_
      obtain ⟨dx, ho⟩ := W.ob
      refine ⟨_, rfl, wd, dx, _, rfl, ho, no_word _ _, ?_⟩
      refine ⟨(), wd, l, pre, r, rfl, W, fun cs r1 v H1 e hr1 hR W1 S1 => ?_, fun e H' hS => kN (by rw [wordP_none e]; rfl) _ hS⟩
      obtain ⟨x, rfl, rfl, hx⟩ := hR
      subst hr1
      -- all
      refine ⟨_, rfl, rfl, _, rfl, ?_⟩
      by_cases h1 : x = "all"
      · rw [dec_eq h1]
        refine iteT ⟨sz1, fun p hp => ?_⟩
        refine kS [x] r1 _ _ ?_ rfl ⟨p, rfl, .inl ⟨upd_same, by rw [h1]⟩⟩ (W1.laid hp) (S1.laid hp)
        show viewP (d + 1) (x :: r1) = _
        simp only [viewP, if_pos h1]
      rw [dec_ne h1]
      refine iteF ?_
      -- keep
      refine ⟨_, rfl, rfl, _, rfl, ?_⟩
      by_cases h2 : x = "keep"
      · rw [dec_eq h2]
        have hT : ∀ r', viewP (d + 1) (x :: r') = thenP (termP 14) (viewP d) r' := fun r' => by simp only [viewP, if_neg h1, if_pos h2]
        refine iteT ⟨_, rfl, (), wd, l, _, r1, rfl, W1, fun cs2 r2 v2 H2 e2 hr2 hR2 W2 S2 => ?_, fun e2 H' hS => kN ((hT _).trans (thenP_none e2)) _ (S1.trans hS)⟩
        refine ⟨_, rfl, _, rfl, _, rfl, _, _, rfl, rfl, (), wd, l, _, r2, arg_pred wd d, W2, fun cs3 r3 v3 H3 e3 hr3 hR3 W3 S3 => ⟨sz3, fun p hp => ?_⟩, fun e3 H' hS => kN ((hT _).trans ((thenP_some e2).trans e3)) _ ((S1.trans S2).trans hS)⟩
        refine kS ([x] ++ (cs2 ++ cs3)) r3 _ _ ((hT _).trans ((thenP_some e2).trans e3)) (by rw [hr2, hr3]; simp) ⟨p, rfl, .inr (.inl ⟨v2, cs2, v3, cs3, upd_same, hR2.mono _ ((S3.tups W2.ntup).trans (tups_laid hp)), hR3.mono _ (tups_laid hp), by rw [h2]; rfl⟩)⟩ (by simpa [List.append_assoc] using W3.laid hp) (((S1.trans S2).trans S3).laid hp)
      rw [dec_ne h2]
      refine iteF ?_
      -- rows
      refine ⟨_, rfl, rfl, _, rfl, ?_⟩
      by_cases h3 : x = "rows"
      · rw [dec_eq h3]
        have hT : ∀ r', viewP (d + 1) (x :: r') = thenP listsP (viewP d) r' := fun r' => by simp only [viewP, if_neg h1, if_neg h2, if_pos h3]
        refine iteT ⟨_, rfl, (), wd, l, _, r1, rfl, W1, fun cs2 r2 v2 H2 e2 hr2 hR2 W2 S2 => ?_, fun e2 H' hS => kN ((hT _).trans (thenP_none e2)) _ (S1.trans hS)⟩
        refine ⟨_, rfl, _, rfl, _, rfl, _, _, rfl, rfl, (), wd, l, _, r2, arg_pred wd d, W2, fun cs3 r3 v3 H3 e3 hr3 hR3 W3 S3 => ⟨sz3, fun p hp => ?_⟩, fun e3 H' hS => kN ((hT _).trans ((thenP_some e2).trans e3)) _ ((S1.trans S2).trans hS)⟩
        refine kS ([x] ++ (cs2 ++ cs3)) r3 _ _ ((hT _).trans ((thenP_some e2).trans e3)) (by rw [hr2, hr3]; simp) ⟨p, rfl, .inr (.inr (.inl ⟨v2, cs2, v3, cs3, upd_same, hR2.mono ((S3.tups W2.ntup).trans (tups_laid hp)), hR3.mono _ (tups_laid hp), by rw [h3]; rfl⟩))⟩ (by simpa [List.append_assoc] using W3.laid hp) (((S1.trans S2).trans S3).laid hp)
      rw [dec_ne h3]
      refine iteF ?_
      -- unlike
      refine ⟨_, rfl, rfl, _, rfl, ?_⟩
      by_cases h4 : x = "unlike"
      · rw [dec_eq h4]
        have hT : ∀ r', viewP (d + 1) (x :: r') = viewP d r' := fun r' => by simp only [viewP, if_neg h1, if_neg h2, if_neg h3, if_pos h4]
        refine iteT ⟨_, rfl, _, rfl, _, _, rfl, rfl, (), wd, l, _, r1, arg_pred wd d, W1, fun cs3 r3 v3 H3 e3 hr3 hR3 W3 S3 => ⟨sz2, fun p hp => ?_⟩, fun e3 H' hS => kN ((hT _).trans e3) _ (S1.trans hS)⟩
        refine kS ([x] ++ cs3) r3 _ _ ((hT _).trans e3) (by rw [hr3]; simp) ⟨p, rfl, .inr (.inr (.inr (.inl ⟨v3, cs3, upd_same, hR3.mono _ (tups_laid hp), by rw [h4]; rfl⟩)))⟩ (by simpa [List.append_assoc] using W3.laid hp) ((S1.trans S3).laid hp)
      rw [dec_ne h4]
      refine iteF ?_
      -- cap
      refine ⟨_, rfl, rfl, _, rfl, ?_⟩
      by_cases h5 : x = "cap"
      · rw [dec_eq h5]
        have hT : ∀ r', viewP (d + 1) (x :: r') = thenP numR (thenP (termP 14) (viewP d)) r' := fun r' => by simp only [viewP, if_neg h1, if_neg h2, if_neg h3, if_neg h4, if_pos h5]
        obtain ⟨dx1, ho1⟩ := W1.ob
        refine iteT ⟨_, rfl, wd, dx1, _, rfl, ho1, no_number _ _, (), wd, l, _, r1, rfl, W1, fun cs0 r0 v0 H0 e0 hr0 hR0 W0 S0 => ?_, fun e0 H' hS => kN ((hT _).trans (thenP_none e0)) _ (S1.trans hS)⟩
        obtain ⟨n, y, rfl, rfl, hy⟩ := hR0
        refine ⟨_, rfl, (), wd, l, _, r0, rfl, W0, fun cs2 r2 v2 H2 e2 hr2 hR2 W2 S2 => ?_, fun e2 H' hS => kN ((hT _).trans ((thenP_some e0).trans (thenP_none e2))) _ ((S1.trans S0).trans hS)⟩
        refine ⟨_, rfl, _, rfl, _, rfl, _, rfl, _, _, rfl, rfl, (), wd, l, _, r2, arg_pred wd d, W2, fun cs3 r3 v3 H3 e3 hr3 hR3 W3 S3 => ⟨sz4, fun p hp => ?_⟩, fun e3 H' hS => kN ((hT _).trans ((thenP_some e0).trans ((thenP_some e2).trans e3))) _ (((S1.trans S0).trans S2).trans hS)⟩
        refine kS ([x] ++ ([y] ++ (cs2 ++ cs3))) r3 _ _ ((hT _).trans ((thenP_some e0).trans ((thenP_some e2).trans e3))) (by rw [hr0, hr2, hr3]; simp) ⟨p, rfl, .inr (.inr (.inr (.inr (.inl ⟨n, y, v2, cs2, v3, cs3, upd_same, hy, hR2.mono _ ((S3.tups W2.ntup).trans (tups_laid hp)), hR3.mono _ (tups_laid hp), by rw [h5]; rfl⟩))))⟩ (by simpa [List.append_assoc] using W3.laid hp) ((((S1.trans S0).trans S2).trans S3).laid hp)
      rw [dec_ne h5]
      refine iteF ?_
      -- both
      refine ⟨_, rfl, rfl, _, rfl, ?_⟩
      by_cases h6 : x = "both"
      · rw [dec_eq h6]
        have hT : ∀ r', viewP (d + 1) (x :: r') = thenP (viewP d) (viewP d) r' := fun r' => by simp only [viewP, if_neg h1, if_neg h2, if_neg h3, if_neg h4, if_neg h5, if_pos h6]
        refine iteT ⟨_, rfl, _, rfl, _, _, rfl, rfl, (), wd, l, _, r1, arg_pred wd d, W1, fun cs2 r2 v2 H2 e2 hr2 hR2 W2 S2 => ?_, fun e2 H' hS => kN ((hT _).trans (thenP_none e2)) _ (S1.trans hS)⟩
        refine ⟨_, rfl, _, rfl, _, rfl, _, _, rfl, rfl, (), wd, l, _, r2, arg_pred wd d, W2, fun cs3 r3 v3 H3 e3 hr3 hR3 W3 S3 => ⟨sz3, fun p hp => ?_⟩, fun e3 H' hS => kN ((hT _).trans ((thenP_some e2).trans e3)) _ ((S1.trans S2).trans hS)⟩
        refine kS ([x] ++ (cs2 ++ cs3)) r3 _ _ ((hT _).trans ((thenP_some e2).trans e3)) (by rw [hr2, hr3]; simp) ⟨p, rfl, .inr (.inr (.inr (.inr (.inr (.inl ⟨v2, cs2, v3, cs3, upd_same, hR2.mono _ ((S3.tups W2.ntup).trans (tups_laid hp)), hR3.mono _ (tups_laid hp), by rw [h6]; rfl⟩)))))⟩ (by simpa [List.append_assoc] using W3.laid hp) (((S1.trans S2).trans S3).laid hp)
      rw [dec_ne h6]
      refine iteF ?_
      -- match
      refine ⟨_, rfl, rfl, _, rfl, ?_⟩
      by_cases h7 : x = "match"
      · rw [dec_eq h7]
        have hT : ∀ r', viewP (d + 1) (x :: r') = thenP pairsP (thenP (termP 14) (viewP d)) r' := fun r' => by simp only [viewP, if_neg h1, if_neg h2, if_neg h3, if_neg h4, if_neg h5, if_neg h6, if_pos h7]
        refine iteF ⟨_, rfl, (), wd, l, _, r1, rfl, W1, fun cs0 r0 v0 H0 e0 hr0 hR0 W0 S0 => ?_, fun e0 H' hS => kN ((hT _).trans (thenP_none e0)) _ (S1.trans hS)⟩
        refine ⟨_, rfl, (), wd, l, _, r0, rfl, W0, fun cs2 r2 v2 H2 e2 hr2 hR2 W2 S2 => ?_, fun e2 H' hS => kN ((hT _).trans ((thenP_some e0).trans (thenP_none e2))) _ ((S1.trans S0).trans hS)⟩
        refine ⟨_, rfl, _, rfl, _, rfl, _, rfl, _, _, rfl, rfl, (), wd, l, _, r2, arg_pred wd d, W2, fun cs3 r3 v3 H3 e3 hr3 hR3 W3 S3 => ⟨sz4, fun p hp => ?_⟩, fun e3 H' hS => kN ((hT _).trans ((thenP_some e0).trans ((thenP_some e2).trans e3))) _ (((S1.trans S0).trans S2).trans hS)⟩
        have tu := (S3.tups W2.ntup).trans (tups_laid (o := .tup [.str "match", v0, v2, v3]) hp)
        refine kS ([x] ++ (cs0 ++ (cs2 ++ cs3))) r3 _ _ ((hT _).trans ((thenP_some e0).trans ((thenP_some e2).trans e3))) (by rw [hr0, hr2, hr3]; simp) ⟨p, rfl, .inr (.inr (.inr (.inr (.inr (.inr ⟨v0, cs0, v2, cs2, v3, cs3, upd_same, hR0.mono ((S2.tups W0.ntup).trans tu), hR2.mono _ tu, hR3.mono _ (tups_laid hp), by rw [h7]; rfl⟩)))))⟩ (by simpa [List.append_assoc] using W3.laid hp) ((((S1.trans S0).trans S2).trans S3).laid hp)
      rw [dec_ne h7]
      exact iteT (kN (by show viewP (d + 1) (x :: r1) = none; simp only [viewP, if_neg h1, if_neg h2, if_neg h3, if_neg h4, if_neg h5, if_neg h6, if_neg h7]) _ S1)
theorem ok_view_from (T : Txt K mg w) : FnOk P w K mg base (L2.CX P w) 27 T.view_from.f T.view_from.fd ["words", "deep"] (sp_view T 8) := ok_view_d T 8

def AskedAt (H : Hp) (v : V) (ws : Ws) : Prop := ∃ a m u mw uw, v = .ref a ∧ H a = some (.tup [u, m]) ∧ MeasAt H m mw ∧ ViewAt 8 H u uw ∧ ws = mw ++ ("of" : Str) :: uw
theorem AskedAt.mono {H H' : Hp} {v : V} {ws : Ws} (t : Tups H H') (h : AskedAt H v ws) : AskedAt H' v ws := by
  obtain ⟨a, m, u, mw, uw, e, h1, h2, h3, h4⟩ := h
  exact ⟨a, m, u, mw, uw, e, t _ _ h1, h2.mono t, h3.mono _ t, h4⟩
abbrev sp_asked (T : Txt K mg w) : Sp := spEat T.aW T.aL noA (fun _ => askedP) (fun _ => AskedAt)
theorem ofP_eq {r : Ws} : ofP r = mustP "of" r := by cases r <;> rfl
theorem sc_asked_from : FnScope ["words", "measure"] ["words"] (defScope (top 22)) := ⟨rfl, rfl, rfl, by decide +kernel, rfl, by decide +kernel, by decide +kernel⟩
theorem ok_asked_from (T : Txt K mg w) : FnOk P w K mg base (L2.CX P w) 28 T.asked_from.f T.asked_from.fd ["words"] (sp_asked T) := by
  refine T.asked_from.F.okX sc_asked_from (fun vs H Q E h => ?_) (fun cdv A outer s H vs Q E hr h => ?_)
  · obtain ⟨_, wd, l, pre, r, rfl, _⟩ := h
    rfl
  · obtain ⟨_, wd, l, pre, r, rfl, W, kS, kN⟩ := h
    refine ⟨_, (pss_cons (ps_set (i := 1) sc_asked_from.nd rfl (Or.inl rfl) (pe_call (ok_measure_from T) (hr.mono (by first | decide | omega)) rfl T.measure_from.g T.measure_from.F.kp T.measure_from.b .nil passX (pa_cons (pv 0) pa_nil)))
      (pss_cons (ps_expr (pe_meth (pv 0) T.cl_Words T.Words_must_be.m (ok_Words_must_be T) (hr.mono (by first | decide | omega)) T.Words_must_be.b .nil passX (pa_cons pe_str pa_nil)))
      (pss_one (ps_ret (pe_tup (pa_cons (pe_call (ok_view_from T) (hr.mono (by first | decide | omega)) rfl T.view_from.g T.view_from.F.kp T.view_from.b .nil passX (pa_cons (pv 0) (pa_cons (pe_cst rfl T.c_VIEWS_DEEP) pa_nil))) (pa_cons (pv 1) pa_nil))))))), ?_⟩
    refine ⟨_, rfl, (), wd, l, _, r, rfl, W, fun cs1 r1 v1 H1 e1 hr1 hR1 W1 S1 => ?_, fun e1 H' hS => kN (thenP_none e1) _ hS⟩
    obtain ⟨dx1, ho1⟩ := W1.ob
    refine ⟨_, rfl, wd, dx1, _, rfl, ho1, no_must _ _, "of", wd, l, _, r1, rfl, W1, fun cs2 r2 v2 H2 e2 hr2 hR2 W2 S2 => ?_, fun e2 H' hS => kN ((thenP_some e1).trans (thenP_none (ofP_eq.trans e2))) _ (S1.trans hS)⟩
    obtain ⟨rfl, rfl⟩ := hR2
    have e2' : ofP r1 = some r2 := ofP_eq.trans e2
    refine ⟨_, rfl, (), wd, l, _, r2, rfl, W2, fun cs3 r3 v3 H3 e3 hr3 hR3 W3 S3 => ⟨_, rfl, sz2, fun p hp => ?_⟩, fun e3 H' hS => kN ((thenP_some e1).trans ((thenP_some e2').trans e3)) _ ((S1.trans S2).trans hS)⟩
    refine kS (cs1 ++ ("of" : Str) :: cs3) r3 _ _ ((thenP_some e1).trans ((thenP_some e2').trans e3)) (by rw [hr1, hr2, hr3]; simp) ⟨p, v1, v3, cs1, cs3, rfl, upd_same, hR1.mono (((S2.tups W1.ntup).trans (S3.tups W2.ntup)).trans (tups_laid hp)), hR3.mono _ (tups_laid hp), rfl⟩ (by simpa [List.append_assoc] using W3.laid hp) (((S1.trans S2).trans S3).laid hp)
end
end BD
/-! W7: askings and rows read. -/
namespace BD
open PySem PySem.Spec L2 TL
open PyProof.Rows hiding St
local macro_rules | `(tactic| walk_at "g") => `(tactic| repeat (first | refine ⟨_, rfl, ?_⟩ | refine ⟨_, _, rfl, rfl, ?_⟩ | refine ⟨rfl, ?_⟩))
/-- numbers that stand for words -/
def Nums (ns : List Int) (xs : Ws) : Prop := All2 (fun n x => numP x = some n) ns xs
def AskAt (head : Str) (H : Hp) (v : V) (ws : Ws) : Prop := ∃ a nm, v = .ref a ∧ isNm nm = true ∧
  ((head = "pick" ∧ ∃ c vs wss n1 n2 n3 x1 x2 x3, H a = some (.tup [.str "pick", .str nm, .ref c, .int n1, .int n2, .int n3]) ∧ H c = some (.tup vs) ∧ vs.length ≤ 9 ∧ All2 (AskedAt H) vs wss ∧
      numP x1 = some n1 ∧ numP x2 = some n2 ∧ numP x3 = some n3 ∧ ws = nm :: x1 :: x2 :: x3 :: strI vs.length :: wss.flatten) ∨
   (head ≠ "pick" ∧ ∃ u m mw uw ns xs, H a = some (.tup (.str head :: .str nm :: u :: m :: ns.map V.int)) ∧ Nums ns xs ∧ ns.length = (if head = "ask" then 4 else 3) ∧ MeasAt H m mw ∧ ViewAt 8 H u uw ∧ ws = nm :: (xs ++ (mw ++ ("of" : Str) :: uw))))
theorem AskAt.mono {head : Str} {H H' : Hp} {v : V} {ws : Ws} (t : Tups H H') (h : AskAt head H v ws) : AskAt head H' v ws := by
  obtain ⟨a, nm, e, hn, h⟩ := h
  refine ⟨a, nm, e, hn, ?_⟩
  rcases h with ⟨h0, c, vs, wss, n1, n2, n3, x1, x2, x3, h1, h2, h9, h3, h4⟩ | ⟨h0, u, m, mw, uw, ns, xs, h1, h2, hl, h3, h4, h5⟩
  · exact .inl ⟨h0, c, vs, wss, n1, n2, n3, x1, x2, x3, t _ _ h1, t _ _ h2, h9, h3.imp fun _ _ h => h.mono t, h4⟩
  · exact .inr ⟨h0, u, m, mw, uw, ns, xs, t _ _ h1, h2, hl, h3.mono t, h4.mono _ t, h5⟩
section
variable {P : Program} {w : World} {K : PySem.W.Frag} {mg : Str → Option Value} {base : Heap}
abbrev sp_asking (T : Txt K mg w) : Sp := spEat T.aW T.aL (fun head : Str => [.str head]) askingP AskAt
theorem sc_asking_from : FnScope ["words", "head", "name", "numbers", "many", "choices", "k"] ["words", "head"] (defScope (top 23)) := ⟨rfl, rfl, rfl, by decide +kernel, rfl, by decide +kernel, by decide +kernel⟩
theorem ok_asking_from (T : Txt K mg w) : FnOk P w K mg base (L2.CX P w) 29 T.asking_from.f T.asking_from.fd ["words", "head"] (sp_asking T) := by
  refine T.asking_from.F.okX sc_asking_from (fun vs H Q E h => ?_) (fun cdv A outer s H vs Q E hr h => ?_)
  · obtain ⟨_, wd, l, pre, r, rfl, _⟩ := h
    rfl
  · obtain ⟨head, wd, l, pre, r, rfl, W, kS, kN⟩ := h
    refine ⟨_, (pss_cons (ps_set (i := 2) sc_asking_from.nd rfl (Or.inl rfl) (pe_meth0 (pv 0) T.cl_Words T.Words_name.m (ok_Words_name T) (hr.mono (by first | decide | omega)) T.Words_name.b .nil passX))
      (pss_cons (ps_if (pt_cmpR op_eq (pv 1) pe_str (nomark _)) (pss_cons (ps_set (i := 3) sc_asking_from.nd rfl (Or.inl rfl) (pe_tup (pa_cons (pe_meth0 (pv 0) T.cl_Words T.Words_number.m (ok_Words_number T) (hr.mono (by first | decide | omega)) T.Words_number.b .nil passX) (pa_cons (pe_meth0 (pv 0) T.cl_Words T.Words_number.m (ok_Words_number T) (hr.mono (by first | decide | omega)) T.Words_number.b .nil passX) (pa_cons (pe_meth0 (pv 0) T.cl_Words T.Words_number.m (ok_Words_number T) (hr.mono (by first | decide | omega)) T.Words_number.b .nil passX) pa_nil)))))
      (pss_cons (ps_set (i := 4) sc_asking_from.nd rfl (Or.inl rfl) (pe_meth (pv 0) T.cl_Words T.Words_within.m (ok_Words_within T) (hr.mono (by first | decide | omega)) T.Words_within.b .nil passX (pa_cons pe_int (pa_cons pe_int pa_nil))))
      (pss_cons (ps_set (i := 5) sc_asking_from.nd rfl (Or.inl rfl) (pe_callTy call_tuple_of (by rfl) T.n_tuple (by decide +kernel) (pa_cons (pe_lcX (own := [("k", 6)]) (g := gName 6) rfl sc_asking_from.nd rfl rfl (takes_of rfl rfl rfl rfl) (pi_range1 rfl T.n_range (pa_cons (pv 4) pa_nil)) (blkOk_by (own := [("k", 6)]) (N := ["words", "head", "name", "numbers", "many", "choices", "k"]) (sc := defScope (top 23)) (by decide +kernel)) (fun _ _ _ _ _ _ => pg_name (i := 6) sc_asking_from.nd rfl (Or.inl rfl)) (fun _ _ _ _ _ _ ps => (pe_call (ok_asked_from T) (hr.mono (by first | decide | omega)) rfl T.asked_from.g T.asked_from.F.kp T.asked_from.b .nil ps (pa_cons (pv 0) pa_nil)))) pa_nil)))
      (pss_one (ps_ret (pe_op op_catT (pe_tup (pa_cons pe_str (pa_cons (pv 2) (pa_cons (pv 5) pa_nil)))) (pv 3))))))) pss_nil)
      (pss_cons (ps_set (i := 3) sc_asking_from.nd rfl (Or.inl rfl) (pe_tup (pa_cons (pe_meth0 (pv 0) T.cl_Words T.Words_number.m (ok_Words_number T) (hr.mono (by first | decide | omega)) T.Words_number.b .nil passX) (pa_cons (pe_meth0 (pv 0) T.cl_Words T.Words_number.m (ok_Words_number T) (hr.mono (by first | decide | omega)) T.Words_number.b .nil passX) (pa_cons (pe_meth0 (pv 0) T.cl_Words T.Words_number.m (ok_Words_number T) (hr.mono (by first | decide | omega)) T.Words_number.b .nil passX) pa_nil)))))
      (C8.pss_cut (ps_if (pt_cmpR op_eq (pv 1) pe_str (nomark _)) (pss_one (ps_set (i := 3) sc_asking_from.nd rfl (Or.inl rfl) (pe_op op_catT (pv 3) (pe_tup (pa_cons (pe_meth0 (pv 0) T.cl_Words T.Words_number.m (ok_Words_number T) (hr.mono (by first | decide | omega)) T.Words_number.b .nil passX) pa_nil))))) pss_nil)
      (pss_one (ps_ret (pe_op op_catT (pe_op op_catT (pe_tup (pa_cons (pv 1) (pa_cons (pv 2) pa_nil))) (pe_call (ok_asked_from T) (hr.mono (by first | decide | omega)) rfl T.asked_from.g T.asked_from.F.kp T.asked_from.b .nil passX (pa_cons (pv 0) pa_nil))) (pv 3)))))))), ?_⟩
    obtain ⟨dx, ho⟩ := W.ob
    refine ⟨_, rfl, wd, dx, _, rfl, ho, no_name _ _, (), wd, l, _, r, rfl, W, fun cs r0 v H0 e0 hr0 hR W0 S0 => ?_, fun e H' hS => kN ?_ _ hS⟩
    case refine_2 =>
      cases r with
      | nil => rfl
      | cons a r =>
        have : ¬ isNm a = true := fun z => by simp [nameP, z] at e
        simp only [askingP, if_neg this]
    obtain ⟨nm, rfl, rfl, hnm⟩ := hR
    subst hr0
    have hT : askingP head (nm :: r0) = (if head = "pick" then thenP (times numR 3) manyP r0 else thenP (times numR 3) (if head = "ask" then thenP numR askedP else askedP) r0) := by
      simp only [askingP, if_pos hnm]
    refine ⟨_, rfl, rfl, _, rfl, ?_⟩
    by_cases hp : head = "pick"
    · rw [dec_eq hp]
      have hT : askingP head (nm :: r0) = thenP (times numR 3) manyP r0 := by rw [hT, if_pos hp]
      refine iteT ?_
      obtain ⟨dx0, ho0⟩ := W0.ob
      refine ⟨_, rfl, wd, dx0, _, rfl, ho0, no_number _ _, (), wd, l, _, r0, rfl, W0, fun cs1 r1 v1 H1 e1 hr1 hR1 W1 S1 => ?_, fun e H' hS => kN (hT.trans (thenP_none (times_none e))) _ (S0.trans hS)⟩
      obtain ⟨n1, x1, rfl, rfl, hx1⟩ := hR1
      obtain ⟨dx1, ho1⟩ := W1.ob
      refine ⟨_, rfl, wd, dx1, _, rfl, ho1, no_number _ _, (), wd, l, _, r1, rfl, W1, fun cs2 r2 v2 H2 e2 hr2 hR2 W2 S2 => ?_, fun e H' hS => kN (hT.trans (thenP_none ((times_some e1).trans (times_none e)))) _ ((S0.trans S1).trans hS)⟩
      obtain ⟨n2, x2, rfl, rfl, hx2⟩ := hR2
      obtain ⟨dx2, ho2⟩ := W2.ob
      refine ⟨_, rfl, wd, dx2, _, rfl, ho2, no_number _ _, (), wd, l, _, r2, rfl, W2, fun cs3 r3 v3 H3 e3 hr3 hR3 W3 S3 => ?_, fun e H' hS => kN (hT.trans (thenP_none ((times_some e1).trans ((times_some e2).trans (times_none e))))) _ (((S0.trans S1).trans S2).trans hS)⟩
      obtain ⟨n3, x3, rfl, rfl, hx3⟩ := hR3
      have e123 : times numR 3 r0 = some r3 := (times_some e1).trans ((times_some e2).trans (times_some e3))
      refine ⟨sz3, fun p hp3 => ?_⟩
      have W3p := W3.laid (o := .tup [.int n1, .int n2, .int n3]) hp3
      have S3p := ((S0.trans S1).trans S2).trans (S3.laid (o := .tup [.int n1, .int n2, .int n3]) hp3)
      obtain ⟨dx3, ho3⟩ := W3p.ob
      refine ⟨_, rfl, wd, dx3, _, rfl, ho3, no_within _ _, (0, 9), wd, l, _, r3, rfl, W3p, fun cs4 r4 v4 H4 e4 hr4 hR4 W4 S4 => ?_, fun e H' hS => kN (hT.trans ((thenP_some e123).trans (by unfold manyP; rw [within_none e, bindS_none]))) _ (S3p.trans hS)⟩
      obtain ⟨many, x4, rfl, rfl, hx4, b1, b9⟩ := hR4
      subst hr4
      obtain ⟨m, rfl⟩ := nat_of (show 0 ≤ many from b1)
      have b9 : (m : Int) ≤ 9 := b9
      have hM : manyP ([x4] ++ r4) = times askedP m r4 := by
        show manyP (x4 :: r4) = _
        unfold manyP
        rw [within_eq hx4 b1 b9, bindS_some]
        rfl
      have hpw : p ≠ wd := fun z => by
        obtain ⟨dx, e⟩ := W3.ob
        rw [z, e] at hp3
        cases hp3
      have hp4 : H4 p = some (.tup [.int n1, .int n2, .int n3]) := S4 p _ hpw upd_same
      refine ⟨_, rfl, _, rfl, by omega, by omega, fun D hD => ?_⟩
      refine lc_eat (n := m) (cL := T.aL) (E := E) (rec := askedP) (Res := AskedAt) (fun _ _ _ _ t h => AskedAt.mono t h) hD W4 (by omega) ?_ (fun j H5 pre1 r5 Q1 Wk Sk k1 k2 => ?_) (fun e H' hS => kN (hT.trans ((thenP_some e123).trans (hM.trans e))) H' ((S3p.trans S4).trans hS)) (fun H' us uss r' e hr hres hlen W5 S5 hD5 => ?_)
      · exact fun v => rfl
      · exact ⟨_, rfl, (), wd, l, pre1, r5, rfl, Wk, k1, k2⟩
      · refine ⟨D, us, rfl, .inl ⟨SqL.of hD5, fun t ht => ?_⟩⟩
        have hp5 : H' p = some (.tup [.int n1, .int n2, .int n3]) := S5 p _ hpw hp4
        have hpt : upd H' t (.tup us) p = some (.tup [.int n1, .int n2, .int n3]) := by rw [upd_ne (ne_of_none hp5 ht)]; exact hp5
        refine ⟨_, rfl, _, rfl, sz3, fun q hq => ?_⟩
        have hpq : upd (upd H' t (.tup us)) q (.tup [.str "pick", .str nm, .ref t]) p = some (.tup [.int n1, .int n2, .int n3]) := by rw [upd_ne (ne_of_none hpt hq)]; exact hpt
        refine ⟨_, rfl, q, p, _, _, rfl, rfl, SqT.of upd_same, SqT.of hpq, by simp, sz1000 (by show 3 + 3 ≤ 1000; decide), fun z => (nomatch z), fun _ a ha => ?_⟩
        have ttq : t ≠ q := fun z => by rw [← z, upd_same] at hq; cases hq
        have tt2 : upd (upd H' t (.tup us)) q (.tup [.str "pick", .str nm, .ref t]) t = some (.tup us) := by rw [upd_ne ttq]; exact upd_same
        have tu : Tups H' (upd (upd (upd H' t (.tup us)) q (.tup [.str "pick", .str nm, .ref t])) a (.tup ([.str "pick", .str nm, .ref t] ++ [.int n1, .int n2, .int n3]))) := ((tups_laid ht).trans (tups_laid hq)).trans (tups_laid ha)
        have ex : x4 = strI m := (numP_str hx4).symm
        refine kS ([nm] ++ ([x1] ++ ([x2] ++ ([x3] ++ ([x4] ++ uss.flatten))))) r' _ _ (hT.trans ((thenP_some e123).trans (hM.trans e))) (by rw [hr1, hr2, hr3, hr]; simp)
          ⟨a, nm, rfl, hnm, .inl ⟨hp, t, us, uss, n1, n2, n3, x1, x2, x3, upd_same, by rw [upd_ne (ne_of_none tt2 ha)]; exact tt2, by omega, hres.imp fun _ _ h => h.mono tu, hx1, hx2, hx3, by rw [hlen, ex]; rfl⟩⟩ ?_ ((((S3p.trans S4).trans S5).laid ht).laid hq |>.laid ha)
        have := ((W5.laid (o := .tup us) ht).laid (o := .tup [.str "pick", .str nm, .ref t]) hq).laid (o := .tup ([.str "pick", .str nm, .ref t] ++ [.int n1, .int n2, .int n3])) ha
        simpa [List.append_assoc] using this
    rw [dec_ne hp]
    have hT : askingP head (nm :: r0) = thenP (times numR 3) (if head = "ask" then thenP numR askedP else askedP) r0 := by rw [hT, if_neg hp]
    refine iteF ?_
    obtain ⟨dx0, ho0⟩ := W0.ob
    refine ⟨_, rfl, wd, dx0, _, rfl, ho0, no_number _ _, (), wd, l, _, r0, rfl, W0, fun cs1 r1 v1 H1 e1 hr1 hR1 W1 S1 => ?_, fun e H' hS => kN (hT.trans (thenP_none (times_none e))) _ (S0.trans hS)⟩
    obtain ⟨n1, x1, rfl, rfl, hx1⟩ := hR1
    obtain ⟨dx1, ho1⟩ := W1.ob
    refine ⟨_, rfl, wd, dx1, _, rfl, ho1, no_number _ _, (), wd, l, _, r1, rfl, W1, fun cs2 r2 v2 H2 e2 hr2 hR2 W2 S2 => ?_, fun e H' hS => kN (hT.trans (thenP_none ((times_some e1).trans (times_none e)))) _ ((S0.trans S1).trans hS)⟩
    obtain ⟨n2, x2, rfl, rfl, hx2⟩ := hR2
    obtain ⟨dx2, ho2⟩ := W2.ob
    refine ⟨_, rfl, wd, dx2, _, rfl, ho2, no_number _ _, (), wd, l, _, r2, rfl, W2, fun cs3 r3 v3 H3 e3 hr3 hR3 W3 S3 => ?_, fun e H' hS => kN (hT.trans (thenP_none ((times_some e1).trans ((times_some e2).trans (times_none e))))) _ (((S0.trans S1).trans S2).trans hS)⟩
    obtain ⟨n3, x3, rfl, rfl, hx3⟩ := hR3
    have e123 : times numR 3 r0 = some r3 := (times_some e1).trans ((times_some e2).trans (times_some e3))
    refine ⟨sz3, fun p hp3 => ?_⟩
    have W3p := W3.laid (o := .tup [.int n1, .int n2, .int n3]) hp3
    have S3p := ((S0.trans S1).trans S2).trans (S3.laid (o := .tup [.int n1, .int n2, .int n3]) hp3)
    refine ⟨fun σ' H' => ∃ (p : Addr) (ns : List Int) (xs rest : Ws), σ' = [some (.ref wd), some (.str head), some (.str nm), some (.ref p), none, none, none] ∧ H' p = some (.tup (ns.map V.int)) ∧ Nums ns xs ∧ ns.length = (if head = "ask" then 4 else 3) ∧ r0 = xs ++ rest ∧
      askingP head (nm :: r0) = askedP rest ∧ WA T.aW H' wd l (pre ++ [nm] ++ xs) rest ∧ SB wd H H', ?_, ?_⟩
    · refine ⟨_, rfl, rfl, _, rfl, ?_⟩
      by_cases ha : head = "ask"
      · rw [dec_eq ha]
        have hT : askingP head (nm :: r0) = thenP numR askedP r3 := by rw [hT, if_pos ha]; exact thenP_some e123
        obtain ⟨dx3, ho3⟩ := W3p.ob
        refine iteT ⟨_, rfl, _, rfl, wd, dx3, _, rfl, ho3, no_number _ _, (), wd, l, _, r3, rfl, W3p, fun cs4 r4 v4 H4 e4 hr4 hR4 W4 S4 => ?_, fun e H' hS => kN (hT.trans (thenP_none e)) _ (S3p.trans hS)⟩
        obtain ⟨n4, x4, rfl, rfl, hx4⟩ := hR4
        have hpw : p ≠ wd := fun z => by
          obtain ⟨dx, e⟩ := W3.ob
          rw [z, e] at hp3
          cases hp3
        have hp4 : H4 p = some (.tup [.int n1, .int n2, .int n3]) := S4 p _ hpw upd_same
        refine ⟨sz1, fun q hq => ⟨p, q, _, _, rfl, rfl, SqT.of (by rw [upd_ne (ne_of_none hp4 hq)]; exact hp4), SqT.of upd_same, by simp, sz1000 (by show 3 + 1 ≤ 1000; decide), fun z => (nomatch z), fun _ t ht => ?_⟩⟩
        refine ⟨t, [n1, n2, n3, n4], [x1, x2, x3, x4], r4, rfl, upd_same, .cons hx1 (.cons hx2 (.cons hx3 (.cons hx4 .nil))), by rw [if_pos ha]; rfl, by rw [hr1, hr2, hr3, hr4]; rfl, hT.trans (thenP_some e4), ?_, ((S3p.trans S4).laid hq).laid ht⟩
        have := (W4.laid (o := .tup [.int n4]) hq).laid (o := .tup ([.int n1, .int n2, .int n3] ++ [.int n4])) ht
        simpa [List.append_assoc] using this
      · rw [dec_ne ha]
        refine iteF ⟨p, [n1, n2, n3], [x1, x2, x3], r3, rfl, upd_same, .cons hx1 (.cons hx2 (.cons hx3 .nil)), by rw [if_neg ha]; rfl, by rw [hr1, hr2, hr3]; rfl, ?_, ?_, S3p⟩
        · rw [hT, if_neg ha]
          exact thenP_some e123
        · simpa [List.append_assoc] using W3p
    · rintro σ' H5 ⟨p, ns, xs, rest, rfl, hpn, hns, hnl, hr0, hT, W5, S5⟩
      have hpw : p ≠ wd := fun z => by
        obtain ⟨dx, e⟩ := W5.ob
        rw [z, e] at hpn
        cases hpn
      refine ⟨_, rfl, _, rfl, sz2, fun q hq => ?_⟩
      have W5q := W5.laid (o := .tup [.str head, .str nm]) hq
      have hqw : q ≠ wd := fun z => by
        obtain ⟨dx, e⟩ := W5.ob
        rw [z, e] at hq
        cases hq
      refine ⟨_, rfl, (), wd, l, _, rest, rfl, W5q, fun cs6 r6 v6 H6 e6 hr6 hR6 W6 S6 => ?_, fun e H' hS => kN (hT.trans e) _ ((S5.laid hq).trans hS)⟩
      obtain ⟨a6, m6, u6, mw, uw, rfl, ha6, hm6, hu6, hcs6⟩ := hR6
      have hq6 : H6 q = some (.tup [.str head, .str nm]) := S6 q _ hqw upd_same
      have hp6 : H6 p = some (.tup (ns.map V.int)) := S6 p _ hpw (by rw [upd_ne (ne_of_none hpn hq)]; exact hpn)
      refine ⟨q, a6, _, _, rfl, rfl, SqT.of hq6, SqT.of ha6, by simp, sz1000 (by show 2 + 2 ≤ 1000; decide), fun z => (nomatch z), fun _ t ht => ?_⟩
      have nlen : ns ≠ [] := fun z => by rw [z] at hnl; split at hnl <;> simp at hnl
      have nle : ns.length ≤ 4 := by rw [hnl]; split <;> decide
      refine ⟨_, rfl, t, p, _, _, rfl, rfl, SqT.of upd_same, SqT.of (by rw [upd_ne (ne_of_none hp6 ht)]; exact hp6), by simp, sz1000 (by rw [List.length_map]; show 4 + ns.length ≤ 1000; omega), fun z => absurd (List.map_eq_nil_iff.mp z) nlen, fun _ a ha => ?_⟩
      have tu : Tups H6 (upd (upd H6 t (.tup ([.str head, .str nm] ++ [u6, m6]))) a (.tup (([.str head, .str nm] ++ [u6, m6]) ++ ns.map V.int))) := (tups_laid ht).trans (tups_laid ha)
      refine kS ([nm] ++ (xs ++ cs6)) r6 _ _ (hT.trans e6) (by rw [hr0, hr6]; simp) ⟨a, nm, rfl, hnm, .inr ⟨hp, u6, m6, mw, uw, ns, xs, upd_same, hns, hnl, hm6.mono tu, hu6.mono _ tu, by rw [hcs6]; rfl⟩⟩ ?_ ((((S5.laid hq).trans S6).laid ht).laid ha)
      have := (W6.laid (o := .tup ([.str head, .str nm] ++ [u6, m6])) ht).laid (o := .tup (([.str head, .str nm] ++ [u6, m6]) ++ ns.map V.int)) ha
      simpa [List.append_assoc] using this
end
end BD
/-! W8: a row read. -/
namespace BD
open PySem PySem.Spec L2 TL
open PyProof.Rows hiding St
local macro_rules | `(tactic| walk_at "g") => `(tactic| repeat (first | refine ⟨_, rfl, ?_⟩ | refine ⟨_, _, rfl, rfl, ?_⟩ | refine ⟨rfl, ?_⟩))
/-- what opens a block -/
def OpenAt (H : Hp) (v : V) (ws : Ws) (b : BK) : Prop := ∃ a, v = .ref a ∧ match b with
  | .iff => ∃ t tw, H a = some (.tup [.str "if", t]) ∧ TermAt 14 H t tw ∧ ws = ("if" : Str) :: tw
  | .parts => ∃ t tw, H a = some (.tup [.str "parts", t]) ∧ TermAt 14 H t tw ∧ ws = ("parts" : Str) :: tw
  | .draw => ∃ m n x y, H a = some (.tup [.str "draw", .int m, .int n]) ∧ numP x = some m ∧ numP y = some n ∧ ws = [(("draw" : Str)), x, y]
  | .on => ∃ u uw, H a = some (.tup [.str "on", u]) ∧ ViewAt 8 H u uw ∧ ws = ("on" : Str) :: uw
  | _ => False
theorem OpenAt.mono {H H' : Hp} {v : V} {ws : Ws} {b : BK} (t : Tups H H') (h : OpenAt H v ws b) : OpenAt H' v ws b := by
  obtain ⟨a, e, h⟩ := h
  refine ⟨a, e, ?_⟩
  cases b with
  | iff => obtain ⟨u, uw, h1, h2, h3⟩ := h; exact ⟨u, uw, t _ _ h1, h2.mono _ t, h3⟩
  | parts => obtain ⟨u, uw, h1, h2, h3⟩ := h; exact ⟨u, uw, t _ _ h1, h2.mono _ t, h3⟩
  | draw => obtain ⟨m, n, x, y, h1, h2⟩ := h; exact ⟨m, n, x, y, t _ _ h1, h2⟩
  | on => obtain ⟨u, uw, h1, h2, h3⟩ := h; exact ⟨u, uw, t _ _ h1, h2.mono _ t, h3⟩
  | els => exact h
  | key => exact h
def SaidAt (H : Hp) (v : V) (ws : Ws) (k : RK) : Prop := match k with
  | .ask => ∃ (head : Str) (cs : Ws), (head = "ask" ∨ head = "flat" ∨ head = "pick") ∧ AskAt head H v cs ∧ ws = head :: cs
  | .opn b => OpenAt H v ws b
  | .key => ∃ a n x, v = .ref a ∧ H a = some (.tup [.str "key", .int n]) ∧ numP x = some n ∧ ws = [(("key" : Str)), x]
  | .width => ∃ a n x, v = .ref a ∧ H a = some (.tup [.str "width", .int n]) ∧ numP x = some n ∧ ws = [(("width" : Str)), x]
  | .els => ∃ a, v = .ref a ∧ H a = some (.tup [.str "else"]) ∧ ws = [(("else" : Str))]
  | .nd => ∃ a, v = .ref a ∧ H a = some (.tup [.str "end"]) ∧ ws = [(("end" : Str))]
theorem SaidAt.mono {H H' : Hp} {v : V} {ws : Ws} {k : RK} (t : Tups H H') (h : SaidAt H v ws k) : SaidAt H' v ws k := by
  cases k with
  | ask => obtain ⟨head, cs, h1, h2, h3⟩ := h; exact ⟨head, cs, h1, h2.mono t, h3⟩
  | opn b => exact OpenAt.mono t h
  | key => obtain ⟨a, n, x, h1, h2, h3⟩ := h; exact ⟨a, n, x, h1, t _ _ h2, h3⟩
  | width => obtain ⟨a, n, x, h1, h2, h3⟩ := h; exact ⟨a, n, x, h1, t _ _ h2, h3⟩
  | els => obtain ⟨a, h1, h2, h3⟩ := h; exact ⟨a, h1, t _ _ h2, h3⟩
  | nd => obtain ⟨a, h1, h2, h3⟩ := h; exact ⟨a, h1, t _ _ h2, h3⟩

/-! ### tests of one text against two or three -/
theorem or3 {i : Nat} {x a b c : Str} {σ : L2.St} {H : Hp} {Q : Bool → Hp → Prop} (hσ : σ[i]? = some (some (.str x))) (h : Q (decide (x = a ∨ x = b ∨ x = c)) H) :
    tOr (tTest (tOp rEq (tVar i) (tC (.str a)))) (tOr (tTest (tOp rEq (tVar i) (tC (.str b)))) (tTest (tOp rEq (tVar i) (tC (.str c))))) σ H Q := by
  refine ⟨_, hσ, rfl, _, rfl, ?_⟩
  by_cases h1 : x = a
  · rw [dec_eq h1]
    rw [decide_eq_true (.inl h1)] at h
    exact iteT h
  rw [dec_ne h1]
  refine iteF ⟨_, hσ, rfl, _, rfl, ?_⟩
  by_cases h2 : x = b
  · rw [dec_eq h2]
    rw [decide_eq_true (.inr (.inl h2))] at h
    exact iteT h
  rw [dec_ne h2]
  refine iteF ⟨_, hσ, rfl, _, rfl, ?_⟩
  by_cases h3 : x = c
  · rw [dec_eq h3]
    rw [decide_eq_true (.inr (.inr h3))] at h
    exact h
  rw [dec_ne h3]
  rw [decide_eq_false (fun z => z.elim h1 fun z => z.elim h2 h3)] at h
  exact h
theorem or2 {i : Nat} {x a b : Str} {σ : L2.St} {H : Hp} {Q : Bool → Hp → Prop} (hσ : σ[i]? = some (some (.str x))) (h : Q (decide (x = a ∨ x = b)) H) :
    tOr (tTest (tOp rEq (tVar i) (tC (.str a)))) (tTest (tOp rEq (tVar i) (tC (.str b)))) σ H Q := by
  refine ⟨_, hσ, rfl, _, rfl, ?_⟩
  by_cases h1 : x = a
  · rw [dec_eq h1]
    rw [decide_eq_true (.inl h1)] at h
    exact iteT h
  rw [dec_ne h1]
  refine iteF ⟨_, hσ, rfl, _, rfl, ?_⟩
  by_cases h2 : x = b
  · rw [dec_eq h2]
    rw [decide_eq_true (.inr h2)] at h
    exact h
  rw [dec_ne h2]
  rw [decide_eq_false (fun z => z.elim h1 h2)] at h
  exact h
theorem fin_none {r : Ws} {k : RK} (h : r ≠ []) : fin (some r) k = none := by
  cases r with
  | nil => exact absurd rfl h
  | cons a r => rfl
section
variable {P : Program} {w : World} {K : PySem.W.Frag} {mg : Str → Option Value} {base : Heap}
def sp_said (aL : Addr) : Sp := fun vs H Q E => ∃ row : Str, vs = [.str row] ∧ row.length + 2 ≤ sizeLine ∧
  (∀ k v H', rowP row = some k → SaidAt H' v (wordsOf row) k → Same H H' → Q v H') ∧ (rowP row = none → ∀ H', Same H H' → E (.ref aL) none H')
theorem sc_said_in : FnScope ["row", "words", "head", "said"] ["row"] (defScope (top 24)) := ⟨rfl, rfl, rfl, by decide +kernel, rfl, by decide +kernel, by decide +kernel⟩
theorem ok_said_in (T : Txt K mg w) : FnOk P w K mg base (L2.CX P w) 30 T.said_in.f T.said_in.fd ["row"] (sp_said T.aL) := by
  refine T.said_in.F.okX sc_said_in (fun vs H Q E h => ?_) (fun cdv A outer s H vs Q E hr h => ?_)
  · obtain ⟨row, rfl, _⟩ := h
    rfl
  · obtain ⟨row, rfl, hz, kS, kN⟩ := h
    refine ⟨_, (pss_cons (ps_set (i := 1) sc_said_in.nd rfl (Or.inl rfl) (pe_make T.Words_init.mkk (ok_Words_init T) (hr.mono (by first | decide | omega)) rfl T.Words_init.g T.Words_init.b .nil pass0 (pa_cons (pv 0) pa_nil)))
      (pss_cons (ps_set (i := 2) sc_said_in.nd rfl (Or.inl rfl) (pe_meth0 (pv 1) T.cl_Words T.Words_word.m (ok_Words_word T) (hr.mono (by first | decide | omega)) T.Words_word.b .nil passX))
      (C8.pss_cut (ps_if (PW.pt (pw_or (pt_cmpR op_eq (pv 2) pe_str (nomark _)) (pw_or (pt_cmpR op_eq (pv 2) pe_str (nomark _)) (pw_or1 (pt_cmpR op_eq (pv 2) pe_str (nomark _)))))) (pss_one (ps_set (i := 3) sc_said_in.nd rfl (Or.inl rfl) (pe_call (ok_asking_from T) (hr.mono (by first | decide | omega)) rfl T.asking_from.g T.asking_from.F.kp T.asking_from.b .nil passX (pa_cons (pv 1) (pa_cons (pv 2) pa_nil))))) (pss_one (ps_if (PW.pt (pw_or (pt_cmpR op_eq (pv 2) pe_str (nomark _)) (pw_or1 (pt_cmpR op_eq (pv 2) pe_str (nomark _))))) (pss_one (ps_set (i := 3) sc_said_in.nd rfl (Or.inl rfl) (pe_tup (pa_cons (pv 2) (pa_cons (pe_call (ok_term_from T) (hr.mono (by first | decide | omega)) rfl T.term_from.g T.term_from.F.kp T.term_from.b .nil passX (pa_cons (pv 1) (pa_cons (pe_cst rfl T.c_TERMS_DEEP) pa_nil))) pa_nil))))) (pss_one (ps_if (pt_cmpR op_eq (pv 2) pe_str (nomark _)) (pss_one (ps_set (i := 3) sc_said_in.nd rfl (Or.inl rfl) (pe_tup (pa_cons (pv 2) (pa_cons (pe_meth0 (pv 1) T.cl_Words T.Words_number.m (ok_Words_number T) (hr.mono (by first | decide | omega)) T.Words_number.b .nil passX) (pa_cons (pe_meth0 (pv 1) T.cl_Words T.Words_number.m (ok_Words_number T) (hr.mono (by first | decide | omega)) T.Words_number.b .nil passX) pa_nil)))))) (pss_one (ps_if (pt_cmpR op_eq (pv 2) pe_str (nomark _)) (pss_one (ps_set (i := 3) sc_said_in.nd rfl (Or.inl rfl) (pe_tup (pa_cons (pv 2) (pa_cons (pe_call (ok_view_from T) (hr.mono (by first | decide | omega)) rfl T.view_from.g T.view_from.F.kp T.view_from.b .nil passX (pa_cons (pv 1) (pa_cons (pe_cst rfl T.c_VIEWS_DEEP) pa_nil))) pa_nil))))) (pss_one (ps_if (PW.pt (pw_or (pt_cmpR op_eq (pv 2) pe_str (nomark _)) (pw_or1 (pt_cmpR op_eq (pv 2) pe_str (nomark _))))) (pss_one (ps_set (i := 3) sc_said_in.nd rfl (Or.inl rfl) (pe_tup (pa_cons (pv 2) (pa_cons (pe_meth0 (pv 1) T.cl_Words T.Words_number.m (ok_Words_number T) (hr.mono (by first | decide | omega)) T.Words_number.b .nil passX) pa_nil))))) (pss_one (ps_if (PW.pt (pw_or (pt_cmpR op_eq (pv 2) pe_str (nomark _)) (pw_or1 (pt_cmpR op_eq (pv 2) pe_str (nomark _))))) (pss_one (ps_set (i := 3) sc_said_in.nd rfl (Or.inl rfl) (pe_tup (pa_cons (pv 2) pa_nil)))) (pss_one (ps_raise rfl (takes_of rfl rfl rfl rfl) (pmk_own PySem.F.excBase_ValueError T.xL T.g_Lost T.kL (raises_own T.bL T.tL) (by exact rfl)))))))))))))))
      (pss_cons (ps_expr (pe_meth0 (pv 1) T.cl_Words T.Words_ended.m (ok_Words_ended T) (hr.mono (by first | decide | omega)) T.Words_ended.b .nil passX))
      (pss_one (ps_ret (pv 3))))))), ?_⟩
    refine ⟨_, rfl, fun wd dx hwd hdx hne => ?_⟩
    have s0 : Same H (upd (upd H dx (.own wd)) wd (.ins T.aW dx [])) := fun b o e => by
      rw [upd_ne (ne_of_none e hwd), upd_ne (ne_of_none e hdx)]
      exact e
    refine ⟨wd, dx, row, rfl, hz, upd_same, fun H0 l W0 S0 => ⟨rfl, ?_⟩⟩
    have s1 : Same H H0 := fun b o e => S0 b o (ne_of_none e hwd) (s0 b o e)
    have sOf : ∀ {H' : Hp}, SB wd H0 H' → Same H H' := fun {H'} hS b o e => hS b o (ne_of_none e hwd) (s1 b o e)
    obtain ⟨x, r0, er⟩ : ∃ x r0, wordsOf row = x :: r0 := by
      cases e : wordsOf row with
      | nil => exact absurd e (wordsOf_ne row)
      | cons x r => exact ⟨x, r, rfl⟩
    have hR : rowP row = rowW (x :: r0) := by unfold rowP; rw [er]
    rw [er] at W0
    obtain ⟨dx0, ho0⟩ := W0.ob
    refine ⟨_, rfl, wd, dx0, _, rfl, ho0, no_word _ _, (), wd, l, _, _, rfl, W0, fun cs r1 v H1 e hr1 hR1 W1 S1 => ?_, fun e H' hS => by cases e⟩
    obtain ⟨x', rfl, rfl, hx⟩ := hR1
    obtain ⟨rfl, rfl⟩ : x = x' ∧ r0 = r1 := by simpa using hr1
    have sN : ∀ {H' : Hp}, rowW (x :: r0) = none → SB wd H1 H' → E (.ref T.aL) none H' := fun {H'} e hS => kN (hR.trans e) _ (sOf (S1.trans hS))
    refine ⟨fun σ' H' => ∃ (k : RK) (cs r2 : Ws) (v : V), r0 = cs ++ r2 ∧ σ' = [some (.str row), some (.ref wd), some (.str x), some v] ∧ WA T.aW H' wd l ([x] ++ cs) r2 ∧ SB wd H0 H' ∧ SaidAt H' v (x :: cs) k ∧ rowW (x :: r0) = fin (some r2) k, ?_, ?_⟩
    · refine or3 rfl ?_
      by_cases a1 : x = "ask" ∨ x = "flat" ∨ x = "pick"
      · rw [decide_eq_true a1]
        have hT : rowW (x :: r0) = fin (askingP x r0) .ask := by simp only [rowW, if_pos a1]
        refine iteT ⟨_, rfl, _, rfl, x, wd, l, _, r0, rfl, W1, fun cs2 r2 v2 H2 e2 hr2 hR2 W2 S2 => ?_, fun e2 H' hS => sN (hT.trans (by rw [e2]; rfl)) hS⟩
        exact ⟨.ask, cs2, r2, v2, hr2, rfl, W2, S1.trans S2, ⟨x, cs2, a1, hR2, rfl⟩, hT.trans (by rw [e2])⟩
      rw [decide_eq_false a1]
      refine iteF (or2 rfl ?_)
      by_cases a2 : x = "if" ∨ x = "parts"
      · rw [decide_eq_true a2]
        have hT : ∃ b, (b = .iff ∧ x = "if" ∨ b = .parts ∧ x = "parts") ∧ rowW (x :: r0) = fin (termP 14 r0) (.opn b) := by
          by_cases h1 : x = "if"
          · exact ⟨.iff, .inl ⟨rfl, h1⟩, by simp only [rowW, if_neg a1, if_pos h1]⟩
          · have h2 := a2.resolve_left h1
            exact ⟨.parts, .inr ⟨rfl, h2⟩, by simp only [rowW, if_neg a1, if_neg h1, if_pos h2]⟩
        obtain ⟨b, hb, hT⟩ := hT
        refine iteT ⟨_, rfl, _, rfl, (), wd, l, _, r0, rfl, W1, fun cs2 r2 v2 H2 e2 hr2 hR2 W2 S2 => ⟨sz2, fun p hp => ?_⟩, fun e2 H' hS => sN (hT.trans (by rw [show termP 14 r0 = none from e2]; rfl)) hS⟩
        refine ⟨.opn b, cs2, r2, _, hr2, rfl, W2.laid hp, (S1.trans S2).laid hp, ?_, hT.trans (by rw [show termP 14 r0 = some r2 from e2])⟩
        rcases hb with ⟨rfl, rfl⟩ | ⟨rfl, rfl⟩
        · exact ⟨p, rfl, v2, cs2, upd_same, hR2.mono _ (tups_laid hp), rfl⟩
        · exact ⟨p, rfl, v2, cs2, upd_same, hR2.mono _ (tups_laid hp), rfl⟩
      rw [decide_eq_false a2]
      have n1 : x ≠ "if" := fun z => a2 (.inl z)
      have n2 : x ≠ "parts" := fun z => a2 (.inr z)
      refine iteF ⟨_, rfl, rfl, _, rfl, ?_⟩
      by_cases a3 : x = "draw"
      · rw [dec_eq a3]
        have hT : rowW (x :: r0) = fin (times numR 2 r0) (.opn .draw) := by simp only [rowW, if_neg a1, if_neg n1, if_neg n2, if_pos a3]
        obtain ⟨dx1, ho1⟩ := W1.ob
        refine iteT ⟨_, rfl, _, rfl, wd, dx1, _, rfl, ho1, no_number _ _, (), wd, l, _, r0, rfl, W1, fun cs2 r2 v2 H2 e2 hr2 hR2 W2 S2 => ?_, fun e2 H' hS => sN (hT.trans (by rw [times_none e2]; rfl)) hS⟩
        obtain ⟨n, y, rfl, rfl, hy⟩ := hR2
        obtain ⟨dx2, ho2⟩ := W2.ob
        refine ⟨_, rfl, wd, dx2, _, rfl, ho2, no_number _ _, (), wd, l, _, r2, rfl, W2, fun cs3 r3 v3 H3 e3 hr3 hR3 W3 S3 => ?_, fun e3 H' hS => sN (hT.trans (by rw [(times_some e2).trans (times_none e3)]; rfl)) (S2.trans hS)⟩
        obtain ⟨m, z, rfl, rfl, hz2⟩ := hR3
        refine ⟨sz3, fun p hp => ?_⟩
        exact ⟨.opn .draw, [y] ++ [z], r3, _, by rw [hr2, hr3]; rfl, rfl, W3.cat.laid hp, ((S1.trans S2).trans S3).laid hp, ⟨p, rfl, n, m, y, z, by rw [upd_same, a3], hy, hz2, by rw [a3]; rfl⟩, hT.trans (by rw [(times_some e2).trans (times_some e3)]; rfl)⟩
      rw [dec_ne a3]
      refine iteF ⟨_, rfl, rfl, _, rfl, ?_⟩
      by_cases a4 : x = "on"
      · rw [dec_eq a4]
        have hT : rowW (x :: r0) = fin (viewP 8 r0) (.opn .on) := by simp only [rowW, if_neg a1, if_neg n1, if_neg n2, if_neg a3, if_pos a4]
        refine iteT ⟨_, rfl, _, rfl, (), wd, l, _, r0, rfl, W1, fun cs2 r2 v2 H2 e2 hr2 hR2 W2 S2 => ⟨sz2, fun p hp => ?_⟩, fun e2 H' hS => sN (hT.trans (by rw [show viewP 8 r0 = none from e2]; rfl)) hS⟩
        exact ⟨.opn .on, cs2, r2, _, hr2, rfl, W2.laid hp, (S1.trans S2).laid hp, ⟨p, rfl, v2, cs2, by rw [upd_same, a4], hR2.mono _ (tups_laid hp), by rw [a4]⟩, hT.trans (by rw [show viewP 8 r0 = some r2 from e2])⟩
      rw [dec_ne a4]
      refine iteF (or2 rfl ?_)
      by_cases a5 : x = "key" ∨ x = "width"
      · rw [decide_eq_true a5]
        have hT : ∃ k, (k = .key ∧ x = "key" ∨ k = .width ∧ x = "width") ∧ rowW (x :: r0) = fin (numR r0) k := by
          by_cases h1 : x = "key"
          · exact ⟨.key, .inl ⟨rfl, h1⟩, by simp only [rowW, if_neg a1, if_neg n1, if_neg n2, if_neg a3, if_neg a4, if_pos h1]⟩
          · have h2 := a5.resolve_left h1
            exact ⟨.width, .inr ⟨rfl, h2⟩, by simp only [rowW, if_neg a1, if_neg n1, if_neg n2, if_neg a3, if_neg a4, if_neg h1, if_pos h2]⟩
        obtain ⟨k, hk, hT⟩ := hT
        obtain ⟨dx1, ho1⟩ := W1.ob
        refine iteT ⟨_, rfl, _, rfl, wd, dx1, _, rfl, ho1, no_number _ _, (), wd, l, _, r0, rfl, W1, fun cs2 r2 v2 H2 e2 hr2 hR2 W2 S2 => ⟨sz2, fun p hp => ?_⟩, fun e2 H' hS => sN (hT.trans (by rw [show numR r0 = none from e2]; rfl)) hS⟩
        obtain ⟨n, y, rfl, rfl, hy⟩ := hR2
        refine ⟨k, [y], r2, _, hr2, rfl, W2.laid hp, (S1.trans S2).laid hp, ?_, hT.trans (by rw [show numR r0 = some r2 from e2])⟩
        rcases hk with ⟨rfl, rfl⟩ | ⟨rfl, rfl⟩
        · exact ⟨p, n, y, rfl, upd_same, hy, rfl⟩
        · exact ⟨p, n, y, rfl, upd_same, hy, rfl⟩
      rw [decide_eq_false a5]
      have n3 : x ≠ "key" := fun z => a5 (.inl z)
      have n4 : x ≠ "width" := fun z => a5 (.inr z)
      refine iteF (or2 rfl ?_)
      by_cases a6 : x = "else" ∨ x = "end"
      · rw [decide_eq_true a6]
        refine iteT ⟨_, rfl, sz1, fun p hp => ?_⟩
        by_cases h1 : x = "else"
        · exact ⟨.els, [], r0, _, rfl, rfl, (W1.nil).laid hp, S1.laid hp, ⟨p, rfl, by rw [upd_same, h1], by rw [h1]⟩, by simp only [rowW, if_neg a1, if_neg n1, if_neg n2, if_neg a3, if_neg a4, if_neg n3, if_neg n4, if_pos h1]⟩
        · have h2 := a6.resolve_left h1
          exact ⟨.nd, [], r0, _, rfl, rfl, (W1.nil).laid hp, S1.laid hp, ⟨p, rfl, by rw [upd_same, h2], by rw [h2]⟩, by simp only [rowW, if_neg a1, if_neg n1, if_neg n2, if_neg a3, if_neg a4, if_neg n3, if_neg n4, if_neg h1, if_pos h2]⟩
      rw [decide_eq_false a6]
      refine iteF (sN ?_ (SB.refl _ _))
      have n5 : x ≠ "else" := fun z => a6 (.inl z)
      have n6 : x ≠ "end" := fun z => a6 (.inr z)
      simp only [rowW, if_neg a1, if_neg n1, if_neg n2, if_neg a3, if_neg a4, if_neg n3, if_neg n4, if_neg n5, if_neg n6]
    · rintro σ' H5 ⟨k, cs, r2, v, hr2, rfl, W5, S5, hv, hk⟩
      obtain ⟨dx5, ho5⟩ := W5.ob
      refine ⟨_, rfl, wd, dx5, _, rfl, ho5, no_ended _ _, (), wd, l, _, r2, rfl, W5, fun cs6 r6 v6 H6 e6 hr6 hR6 W6 S6 => ?_, fun e H' hS => kN (hR.trans (hk.trans (fin_none (fun z => by rw [z] at e; cases e)))) _ (sOf (S5.trans hS))⟩
      have e2 : r2 = [] := by
        cases r2 with
        | nil => rfl
        | cons a r => cases e6
      rw [e2] at hk hr2
      rw [List.append_nil] at hr2
      exact ⟨_, rfl, kS k v H6 (hR.trans hk) (by rw [er, hr2]; exact hv.mono (S6.tups W5.ntup)) (sOf (S5.trans S6))⟩
end
end BD
/-! W9: a row said; blocks. -/
namespace BD
open PySem PySem.Spec L2 TL
open PyProof.Rows hiding St
local macro_rules | `(tactic| walk_at "g") => `(tactic| repeat (first | refine ⟨_, rfl, ?_⟩ | refine ⟨_, _, rfl, rfl, ?_⟩ | refine ⟨rfl, ?_⟩))
/-! ### a block's attributes -/
def bf (hd sh rv kv : V) : List (Str × V) := [("head", hd), ("shut", sh), ("rows", rv), ("key", kv)]
theorem nb_hs : ("head" : Str) ≠ "shut" := by decide +kernel
theorem nb_hr : ("head" : Str) ≠ "rows" := by decide +kernel
theorem nb_hk : ("head" : Str) ≠ "key" := by decide +kernel
theorem nb_sr : ("shut" : Str) ≠ "rows" := by decide +kernel
theorem nb_sk : ("shut" : Str) ≠ "key" := by decide +kernel
theorem nb_rk : ("rows" : Str) ≠ "key" := by decide +kernel
section
variable (hd sh rv kv v : V)
theorem bf_new : putF "key" kv (putF "rows" rv (putF "shut" sh (putF "head" hd []))) = bf hd sh rv kv := by
  show putF "key" kv (putF "rows" rv (putF "shut" sh [("head", hd)])) = _
  rw [putF_ne nb_hs]
  show putF "key" kv (putF "rows" rv [("head", hd), ("shut", sh)]) = _
  rw [putF_ne nb_hr, putF_ne nb_sr]
  show putF "key" kv [("head", hd), ("shut", sh), ("rows", rv)] = _
  rw [putF_ne nb_hk, putF_ne nb_sk, putF_ne nb_rk]
  rfl
theorem bf_rows : putF "rows" v (bf hd sh rv kv) = bf hd sh v kv := by
  unfold bf
  rw [putF_ne nb_hr, putF_ne nb_sr, putF_eq]
theorem bf_key : putF "key" v (bf hd sh rv kv) = bf hd sh rv v := by
  unfold bf
  rw [putF_ne nb_hk, putF_ne nb_sk, putF_ne nb_rk, putF_eq]
theorem bl_head : (bf hd sh rv kv).lookup ("head" : Str) = some hd := lk_eq
theorem bl_shut : (bf hd sh rv kv).lookup ("shut" : Str) = some sh := (lk_ne nb_hs.symm).trans lk_eq
theorem bl_rows : (bf hd sh rv kv).lookup ("rows" : Str) = some rv := (lk_ne nb_hr.symm).trans ((lk_ne nb_sr.symm).trans lk_eq)
theorem bl_key : (bf hd sh rv kv).lookup ("key" : Str) = some kv := (lk_ne nb_hk.symm).trans ((lk_ne nb_sk.symm).trans ((lk_ne nb_rk.symm).trans lk_eq))
theorem bl_no {m : Str} (h1 : m ≠ "head") (h2 : m ≠ "shut") (h3 : m ≠ "rows") (h4 : m ≠ "key") : (bf hd sh rv kv).lookup m = none := (lk_ne h1).trans ((lk_ne h2).trans ((lk_ne h3).trans ((lk_ne h4).trans rfl)))
theorem bl_len : (bf hd sh rv kv).length < 1000 := by show 4 < 1000; decide
theorem bl_no_shuts : (bf hd sh rv kv).lookup ("shuts" : Str) = none := bl_no _ _ _ _ (by decide +kernel) (by decide +kernel) (by decide +kernel) (by decide +kernel)
theorem bl_no_statement : (bf hd sh rv kv).lookup ("statement" : Str) = none := bl_no _ _ _ _ (by decide +kernel) (by decide +kernel) (by decide +kernel) (by decide +kernel)
end
section
variable {P : Program} {w : World} {K : PySem.W.Frag} {mg : Str → Option Value} {base : Heap}
/-! ### row_said -/
def sp_row : Sp := fun vs H Q _ => ∃ row : Str, vs = [.str row] ∧ row.length + 2 ≤ sizeLine ∧
  (∀ k v H', rowP row = some k → SaidAt H' v (wordsOf row) k → Same H H' → Q v H') ∧ (rowP row = none → ∀ H', Same H H' → Q .non H')
theorem sc_row_said : FnScope ["row", "said"] ["row"] (defScope (top 27)) := ⟨rfl, rfl, rfl, by decide +kernel, rfl, by decide +kernel, by decide +kernel⟩
theorem ok_row_said (T : Txt K mg w) : FnOk P w K mg base CX0 31 T.row_said.f T.row_said.fd ["row"] sp_row := by
  refine T.row_said.F.ok sc_row_said (fun vs H Q E h => ?_) (fun cdv A outer s H vs Q E hr h => ?_)
  · obtain ⟨row, rfl, _⟩ := h
    rfl
  · obtain ⟨row, rfl, hz, kS, kN⟩ := h
    refine ⟨_, (pss_cons (ps_try_only (tb := fun W => tAsg (tCallS (sp_said T.aL) (WE W) (tCons (tVar 0) tNil)) (gName 1)) (ts := fun _ _ _ => tRet (tC .non)) (Wout := fun _ _ _ _ => False) rfl rfl ⟨rfl, by decide, Or.inl T.g_Lost⟩ takes0 (fun W pn xe tk _ => by exact (pss_one (ps_set (i := 1) sc_row_said.nd rfl (Or.inl rfl) (pe_callS (ok_said_in T) (hr.mono (by first | decide | omega)) rfl T.said_in.g T.said_in.F.kp T.said_in.b (fun σ => passAt tk σ) (pa_cons (pv 0) pa_nil))))) (fun a oe cls d pn _ _ => by exact (pss_one (ps_ret pe_non))))
      (pss_one (ps_ret (pv 1)))), ?_⟩
    refine ⟨_, rfl, row, rfl, hz, fun k v H' e hv hS => ?_, fun e H' hS => ?_⟩
    · exact ⟨_, rfl, kS k v H' e hv hS⟩
    · exact ⟨true, T.eL, fun _ _ _ => kN e H' hS, fun q => Bool.noConfusion q⟩

/-! ### Block -/
def sp_binit (aB : Addr) : Sp := fun vs H Q _ => ∃ (p dx hd : Addr) (h : Str) (tl : List V), vs = [.ref p, .ref hd] ∧ H p = some (.ins aB dx []) ∧ H hd = some (.tup (.str h :: tl)) ∧
  ∀ H' sh rv, H sh = none → H' sh = some (.lst []) → H' p = some (.ins aB dx (bf (.ref hd) (.ref sh) rv .non)) → SB p H H' → (h = "parts" → rv = .non) →
    (h ≠ "parts" → ∃ rw, rv = .ref rw ∧ H rw = none ∧ H' rw = some (.lst []) ∧ rw ≠ sh) → Q .non H'
theorem sc_Block_init : FnScope ["self", "head"] ["self", "head"] (defScope (inClass (top 25) 0)) := ⟨rfl, rfl, rfl, by decide +kernel, rfl, by decide +kernel, by decide +kernel⟩
theorem ok_Block_init (T : Txt K mg w) : FnOk P w K mg base CX0 1 T.Block_init.f T.Block_init.fd ["self", "head"] (sp_binit T.aB) := by
  refine T.Block_init.F.ok sc_Block_init (fun vs H Q E h => ?_) (fun cdv A outer s H vs Q E hr h => ?_)
  · obtain ⟨p, dx, hd, h, tl, rfl, _⟩ := h
    rfl
  · obtain ⟨p, dx, hd, h, tl, rfl, hp, hh, k⟩ := h
    refine ⟨_, (pss_cons (ps_fld (pv 0) (pv 1) rfl)
      (pss_cons (ps_fld (pv 0) (pe_lst pa_nil) rfl)
      (pss_cons (ps_fld (pv 0) (pe_lst pa_nil) rfl)
      (pss_cons (ps_fld (pv 0) pe_non rfl)
      (pss_one (ps_if (pt_cmpR op_eq (pe_ix ix_tup (pv 1) pe_int (fun _ _ => rfl)) pe_str (nomark _)) (pss_one (ps_fld (pv 0) pe_non rfl)) pss_nil)))))), ?_⟩
    have nhp : hd ≠ p := ne_of hh hp (fun z => by cases z)
    refine ⟨_, rfl, _, rfl, p, T.aB, dx, [], rfl, hp, T.cl_Block, T.b_head, by decide, ?_⟩
    refine ⟨by decide, fun sh hsh => ⟨_, rfl, p, T.aB, dx, _, rfl, by rw [upd_ne (fun z => by rw [← z, upd_same] at hsh; cases hsh)]; exact upd_same, T.cl_Block, T.b_shut, by show 1 < 1000; decide, ?_⟩⟩
    have psh : p ≠ sh := fun z => by rw [← z, upd_same] at hsh; cases hsh
    refine ⟨by decide, fun rw' hrw => ?_⟩
    have prw : p ≠ rw' := fun z => by rw [← z, upd_same] at hrw; cases hrw
    have srw : sh ≠ rw' := fun z => by rw [← z, upd_ne psh.symm, upd_same] at hrw; cases hrw
    refine ⟨_, rfl, p, T.aB, dx, _, rfl, by rw [upd_ne prw]; exact upd_same, T.cl_Block, T.b_rows, by show 2 < 1000; decide, ?_⟩
    refine ⟨_, rfl, p, T.aB, dx, _, rfl, upd_same, T.cl_Block, T.b_key, by show 3 < 1000; decide, ?_⟩
    have hsh0 : H sh = none := by rw [upd_ne psh.symm] at hsh; exact hsh
    have hrw0 : H rw' = none := by rw [upd_ne prw.symm, upd_ne srw.symm, upd_ne prw.symm] at hrw; exact hrw
    have nhs : hd ≠ sh := ne_of_none hh hsh0
    have nhr : hd ≠ rw' := ne_of_none hh hrw0
    have fr : ∀ b o, b ≠ p → H b = some o → (upd (upd (upd (upd (upd (upd H p (.ins T.aB dx (putF "head" (.ref hd) []))) sh (.lst [])) p (.ins T.aB dx (putF "shut" (.ref sh) (putF "head" (.ref hd) [])))) rw' (.lst [])) p (.ins T.aB dx (putF "rows" (.ref rw') (putF "shut" (.ref sh) (putF "head" (.ref hd) []))))) p (.ins T.aB dx (putF "key" .non (putF "rows" (.ref rw') (putF "shut" (.ref sh) (putF "head" (.ref hd) [])))))) b = some o := fun b o n e => by
      rw [upd_ne n, upd_ne n, upd_ne (ne_of_none e hrw0), upd_ne n, upd_ne (ne_of_none e hsh0), upd_ne n]
      exact e
    refine ⟨_, rfl, hd, _, 0, .str h, rfl, rfl, SqT.of (fr _ _ nhp hh), at_of (j := 0) rfl rfl, rfl, _, rfl, ?_⟩
    by_cases hpt : h = "parts"
    · rw [dec_eq hpt]
      refine iteT ⟨_, rfl, p, T.aB, dx, _, rfl, upd_same, T.cl_Block, T.b_rows, by rw [bf_new]; exact bl_len _ _ _ _, ?_⟩
      refine k _ sh .non hsh0 ?_ (by rw [upd_same, bf_new, bf_rows]) (fun b o n e => by rw [upd_ne n]; exact fr b o n e) (fun _ => rfl) (fun z => absurd hpt z)
      rw [upd_ne psh.symm, upd_ne psh.symm, upd_ne psh.symm, upd_ne srw, upd_ne psh.symm, upd_same]
    · rw [dec_ne hpt]
      refine iteF (k _ sh (.ref rw') hsh0 ?_ (by rw [upd_same, bf_new]) fr (fun z => absurd z hpt) (fun _ => ⟨rw', rfl, hrw0, ?_, srw.symm⟩))
      · rw [upd_ne psh.symm, upd_ne psh.symm, upd_ne srw, upd_ne psh.symm, upd_same]
      · rw [upd_ne prw.symm, upd_ne prw.symm, upd_same]
def sp_shuts (aB : Addr) : Sp := fun vs H Q _ => ∃ (b dx hd sh : Addr) (rv kv : V) (h : Str) (tl xs : List V), vs = [.ref b] ∧ H b = some (.ins aB dx (bf (.ref hd) (.ref sh) rv kv)) ∧ H hd = some (.tup (.str h :: tl)) ∧ H sh = some (.lst xs) ∧ xs.length < sizeLine ∧
  ((h = "parts" ∧ rv = .non ∧ Q .non H) ∨ ∃ rw ys, rv = .ref rw ∧ H rw = some (.lst ys) ∧
    ((h ≠ "parts" ∧ ∀ t H', H' sh = some (.lst (xs ++ [.ref t])) → H' t = some (.tup ys) → SB sh H H' → Q .non H') ∨
     (h = "parts" ∧ ∀ t p H', H' sh = some (.lst (xs ++ [.ref p])) → H' p = some (.tup [kv, .ref t]) → H' t = some (.tup ys) → SB sh H H' → Q .non H')))
theorem sc_Block_shuts : FnScope ["self"] ["self"] (defScope (inClass (top 25) 1)) := ⟨rfl, rfl, rfl, by decide +kernel, rfl, by decide +kernel, by decide +kernel⟩
theorem ok_Block_shuts (T : Txt K mg w) : FnOk P w K mg base CX0 1 T.Block_shuts.f T.Block_shuts.fd ["self"] (sp_shuts T.aB) := by
  refine T.Block_shuts.F.ok sc_Block_shuts (fun vs H Q E h => ?_) (fun cdv A outer s H vs Q E hr h => ?_)
  · obtain ⟨b, dx, hd, sh, rv, kv, h, tl, xs, rfl, _⟩ := h
    rfl
  · obtain ⟨b, dx, hd, sh, rv, kv, h, tl, xs, rfl, hb, hh, hs, hz, k⟩ := h
    refine ⟨_, (pss_one (ps_if (pt_cmpR op_eq (pe_ix ix_tup (pe_fld (pv 0) rfl) pe_int (fun _ _ => rfl)) pe_str (nomark _)) (pss_one (ps_if (pt_cmp (pc_notN (pe_fld (pv 0) rfl)) rfl) (pss_one (ps_expr (pe_bm PySem.F.plainAttrs_list PySem.F.slot_list_append PySem.F.type_list_append mt_append (pe_fld (pv 0) rfl) (pa_cons (pe_tup (pa_cons (pe_fld (pv 0) rfl) (pa_cons (pe_callTy call_tuple_of (by rfl) T.n_tuple (by decide +kernel) (pa_cons (pe_fld (pv 0) rfl) pa_nil)) pa_nil))) pa_nil)))) pss_nil)) (pss_one (ps_expr (pe_bm PySem.F.plainAttrs_list PySem.F.slot_list_append PySem.F.type_list_append mt_append (pe_fld (pv 0) rfl) (pa_cons (pe_callTy call_tuple_of (by rfl) T.n_tuple (by decide +kernel) (pa_cons (pe_fld (pv 0) rfl) pa_nil)) pa_nil)))))), ?_⟩
    refine ⟨_, rfl, b, T.aB, dx, _, _, rfl, hb, T.cl_Block, T.b_head, bl_head _ _ _ _, hd, _, 0, .str h, rfl, rfl, SqT.of hh, at_of (j := 0) rfl rfl, rfl, _, rfl, ?_⟩
    rcases k with ⟨hpt, rfl, k⟩ | ⟨rw', ys, rfl, hr', k⟩
    · rw [dec_eq hpt]
      exact iteT ⟨_, rfl, b, T.aB, dx, _, _, rfl, hb, T.cl_Block, T.b_rows, bl_rows _ _ _ _, _, rfl, k⟩
    · rcases k with ⟨hpt, k⟩ | ⟨hpt, k⟩
      · rw [dec_ne hpt]
        refine iteF ⟨_, rfl, b, T.aB, dx, _, _, rfl, hb, T.cl_Block, T.b_shut, bl_shut _ _ _ _, .inl ⟨rfl, _, SqL.of hs⟩, _, rfl, b, T.aB, dx, _, _, rfl, hb, T.cl_Block, T.b_rows, bl_rows _ _ _ _, rw', ys, rfl, .inl ⟨SqL.of hr', fun t ht => ?_⟩⟩
        have nst : sh ≠ t := ne_of_none hs ht
        refine ⟨sh, xs, _, rfl, rfl, by rw [upd_ne nst]; exact hs, hz, ?_⟩
        refine k t _ upd_same (by rw [upd_ne nst.symm]; exact upd_same) (fun c o n e => ?_)
        rw [upd_ne n, upd_ne (ne_of_none e ht)]
        exact e
      · rw [dec_eq hpt]
        refine iteT ⟨_, rfl, b, T.aB, dx, _, _, rfl, hb, T.cl_Block, T.b_rows, bl_rows _ _ _ _, _, rfl, ?_⟩
        refine ⟨_, rfl, b, T.aB, dx, _, _, rfl, hb, T.cl_Block, T.b_shut, bl_shut _ _ _ _, .inl ⟨rfl, _, SqL.of hs⟩, _, rfl, b, T.aB, dx, _, _, rfl, hb, T.cl_Block, T.b_key, bl_key _ _ _ _, _, rfl, b, T.aB, dx, _, _, rfl, hb, T.cl_Block, T.b_rows, bl_rows _ _ _ _, rw', ys, rfl, .inl ⟨SqL.of hr', fun t ht => ⟨sz2, fun p hp => ?_⟩⟩⟩
        have nst : sh ≠ t := ne_of_none hs ht
        have hs1 : upd H t (.tup ys) sh = some (.lst xs) := by rw [upd_ne nst]; exact hs
        have nsp : sh ≠ p := ne_of_none hs1 hp
        have ntp : t ≠ p := fun z => by rw [← z, upd_same] at hp; cases hp
        refine ⟨sh, xs, _, rfl, rfl, by rw [upd_ne nsp]; exact hs1, hz, ?_⟩
        refine k t p _ upd_same (by rw [upd_ne nsp.symm]; exact upd_same) (by rw [upd_ne nst.symm, upd_ne ntp]; exact upd_same) (fun c o n e => ?_)
        have e1 : upd H t (.tup ys) c = some o := by rw [upd_ne (ne_of_none e ht)]; exact e
        rw [upd_ne n, upd_ne (ne_of_none e1 hp)]
        exact e1
/-- statement -/
def sp_statement (aB : Addr) : Sp := fun vs H Q _ => ∃ (b dx hd sh : Addr) (rv kv : V) (h : Str) (tl xs : List V), vs = [.ref b] ∧ H b = some (.ins aB dx (bf (.ref hd) (.ref sh) rv kv)) ∧ H hd = some (.tup (.str h :: tl)) ∧ H sh = some (.lst xs) ∧ xs.length < sizeLine ∧ tl.length ≤ 5 ∧
  ((h = "parts" ∧ rv = .non ∧ ∀ a c H', H' a = some (.tup ((.str h :: tl) ++ [.ref c])) → H' c = some (.tup xs) → SB sh H H' → Q (.ref a) H') ∨ ∃ rw ys, rv = .ref rw ∧ H rw = some (.lst ys) ∧
    ((h ≠ "parts" ∧ xs.length ≤ 5 ∧ ∀ t a H', H' a = some (.tup ((.str h :: tl) ++ (xs ++ [.ref t]))) → H' t = some (.tup ys) → SB sh H H' → Q (.ref a) H') ∨
     (h = "parts" ∧ ∀ t p a c H', H' a = some (.tup ((.str h :: tl) ++ [.ref c])) → H' c = some (.tup (xs ++ [.ref p])) → H' p = some (.tup [kv, .ref t]) → H' t = some (.tup ys) → SB sh H H' → Q (.ref a) H')))
theorem sc_Block_statement : FnScope ["self"] ["self"] (defScope (inClass (top 25) 2)) := ⟨rfl, rfl, rfl, by decide +kernel, rfl, by decide +kernel, by decide +kernel⟩
theorem ok_Block_statement (T : Txt K mg w) : FnOk P w K mg base CX0 2 T.Block_statement.f T.Block_statement.fd ["self"] (sp_statement T.aB) := by
  refine T.Block_statement.F.ok sc_Block_statement (fun vs H Q E h => ?_) (fun cdv A outer s H vs Q E hr h => ?_)
  · obtain ⟨b, dx, hd, sh, rv, kv, h, tl, xs, rfl, _⟩ := h
    rfl
  · obtain ⟨b, dx, hd, sh, rv, kv, h, tl, xs, rfl, hb, hh, hs, hz, htl, k⟩ := h
    refine ⟨_, (pss_cons (ps_expr (pe_meth0 (pv 0) T.cl_Block T.Block_shuts.m (ok_Block_shuts T) (hr.mono (by first | decide | omega)) T.Block_shuts.b .nil pass0))
      (pss_cons (ps_if (pt_cmpR op_eq (pe_ix ix_tup (pe_fld (pv 0) rfl) pe_int (fun _ _ => rfl)) pe_str (nomark _)) (pss_one (ps_ret (pe_op op_catT (pe_fld (pv 0) rfl) (pe_tup (pa_cons (pe_callTy call_tuple_of (by rfl) T.n_tuple (by decide +kernel) (pa_cons (pe_fld (pv 0) rfl) pa_nil)) pa_nil))))) pss_nil)
      (pss_one (ps_ret (pe_op op_catT (pe_fld (pv 0) rfl) (pe_callTy call_tuple_of (by rfl) T.n_tuple (by decide +kernel) (pa_cons (pe_fld (pv 0) rfl) pa_nil))))))), ?_⟩
    refine ⟨_, rfl, b, dx, _, rfl, hb, bl_no_shuts _ _ _ _, b, dx, hd, sh, rv, kv, h, tl, xs, rfl, hb, hh, hs, hz, ?_⟩
    have nbs : b ≠ sh := ne_of hb hs (fun z => by cases z)
    have nhs : hd ≠ sh := ne_of hh hs (fun z => by cases z)
    -- what follows the shutting
    have parts : ∀ H1 zs, h = "parts" → H1 sh = some (.lst zs) → SB sh H H1 → (∀ a c H', H' a = some (.tup ((.str h :: tl) ++ [.ref c])) → H' c = some (.tup zs) → Same H1 H' → Q (.ref a) H') →
        (tSeq (tIfS (tTest (tOp rEq (tOp (rIxT K) (tFld K (tVar 0) "head") (tC (.int 0))) (tC (.str "parts")))) (tRet (tOp (rCatT K) (tFld K (tVar 0) "head") (tTup (tCons (tCB (fun xs H Q => ∃ p ys, xs = [.ref p] ∧ ((SqL K H p ys ∧ ∀ l, H l = none → Q (.ref l) (upd H l (.tup ys))) ∨ (SqT K H p ys ∧ Q (.ref p) H))) (tCons (tFld K (tVar 0) "shut") tNil)) tNil)))) tNext)
          (tRet (tOp (rCatT K) (tFld K (tVar 0) "head") (tCB (fun xs H Q => ∃ p ys, xs = [.ref p] ∧ ((SqL K H p ys ∧ ∀ l, H l = none → Q (.ref l) (upd H l (.tup ys))) ∨ (SqT K H p ys ∧ Q (.ref p) H))) (tCons (tFld K (tVar 0) "shut") tNil)))))
          { nx := fun _ H => Q .non H, rt := Q, bk := fun _ _ => False, ct := fun _ _ => False } [some (.ref b)] H1 := fun H1 zs hpt hs1 S1 q => by
      have hb1 := S1 b _ nbs hb
      have hh1 := S1 hd _ nhs hh
      refine ⟨_, rfl, b, T.aB, dx, _, _, rfl, hb1, T.cl_Block, T.b_head, bl_head _ _ _ _, hd, _, 0, .str h, rfl, rfl, SqT.of hh1, at_of (j := 0) rfl rfl, rfl, _, rfl, ?_⟩
      rw [dec_eq hpt]
      refine iteT ⟨_, rfl, b, T.aB, dx, _, _, rfl, hb1, T.cl_Block, T.b_head, bl_head _ _ _ _, _, rfl, b, T.aB, dx, _, _, rfl, hb1, T.cl_Block, T.b_shut, bl_shut _ _ _ _, sh, zs, rfl, .inl ⟨SqL.of hs1, fun c hc => ⟨sz1, fun p hp => ?_⟩⟩⟩
      have hh2 : upd (upd H1 c (.tup zs)) p (.tup [.ref c]) hd = some (.tup (.str h :: tl)) := (Same.laid hp) _ _ ((Same.laid hc) _ _ hh1)
      refine ⟨hd, p, _, _, rfl, rfl, SqT.of hh2, SqT.of upd_same, by simp, sz1000 (by simp only [List.length_cons, List.length_nil]; omega), fun z => (nomatch z), fun _ a ha => ?_⟩
      have hc2 : upd (upd H1 c (.tup zs)) p (.tup [.ref c]) c = some (.tup zs) := (Same.laid hp) _ _ upd_same
      exact q a c _ upd_same ((Same.laid ha) _ _ hc2) (fun d o e => (Same.laid ha) _ _ ((Same.laid hp) _ _ ((Same.laid hc) _ _ e)))
    rcases k with ⟨hpt, rfl, k⟩ | ⟨rw', ys, rfl, hr', k⟩
    · exact .inl ⟨hpt, rfl, parts H xs hpt hs (SB.refl _ _) fun a c H' h1 h2 h3 => k a c H' h1 h2 (SB.of_same h3)⟩
    · refine .inr ⟨rw', ys, rfl, hr', ?_⟩
      rcases k with ⟨hpt, hx5, k⟩ | ⟨hpt, k⟩
      · refine .inl ⟨hpt, fun t H1 hs1 ht1 S1 => ?_⟩
        have hb1 := S1 b _ nbs hb
        have hh1 := S1 hd _ nhs hh
        refine ⟨_, rfl, b, T.aB, dx, _, _, rfl, hb1, T.cl_Block, T.b_head, bl_head _ _ _ _, hd, _, 0, .str h, rfl, rfl, SqT.of hh1, at_of (j := 0) rfl rfl, rfl, _, rfl, ?_⟩
        rw [dec_ne hpt]
        refine iteF ⟨_, rfl, b, T.aB, dx, _, _, rfl, hb1, T.cl_Block, T.b_head, bl_head _ _ _ _, _, rfl, b, T.aB, dx, _, _, rfl, hb1, T.cl_Block, T.b_shut, bl_shut _ _ _ _, sh, _, rfl, .inl ⟨SqL.of hs1, fun c hc => ?_⟩⟩
        refine ⟨hd, c, _, _, rfl, rfl, SqT.of ((Same.laid hc) _ _ hh1), SqT.of upd_same, by simp, sz1000 (by simp only [List.length_cons, List.length_append, List.length_nil]; omega), fun z => absurd z (by simp), fun _ a ha => ?_⟩
        exact k t a _ upd_same ((Same.laid ha) _ _ ((Same.laid hc) _ _ ht1)) (S1.trans (SB.of_same fun d o e => (Same.laid ha) _ _ ((Same.laid hc) _ _ e)))
      · refine .inr ⟨hpt, fun t p H1 hs1 hp1 ht1 S1 => ?_⟩
        exact parts H1 _ hpt hs1 S1 fun a c H' h1 h2 h3 => k t p a c H' h1 h2 (h3 _ _ hp1) (h3 _ _ ht1) (S1.trans (SB.of_same h3))
end
end BD
/-! W10: statements as values; the open blocks in the heap; lies_right. -/
namespace BD
open PySem PySem.Spec L2 TL
open PyProof.Rows hiding St
local macro_rules | `(tactic| walk_at "g") => `(tactic| repeat (first | refine ⟨_, rfl, ?_⟩ | refine ⟨_, _, rfl, rfl, ?_⟩ | refine ⟨rfl, ?_⟩))
abbrev wElse : Str := "else"
abbrev wEnd : Str := "end"
/-! ### values that stand for rows -/
def AskRow (H : Hp) (v : V) (ls : Ws) : Prop := ∃ row, ls = [row] ∧ SaidAt H v (wordsOf row) .ask
def RowsOf (S : V → Ws → Prop) (H : Hp) (v : V) (ls : Ws) : Prop := ∃ a vs lss, v = .ref a ∧ H a = some (.tup vs) ∧ All2 S vs lss ∧ ls = lss.flatten
def PartOf (R : V → Ws → Prop) (H : Hp) (p : V) (ls : Ws) : Prop := ∃ b n r x row l, p = .ref b ∧ H b = some (.tup [.int n, r]) ∧ numP x = some n ∧ wordsOf row = [("key" : Str), x] ∧ R r l ∧ ls = row :: l
def BlockOf (R : V → Ws → Prop) (H : Hp) (v : V) (ls : Ws) : Prop := ∃ a row, v = .ref a ∧
  ((∃ t tw r1 r2 l1 l2, H a = some (.tup [.str "if", t, r1, r2]) ∧ TermAt 14 H t tw ∧ wordsOf row = ("if" : Str) :: tw ∧ R r1 l1 ∧ R r2 l2 ∧ ls = row :: (l1 ++ wElse :: (l2 ++ [wEnd]))) ∨
   (∃ t tw c ps pss, H a = some (.tup [.str "parts", t, .ref c]) ∧ H c = some (.tup ps) ∧ TermAt 14 H t tw ∧ wordsOf row = ("parts" : Str) :: tw ∧ All2 (PartOf R H) ps pss ∧ ls = row :: (pss.flatten ++ [wEnd])) ∨
   (∃ m n x y r l, H a = some (.tup [.str "draw", .int m, .int n, r]) ∧ numP x = some m ∧ numP y = some n ∧ wordsOf row = [(("draw" : Str)), x, y] ∧ R r l ∧ ls = row :: (l ++ [wEnd])) ∨
   (∃ u uw r l, H a = some (.tup [.str "on", u, r]) ∧ ViewAt 8 H u uw ∧ wordsOf row = ("on" : Str) :: uw ∧ R r l ∧ ls = row :: (l ++ [wEnd])))
def StmAt : Nat → Hp → V → Ws → Prop
  | 0 => AskRow
  | k + 1 => fun H v ls => AskRow H v ls ∨ BlockOf (RowsOf (fun v ls => StmAt k H v ls) H) H v ls
def RowsAt (k : Nat) (H : Hp) : V → Ws → Prop := RowsOf (fun v ls => StmAt k H v ls) H
theorem AskRow.mono {H H' : Hp} {v : V} {ls : Ws} (t : Tups H H') (h : AskRow H v ls) : AskRow H' v ls := by
  obtain ⟨row, e, h⟩ := h
  exact ⟨row, e, SaidAt.mono t h⟩
theorem RowsOf.mono {S S' : V → Ws → Prop} {H H' : Hp} {v : V} {ls : Ws} (t : Tups H H') (f : ∀ v ls, S v ls → S' v ls) (h : RowsOf S H v ls) : RowsOf S' H' v ls := by
  obtain ⟨a, vs, lss, h1, h2, h3, h4⟩ := h
  exact ⟨a, vs, lss, h1, t _ _ h2, h3.imp f, h4⟩
theorem PartOf.mono {S S' : V → Ws → Prop} {H H' : Hp} {v : V} {ls : Ws} (t : Tups H H') (f : ∀ v ls, S v ls → S' v ls) (h : PartOf S H v ls) : PartOf S' H' v ls := by
  obtain ⟨b, n, r, x, row, l, h1, h2, h3, h4, h5, h6⟩ := h
  exact ⟨b, n, r, x, row, l, h1, t _ _ h2, h3, h4, f _ _ h5, h6⟩
theorem BlockOf.mono {S S' : V → Ws → Prop} {H H' : Hp} {v : V} {ls : Ws} (t : Tups H H') (f : ∀ v ls, S v ls → S' v ls) (h : BlockOf S H v ls) : BlockOf S' H' v ls := by
  obtain ⟨a, row, e, h⟩ := h
  refine ⟨a, row, e, ?_⟩
  rcases h with ⟨u, tw, r1, r2, l1, l2, h1, h2, h3, h4, h5, h6⟩ | ⟨u, tw, c, ps, pss, h1, h2, h3, h4, h5, h6⟩ | ⟨m, n, x, y, r, l, h1, h2, h3, h4, h5, h6⟩ | ⟨u, uw, r, l, h1, h2, h3, h4, h5⟩
  · exact .inl ⟨u, tw, r1, r2, l1, l2, t _ _ h1, h2.mono _ t, h3, f _ _ h4, f _ _ h5, h6⟩
  · exact .inr (.inl ⟨u, tw, c, ps, pss, t _ _ h1, t _ _ h2, h3.mono _ t, h4, h5.imp fun _ _ h => PartOf.mono t f h, h6⟩)
  · exact .inr (.inr (.inl ⟨m, n, x, y, r, l, t _ _ h1, h2, h3, h4, f _ _ h5, h6⟩))
  · exact .inr (.inr (.inr ⟨u, uw, r, l, t _ _ h1, h2.mono _ t, h3, f _ _ h4, h5⟩))
theorem StmAt.mono : ∀ (k : Nat) {H H' : Hp} {v : V} {ls : Ws}, Tups H H' → StmAt k H v ls → StmAt k H' v ls
  | 0, _, _, _, _, t, h => AskRow.mono t h
  | k + 1, _, _, _, _, t, h => h.imp (AskRow.mono t) (BlockOf.mono t fun _ _ => RowsOf.mono t fun _ _ => StmAt.mono k t)
theorem RowsAt.mono {k : Nat} {H H' : Hp} {v : V} {ls : Ws} (t : Tups H H') (h : RowsAt k H v ls) : RowsAt k H' v ls := RowsOf.mono t (fun _ _ => StmAt.mono k t) h
theorem StmAt.ask {k : Nat} {H : Hp} {v : V} {ls : Ws} (h : AskRow H v ls) : StmAt k H v ls := by
  cases k with
  | zero => exact h
  | succ k => exact .inl h
theorem StmAt.pos : ∀ {k : Nat} {H : Hp} {v : V} {ls : Ws}, StmAt k H v ls → 1 ≤ ls.length
  | k, H, v, ls, h => by
    have ha : AskRow H v ls → 1 ≤ ls.length := fun ⟨row, e, _⟩ => by rw [e]; exact Nat.le_refl _
    cases k with
    | zero => exact ha h
    | succ k =>
      refine h.elim ha fun ⟨a, row, _, h⟩ => ?_
      rcases h with ⟨u, tw, r1, r2, l1, l2, h1, h2, h3, h4, h5, h6⟩ | ⟨u, tw, c, ps, pss, h1, h2, h3, h4, h5, h6⟩ | ⟨m, n, x, y, r, l, h1, h2, h3, h4, h5, h6⟩ | ⟨u, uw, r, l, h1, h2, h3, h4, h5⟩ <;> simp [*]
theorem all2_len_flat {α : Type} {S : α → Ws → Prop} (f : ∀ v ls, S v ls → 1 ≤ ls.length) : ∀ {vs : List α} {lss : List Ws}, All2 S vs lss → vs.length ≤ lss.flatten.length
  | [], _, .nil => Nat.le_refl _
  | v :: vs, _, .cons h1 h2 => by
    have := all2_len_flat f h2
    have := f _ _ h1
    simp only [List.length_cons, List.flatten_cons, List.length_append]
    omega
theorem row_is {row : Str} {ws : Ws} (h : wordsOf row = ws) : row = Txt.join sp1 ws := by rw [← h, join_words]

/-! ### the open blocks -/
/-- what a block's head is called -/
def hn : Option BK → Str
  | none => "all"
  | some .iff => "if"
  | some .els => "if"
  | some .parts => "parts"
  | some .key => "parts"
  | some .draw => "draw"
  | some .on => "on"
/-- a block but for its last rows: shut parts ss, rows pre -/
def PreAt (k : Nat) (H : Hp) (kd : Option BK) (hd : Addr) (ss : List V) (kv : V) (pre : Ws) : Prop := match kd with
  | none => H hd = some (.tup [.str "all"]) ∧ ss = [] ∧ pre = []
  | some .els => ∃ row r1 l1, OpenAt H (.ref hd) (wordsOf row) .iff ∧ ss = [r1] ∧ RowsAt k H r1 l1 ∧ pre = row :: (l1 ++ [wElse])
  | some .key => ∃ row pss n x krow, OpenAt H (.ref hd) (wordsOf row) .parts ∧ All2 (PartOf (RowsAt k H) H) ss pss ∧ kv = .int n ∧ numP x = some n ∧ wordsOf krow = [("key" : Str), x] ∧ pre = row :: (pss.flatten ++ [krow])
  | some bk => ∃ row, OpenAt H (.ref hd) (wordsOf row) bk ∧ ss = [] ∧ pre = [row]
theorem PreAt.mono {k : Nat} {H H' : Hp} {kd : Option BK} {hd : Addr} {ss : List V} {kv : V} {pre : Ws} (t : Tups H H') (h : PreAt k H kd hd ss kv pre) : PreAt k H' kd hd ss kv pre := by
  cases kd with
  | none => exact ⟨t _ _ h.1, h.2⟩
  | some b =>
    cases b with
    | els => obtain ⟨row, r1, l1, h1, h2, h3, h4⟩ := h; exact ⟨row, r1, l1, h1.mono t, h2, h3.mono t, h4⟩
    | key => obtain ⟨row, pss, n, x, krow, h1, h2, h3⟩ := h; exact ⟨row, pss, n, x, krow, h1.mono t, h2.imp fun _ _ h => PartOf.mono t (fun _ _ => RowsAt.mono t) h, h3⟩
    | iff => obtain ⟨row, h1, h2⟩ := h; exact ⟨row, h1.mono t, h2⟩
    | parts => obtain ⟨row, h1, h2⟩ := h; exact ⟨row, h1.mono t, h2⟩
    | draw => obtain ⟨row, h1, h2⟩ := h; exact ⟨row, h1.mono t, h2⟩
    | on => obtain ⟨row, h1, h2⟩ := h; exact ⟨row, h1.mono t, h2⟩
theorem OpenAt.head {H : Hp} {hd : Addr} {ws : Ws} {b : BK} (h : OpenAt H (.ref hd) ws b) : ∃ tl, H hd = some (.tup (.str (hn (some b)) :: tl)) ∧ tl.length ≤ 2 := by
  obtain ⟨a, e, h⟩ := h
  cases e
  cases b with
  | iff => obtain ⟨u, uw, h1, h2, h3⟩ := h; exact ⟨_, h1, by simp⟩
  | parts => obtain ⟨u, uw, h1, h2, h3⟩ := h; exact ⟨_, h1, by simp⟩
  | draw => obtain ⟨m, n, x, y, h1, h2⟩ := h; exact ⟨_, h1, by simp⟩
  | on => obtain ⟨u, uw, h1, h2, h3⟩ := h; exact ⟨_, h1, by simp⟩
  | els => exact h.elim
  | key => exact h.elim
theorem PreAt.head {k : Nat} {H : Hp} {kd : Option BK} {hd : Addr} {ss : List V} {kv : V} {pre : Ws} (h : PreAt k H kd hd ss kv pre) : ∃ tl, H hd = some (.tup (.str (hn kd) :: tl)) ∧ tl.length ≤ 2 := by
  cases kd with
  | none => exact ⟨[], h.1, by simp⟩
  | some b =>
    cases b with
    | els => obtain ⟨row, r1, l1, h1, h2, h3, h4⟩ := h; exact h1.head
    | key => obtain ⟨row, pss, n, x, krow, h1, h2, h3⟩ := h; exact h1.head
    | iff => obtain ⟨row, h1, h2⟩ := h; exact h1.head
    | parts => obtain ⟨row, h1, h2⟩ := h; exact h1.head
    | draw => obtain ⟨row, h1, h2⟩ := h; exact h1.head
    | on => obtain ⟨row, h1, h2⟩ := h; exact h1.head
theorem PartOf.pos {S : V → Ws → Prop} {H : Hp} (v : V) (ls : Ws) (h : PartOf S H v ls) : 1 ≤ ls.length := by
  obtain ⟨b, n, r, x, row, l, h1, h2, h3, h4, h5, h6⟩ := h
  simp [h6]
theorem PreAt.few {k : Nat} {H : Hp} {kd : Option BK} {hd : Addr} {ss : List V} {kv : V} {pre : Ws} (h : PreAt k H kd hd ss kv pre) : ss.length ≤ pre.length := by
  cases kd with
  | none => rw [h.2.1]; exact Nat.zero_le _
  | some b =>
    cases b with
    | els => obtain ⟨row, r1, l1, h1, h2, h3, h4⟩ := h; simp [h2, h4]
    | key =>
      obtain ⟨row, pss, n, x, krow, h1, h2, h3, h4, h5, h6⟩ := h
      have := all2_len_flat PartOf.pos h2
      rw [h6]
      simp only [List.length_cons, List.length_append]
      omega
    | iff => obtain ⟨row, h1, h2, h3⟩ := h; simp [h2]
    | parts => obtain ⟨row, h1, h2, h3⟩ := h; simp [h2]
    | draw => obtain ⟨row, h1, h2, h3⟩ := h; simp [h2]
    | on => obtain ⟨row, h1, h2, h3⟩ := h; simp [h2]

/-- a block's last rows -/
def LastAt (k : Nat) (H : Hp) (kd : Option BK) (b sh : Addr) (rv : V) (F : List Addr) (post : Ws) : Prop :=
  (kd = some .parts ∧ rv = .non ∧ F = [b, sh] ∧ post = []) ∨ (kd ≠ some .parts ∧ ∃ rw vs lss, rv = .ref rw ∧ F = [b, sh, rw] ∧ H rw = some (.lst vs) ∧ All2 (StmAt k H) vs lss ∧ post = lss.flatten)
structure BlkAt (k : Nat) (aB : Addr) (H : Hp) (b : Addr) (kd : Option BK) (F : List Addr) (ls : Ws) (dx hd sh : Addr) (rv kv : V) (ss : List V) (pre post : Ws) : Prop where
  hb : H b = some (.ins aB dx (bf (.ref hd) (.ref sh) rv kv))
  hs : H sh = some (.lst ss)
  pr : PreAt k H kd hd ss kv pre
  la : LastAt k H kd b sh rv F post
  el : ls = pre ++ post
def Blk (k : Nat) (aB : Addr) (H : Hp) (b : Addr) (kd : Option BK) (F : List Addr) (ls : Ws) : Prop := ∃ dx hd sh rv kv ss pre post, BlkAt k aB H b kd F ls dx hd sh rv kv ss pre post
theorem Blk.there {k : Nat} {aB : Addr} {H : Hp} {b : Addr} {kd : Option BK} {F : List Addr} {ls : Ws} (h : Blk k aB H b kd F ls) : ∀ a ∈ F, ∃ o, H a = some o ∧ ∀ xs, o ≠ .tup xs := by
  obtain ⟨dx, hd, sh, rv, kv, ss, pre, post, h⟩ := h
  intro a ha
  rcases h.la with ⟨_, _, e, _⟩ | ⟨_, rw', vs, lss, _, e, hr, _⟩
  · rw [e] at ha
    rcases List.mem_cons.mp ha with rfl | ha
    · exact ⟨_, h.hb, fun xs z => by cases z⟩
    · cases List.mem_singleton.mp ha
      exact ⟨_, h.hs, fun xs z => by cases z⟩
  · rw [e] at ha
    rcases List.mem_cons.mp ha with rfl | ha
    · exact ⟨_, h.hb, fun xs z => by cases z⟩
    rcases List.mem_cons.mp ha with rfl | ha
    · exact ⟨_, h.hs, fun xs z => by cases z⟩
    · cases List.mem_singleton.mp ha
      exact ⟨_, hr, fun xs z => by cases z⟩
theorem Blk.frame {k : Nat} {aB : Addr} {H H' : Hp} {b : Addr} {kd : Option BK} {F : List Addr} {ls : Ws} (t : Tups H H') (g : ∀ a ∈ F, ∀ o, H a = some o → H' a = some o) (h : Blk k aB H b kd F ls) : Blk k aB H' b kd F ls := by
  obtain ⟨dx, hd, sh, rv, kv, ss, pre, post, h⟩ := h
  have hb : b ∈ F ∧ sh ∈ F := by
    rcases h.la with ⟨_, _, e, _⟩ | ⟨_, rw', vs, lss, _, e, hr, _⟩ <;> simp [e]
  refine ⟨dx, hd, sh, rv, kv, ss, pre, post, g _ hb.1 _ h.hb, g _ hb.2 _ h.hs, h.pr.mono t, ?_, h.el⟩
  rcases h.la with l | ⟨n, rw', vs, lss, h1, e, hr, ha, h2⟩
  · exact .inl l
  · exact .inr ⟨n, rw', vs, lss, h1, e, g _ (by simp [e]) _ hr, ha.imp fun _ _ h => StmAt.mono k t h, h2⟩
/-- the blocks below the innermost of s -/
def Rest (aB : Addr) (H : Hp) : List BK → List Addr → List Addr → Ws → Prop
  | [], bs, F, ls => bs = [] ∧ F = [] ∧ ls = []
  | _ :: s, bs, F, ls => ∃ b bs' F1 F2 l1 l2, bs = b :: bs' ∧ F = F1 ++ F2 ∧ Blk (6 - s.length) aB H b s.head? F1 l2 ∧ Rest aB H s bs' F2 l1 ∧ ls = l1 ++ l2
def Stk (aB : Addr) (H : Hp) (s : List BK) (bs F : List Addr) (ls : Ws) : Prop := Rest aB H (.on :: s) bs F ls
theorem Rest.there {aB : Addr} {H : Hp} : ∀ {s : List BK} {bs F : List Addr} {ls : Ws}, Rest aB H s bs F ls → ∀ a ∈ F, ∃ o, H a = some o ∧ ∀ xs, o ≠ .tup xs
  | [], _, _, _, ⟨_, e, _⟩, a, ha => by rw [e] at ha; cases ha
  | _ :: s, _, _, _, ⟨b, bs', F1, F2, l1, l2, _, e, hB, hR, _⟩, a, ha => by
    rw [e] at ha
    exact (List.mem_append.mp ha).elim (hB.there a) (Rest.there (s := s) hR a)
theorem Rest.frame {aB : Addr} {H H' : Hp} (t : Tups H H') : ∀ {s : List BK} {bs F : List Addr} {ls : Ws}, (∀ a ∈ F, ∀ o, H a = some o → H' a = some o) → Rest aB H s bs F ls → Rest aB H' s bs F ls
  | [], _, _, _, _, h => h
  | _ :: s, _, _, _, g, ⟨b, bs', F1, F2, l1, l2, h1, e, hB, hR, h2⟩ => by
    subst e
    exact ⟨b, bs', F1, F2, l1, l2, h1, rfl, hB.frame t fun a ha => g a (List.mem_append_left _ ha), Rest.frame (s := s) t (fun a ha => g a (List.mem_append_right _ ha)) hR, h2⟩
theorem Rest.len {aB : Addr} {H : Hp} : ∀ {s : List BK} {bs F : List Addr} {ls : Ws}, Rest aB H s bs F ls → bs.length = s.length
  | [], _, _, _, ⟨e, _, _⟩ => by rw [e]; rfl
  | _ :: s, _, _, _, ⟨b, bs', F1, F2, l1, l2, e, _, _, hR, _⟩ => by rw [e, List.length_cons, List.length_cons, Rest.len (s := s) hR]
/-- the innermost block is written anew -/
theorem stk_put {aB D : Addr} {H H2 : Hp} {s s' : List BK} {b : Addr} {bs' F1 F2 F1' : List Addr} {l1 l2' : Ws} (hR : Rest aB H s bs' F2 l1) (hs : ∀ H, Rest aB H s bs' F2 l1 → Rest aB H s' bs' F2 l1) (nd : (D :: (F1 ++ F2)).Nodup) (fr : ∀ a o, a ∉ D :: F1 → H a = some o → H2 a = some o) (tu : Tups H H2)
    (hB : Blk (6 - s'.length) aB H2 b s'.head? F1' l2') (nd1 : (D :: F1').Nodup) (f1 : ∀ a ∈ F1', a ∈ F1 ∨ H a = none) :
    Stk aB H2 s' (b :: bs') (F1' ++ F2) (l1 ++ l2') ∧ (D :: (F1' ++ F2)).Nodup ∧ (∀ a ∈ F1' ++ F2, a ∈ F1 ++ F2 ∨ H a = none) ∧ (∀ c o, c ∉ D :: (F1 ++ F2) → H c = some o → H2 c = some o) := by
  rw [List.nodup_cons, List.nodup_append] at nd
  obtain ⟨nD, n1, n2, n12⟩ := nd
  have dis : ∀ a ∈ F2, a ∉ D :: F1 := fun a ha hm => by
    rcases List.mem_cons.mp hm with rfl | hm
    · exact nD (List.mem_append_right _ ha)
    · exact n12 a hm a ha rfl
  refine ⟨⟨b, bs', F1', F2, l1, l2', rfl, rfl, hB, hs _ (hR.frame tu fun a ha o e => fr a o (dis a ha) e), rfl⟩, ?_, ?_, ?_⟩
  · rw [List.nodup_cons] at nd1
    rw [List.nodup_cons, List.nodup_append]
    refine ⟨fun hm => (List.mem_append.mp hm).elim nd1.1 fun h => nD (List.mem_append_right _ h), nd1.2, n2, ?_⟩
    rintro a ha c hc rfl
    rcases f1 a ha with h | h
    · exact n12 a h a hc rfl
    · obtain ⟨o, e, _⟩ := hR.there a hc
      rw [h] at e
      cases e
  · intro a ha
    rcases List.mem_append.mp ha with h | h
    · exact (f1 a h).imp (List.mem_append_left _) id
    · exact .inl (List.mem_append_right _ h)
  · intro c o hc e
    exact fr c o (fun hm => hc (by
      rcases List.mem_cons.mp hm with rfl | hm
      · exact List.mem_cons_self
      · exact List.mem_cons_of_mem _ (List.mem_append_left _ hm))) e
theorem stepP_len {k : RK} {s s' : List BK} (h : stepP k s = some s') (hs : s.length ≤ 6) : s'.length ≤ 6 := by
  unfold stepP at h
  split at h
  all_goals first
    | (cases h; done)
    | (cases h; assumption)
    | (cases h; simp only [List.length_cons] at *; omega)
    | (split at h
       · cases h
       · cases h
         simp only [List.length_cons] at *
         omega)
theorem at_last {b : Addr} {bs : List Addr} : atI ((b :: bs).reverse.map V.ref) (-1) = some (.ref b) := by
  rw [List.reverse_cons, List.map_append]
  have e : (bs.reverse.map V.ref ++ [b].map V.ref).length = bs.length + 1 := by simp
  unfold atI ixN
  rw [if_neg (by omega), e, if_pos (by omega)]
  show (bs.reverse.map V.ref ++ [b].map V.ref)[((-1 : Int) + ((bs.length + 1 : Nat) : Int)).toNat]? = _
  rw [show ((-1 : Int) + ((bs.length + 1 : Nat) : Int)).toNat = bs.length by omega, List.getElem?_append_right (by simp)]
  simp
end BD
/-! W11: lies_right. -/
namespace BD
open PySem PySem.Spec L2 TL
open PyProof.Rows hiding St
/-- the blocks below the innermost are no open parts -/
def SOk (s : List BK) : Prop := s.length ≤ 6 ∧ .parts ∉ s.tail
theorem step_opn {b : BK} {s : List BK} (h : s.head? ≠ some .parts) : stepP (.opn b) s = if s.length + 1 > 6 then none else some (b :: s) := by
  cases s with
  | nil => rfl
  | cons x r => cases x <;> first | rfl | exact absurd rfl h
theorem step_ask {s : List BK} (h : s.head? ≠ some .parts) : stepP .ask s = some s := by
  cases s with
  | nil => rfl
  | cons x r => cases x <;> first | rfl | exact absurd rfl h
theorem stepP_ok {k : RK} {s s' : List BK} (h : stepP k s = some s') (o : SOk s) : SOk s' := by
  refine ⟨stepP_len h o.1, ?_⟩
  have ot := o.2
  by_cases hp : ∃ b, k = .opn b
  · obtain ⟨b, rfl⟩ := hp
    by_cases hh : s.head? = some .parts
    · cases s with
      | nil => cases hh
      | cons x r =>
        cases hh
        simp [stepP] at h
    · rw [step_opn hh] at h
      split at h
      · cases h
      · cases h
        cases s with
        | nil => simp
        | cons x r =>
          intro hm
          rcases List.mem_cons.mp hm with e | hm
          · exact hh (by rw [e]; rfl)
          · exact ot hm
  · unfold stepP at h
    split at h
    all_goals first
      | (cases h; done)
      | (cases h; exact ot)
      | (cases h; intro hm; exact ot (List.mem_of_mem_tail hm))
      | exact absurd ⟨_, rfl⟩ hp
theorem step_els_no {s : List BK} (h : hn s.head? ≠ "if") : stepP .els s = none := by
  cases s with
  | nil => rfl
  | cons x r => cases x <;> first | rfl | exact absurd rfl h
theorem step_key_no {s : List BK} (h : hn s.head? ≠ "parts") : stepP .key s = none := by
  cases s with
  | nil => rfl
  | cons x r => cases x <;> first | rfl | exact absurd rfl h
def SName : RK → Str → Prop
  | .ask, x => x = "ask" ∨ x = "flat" ∨ x = "pick"
  | .opn b, x => x = hn (some b) ∧ b ≠ .els ∧ b ≠ .key
  | .key, x => x = "key"
  | .width, x => x = "width"
  | .els, x => x = "else"
  | .nd, x => x = "end"
theorem SaidAt.head {H : Hp} {v : V} {ws : Ws} {k : RK} (h : SaidAt H v ws k) : ∃ a x tl, v = .ref a ∧ H a = some (.tup (.str x :: tl)) ∧ SName k x := by
  cases k with
  | ask =>
    obtain ⟨head, cs, h1, ⟨a, nm, e, _, h2⟩, h3⟩ := h
    rcases h2 with ⟨e2, c, vs, wss, n1, n2, n3, x1, x2, x3, h, _⟩ | ⟨_, u, m, mw, uw, ns, xs, h, _⟩
    · exact ⟨a, "pick", _, e, h, .inr (.inr rfl)⟩
    · exact ⟨a, head, _, e, h, h1⟩
  | opn b =>
    have h0 : OpenAt H v ws b := h
    obtain ⟨a, e, h2⟩ := id h0
    subst e
    obtain ⟨tl, h1, _⟩ := OpenAt.head h0
    refine ⟨a, _, tl, rfl, h1, rfl, ?_, ?_⟩
    · rintro rfl; exact h2
    · rintro rfl; exact h2
  | key => obtain ⟨a, n, x, h1, h2, h3⟩ := h; exact ⟨a, _, _, h1, h2, rfl⟩
  | width => obtain ⟨a, n, x, h1, h2, h3⟩ := h; exact ⟨a, _, _, h1, h2, rfl⟩
  | els => obtain ⟨a, h1, h2, h3⟩ := h; exact ⟨a, _, _, h1, h2, rfl⟩
  | nd => obtain ⟨a, h1, h2, h3⟩ := h; exact ⟨a, _, _, h1, h2, rfl⟩
section
variable {K : PySem.W.Frag} {te : TE} {σ : L2.St} {H : Hp} {Q : Bool → Hp → Prop} {a : Addr} {x c : Str} {tl : List V}
theorem q_eq (hte : ∀ R : VK, R (.ref a) H → te σ H R) (ha : H a = some (.tup (.str x :: tl))) (hx : x = c) (h : Q true H) : tTest (tOp rEq (tOp (rIxT K) te (tC (.int 0))) (tC (.str c))) σ H Q :=
  hte _ ⟨a, _, 0, .str x, rfl, rfl, SqT.of ha, at_of (j := 0) rfl rfl, rfl, _, rfl, by rw [dec_eq hx]; exact h⟩
theorem q_ne (hte : ∀ R : VK, R (.ref a) H → te σ H R) (ha : H a = some (.tup (.str x :: tl))) (hx : x ≠ c) (h : Q false H) : tTest (tOp rEq (tOp (rIxT K) te (tC (.int 0))) (tC (.str c))) σ H Q :=
  hte _ ⟨a, _, 0, .str x, rfl, rfl, SqT.of ha, at_of (j := 0) rfl rfl, rfl, _, rfl, by rw [dec_ne hx]; exact h⟩
theorem n_eq (hte : ∀ R : VK, R (.ref a) H → te σ H R) (ha : H a = some (.tup (.str x :: tl))) (hx : x = c) (h : Q false H) : tTest (tOp rNe (tOp (rIxT K) te (tC (.int 0))) (tC (.str c))) σ H Q :=
  hte _ ⟨a, _, 0, .str x, rfl, rfl, SqT.of ha, at_of (j := 0) rfl rfl, rfl, _, rfl, by rw [dec_eq hx]; exact h⟩
theorem n_ne (hte : ∀ R : VK, R (.ref a) H → te σ H R) (ha : H a = some (.tup (.str x :: tl))) (hx : x ≠ c) (h : Q true H) : tTest (tOp rNe (tOp (rIxT K) te (tC (.int 0))) (tC (.str c))) σ H Q :=
  hte _ ⟨a, _, 0, .str x, rfl, rfl, SqT.of ha, at_of (j := 0) rfl rfl, rfl, _, rfl, by rw [dec_ne hx]; exact h⟩
end
theorem tups_fr {H H' : Hp} {L : List Addr} (fr : ∀ a o, a ∉ L → H a = some o → H' a = some o) (th : ∀ a ∈ L, ∃ o, H a = some o ∧ ∀ xs, o ≠ .tup xs) : Tups H H' := fun a xs e =>
  fr a _ (fun hm => by
    obtain ⟨o, e2, n⟩ := th a hm
    rw [e] at e2
    cases e2
    exact n xs rfl) e
theorem fresh_back {H H1 : Hp} {s q : Addr} {o : HO} (S : SB s H H1) (hs : H1 s = some o) (hq : H1 q = none) : H q = none := by
  cases e : H q with
  | none => rfl
  | some u =>
    have := S q u (fun z => by rw [z, hs] at hq; cases hq) e
    rw [hq] at this
    cases this
theorem nd4 {a b c d : Addr} (h1 : a ≠ b) (h2 : a ≠ c) (h3 : a ≠ d) (h4 : b ≠ c) (h5 : b ≠ d) (h6 : c ≠ d) : [a, b, c, d].Nodup := by simp [h1, h2, h3, h4, h5, h6]
theorem mem3 {a b c d : Addr} (h : a ∉ [b, c, d]) : a ≠ b ∧ a ≠ c ∧ a ≠ d := by simpa using h
theorem mem4 {a b c d e : Addr} (h : a ∉ [b, c, d, e]) : a ≠ b ∧ a ≠ c ∧ a ≠ d ∧ a ≠ e := by simpa using h
theorem f1_of {b sh q : Addr} {F : List Addr} {H : Hp} (h1 : b ∈ F) (h2 : sh ∈ F) (hq : H q = none) : ∀ a ∈ [b, sh, q], a ∈ F ∨ H a = none := fun a ha => by
  rcases List.mem_cons.mp ha with rfl | ha
  · exact .inl h1
  rcases List.mem_cons.mp ha with rfl | ha
  · exact .inl h2
  · cases List.mem_singleton.mp ha
    exact .inr hq
theorem join_else : Txt.join sp1 [("else" : Str)] = wElse := by decide +kernel
theorem join_end : Txt.join sp1 [("end" : Str)] = wEnd := by decide +kernel
section
variable {P : Program} {w : World} {K : PySem.W.Frag} {mg : Str → Option Value} {base : Heap}
def sp_lies (aB : Addr) : Sp := fun vs H Q _ => ∃ (D : Addr) (v : V) (s : List BK) (bs F : List Addr) (ls : Ws) (row : Str) (k : RK), vs = [.ref D, v] ∧ H D = some (.lst (bs.reverse.map V.ref)) ∧ Stk aB H s bs F ls ∧ (D :: F).Nodup ∧ SOk s ∧ ls.length + 1 < sizeLine ∧
  SaidAt H v (wordsOf row) k ∧ (stepP k s = none → Q (.bl false) H) ∧
  (∀ s' H' bs' F', stepP k s = some s' → H' D = some (.lst (bs'.reverse.map V.ref)) → (Stk aB H' s' bs' F' (ls ++ [row]) ∧ (D :: F').Nodup ∧ (∀ a ∈ F', a ∈ F ∨ H a = none) ∧ (∀ c o, c ∉ D :: F → H c = some o → H' c = some o)) → Q (.bl true) H')
theorem sc_lies_right : FnScope ["blocks", "said", "last"] ["blocks", "said"] (defScope (top 26)) := ⟨rfl, rfl, rfl, by decide +kernel, rfl, by decide +kernel, by decide +kernel⟩
theorem ok_lies_right (T : Txt K mg w) : FnOk P w K mg base CX0 3 T.lies_right.f T.lies_right.fd ["blocks", "said"] (sp_lies T.aB) := by
  refine T.lies_right.F.ok sc_lies_right (fun vs H Q E h => ?_) (fun cdv A outer s0 H vs Q E hr h => ?_)
  · obtain ⟨D, v, s, bs, F, ls, row, k, rfl, _⟩ := h
    rfl
  · obtain ⟨D, v, s, bs, F, ls, row, k, rfl, hD, hS, nd, h6, hls, hv, kN, kS⟩ := h
    refine ⟨_, (pss_cons (ps_set (i := 2) sc_lies_right.nd rfl (Or.inl rfl) (pe_ix ix_list (pv 0) (pe_un un_neg pe_int) (fun _ _ => rfl)))
      (pss_cons (ps_if (pt_cmpR op_eq (pe_ix ix_tup (pv 1) pe_int (fun _ _ => rfl)) pe_str (nomark _)) (pss_one (ps_ret pe_bl)) pss_nil)
      (pss_cons (ps_if (pt_cmpR op_eq (pe_ix ix_tup (pv 1) pe_int (fun _ _ => rfl)) pe_str (nomark _)) (pss_cons (ps_if (PW.pt (pw_or (pt_cmpR op_ne (pe_ix ix_tup (pe_fld (pv 2) rfl) pe_int (fun _ _ => rfl)) pe_str (nomark _)) (pw_or1 (pt_cmpR op_gt (pe_callB call_len_seq (by rfl) T.n_len (by decide +kernel) (pa_cons (pe_fld (pv 2) rfl) pa_nil)) pe_int (nomark _))))) (pss_one (ps_ret pe_bl)) pss_nil)
      (pss_cons (ps_expr (pe_meth0 (pv 2) T.cl_Block T.Block_shuts.m (ok_Block_shuts T) (hr.mono (by first | decide | omega)) T.Block_shuts.b .nil pass0))
      (pss_one (ps_fld (pv 2) (pe_lst pa_nil) rfl)))) (pss_one (ps_if (pt_cmpR op_eq (pe_ix ix_tup (pv 1) pe_int (fun _ _ => rfl)) pe_str (nomark _)) (pss_cons (ps_if (pt_cmpR op_ne (pe_ix ix_tup (pe_fld (pv 2) rfl) pe_int (fun _ _ => rfl)) pe_str (nomark _)) (pss_one (ps_ret pe_bl)) pss_nil)
      (pss_cons (ps_expr (pe_meth0 (pv 2) T.cl_Block T.Block_shuts.m (ok_Block_shuts T) (hr.mono (by first | decide | omega)) T.Block_shuts.b .nil pass0))
      (pss_cons (ps_fld (pv 2) (pe_lst pa_nil) rfl)
      (pss_one (ps_fld (pv 2) (pe_ix ix_tup (pv 1) pe_int (fun _ _ => rfl)) rfl))))) (pss_one (ps_if (pt_cmpR op_eq (pe_ix ix_tup (pv 1) pe_int (fun _ _ => rfl)) pe_str (nomark _)) (pss_cons (ps_if (PW.pt (pw_or (pt_cmpR op_eq (pe_callB call_len_seq (by rfl) T.n_len (by decide +kernel) (pa_cons (pv 0) pa_nil)) pe_int (nomark _)) (pw_or1 (PW.pt (pw_and (pt_cmpR op_eq (pe_ix ix_tup (pe_fld (pv 2) rfl) pe_int (fun _ _ => rfl)) pe_str (nomark _)) (pw_and1 (pt_cmpR op_ne (pe_callB call_len_seq (by rfl) T.n_len (by decide +kernel) (pa_cons (pe_fld (pv 2) rfl) pa_nil)) pe_int (nomark _)))))))) (pss_one (ps_ret pe_bl)) pss_nil)
      (pss_cons (ps_expr (pe_bm0 PySem.F.plainAttrs_list PySem.F.slot_list_pop PySem.F.type_list_pop mt_pop (pv 0)))
      (pss_one (ps_expr (pe_bm PySem.F.plainAttrs_list PySem.F.slot_list_append PySem.F.type_list_append mt_append (pe_fld (pe_ix ix_list (pv 0) (pe_un un_neg pe_int) (fun _ _ => rfl)) rfl) (pa_cons (pe_meth0 (pv 2) T.cl_Block T.Block_statement.m (ok_Block_statement T) (hr.mono (by first | decide | omega)) T.Block_statement.b .nil pass0) pa_nil)))))) (pss_one (ps_if (pt_cmp (pc_isN (pe_fld (pv 2) rfl)) rfl) (pss_one (ps_ret pe_bl)) (pss_one (ps_if (PW.pt (pw_or (pt_cmpR op_eq (pe_ix ix_tup (pv 1) pe_int (fun _ _ => rfl)) pe_str (nomark _)) (pw_or (pt_cmpR op_eq (pe_ix ix_tup (pv 1) pe_int (fun _ _ => rfl)) pe_str (nomark _)) (pw_or1 (pt_cmpR op_eq (pe_ix ix_tup (pv 1) pe_int (fun _ _ => rfl)) pe_str (nomark _)))))) (pss_one (ps_expr (pe_bm PySem.F.plainAttrs_list PySem.F.slot_list_append PySem.F.type_list_append mt_append (pe_fld (pv 2) rfl) (pa_cons (pv 1) pa_nil)))) (pss_cons (ps_if (pt_cmpR op_gt (pe_callB call_len_seq (by rfl) T.n_len (by decide +kernel) (pa_cons (pv 0) pa_nil)) (pe_cst rfl T.c_BLOCKS_DEEP) (nomark _)) (pss_one (ps_ret pe_bl)) pss_nil)
      (pss_one (ps_expr (pe_bm PySem.F.plainAttrs_list PySem.F.slot_list_append PySem.F.type_list_append mt_append (pv 0) (pa_cons (pe_make T.Block_init.mkk (ok_Block_init T) (hr.mono (by first | decide | omega)) rfl T.Block_init.g T.Block_init.b .nil pass0 (pa_cons (pv 1) pa_nil)) pa_nil))))))))))))))
      (pss_one (ps_ret pe_bl))))), ?_⟩
    have hlen := Rest.len hS
    obtain ⟨b, bs', F1, F2, l1, l2, rfl, rfl, hBlk, hR, rfl⟩ := hS
    have th := hBlk.there
    have hBlk0 := hBlk
    have thD : ∀ a ∈ D :: F1, ∃ o, H a = some o ∧ ∀ xs, o ≠ .tup xs := fun a ha => by
      rcases List.mem_cons.mp ha with rfl | ha
      · exact ⟨_, hD, fun xs z => by cases z⟩
      · exact th a ha
    obtain ⟨dx, hd, sh, rv, kv, ss, pre, post, hb, hs, hpr, hla, rfl⟩ := hBlk
    obtain ⟨tl, hh, htl⟩ := hpr.head
    have nbs : b ≠ sh := ne_of hb hs (fun z => by cases z)
    have nDb : D ≠ b := ne_of hD hb (fun z => by cases z)
    have hfew := hpr.few
    have hz : ss.length < sizeLine := by
      simp only [List.length_append] at hls
      omega
    refine ⟨_, rfl, _, rfl, D, _, _, _, rfl, rfl, SqL.of hD, at_last, ?_⟩
    obtain ⟨a, x, tlv, rfl, ha, hx⟩ := hv.head
    have nD : D ∉ F1 := fun hm => (List.nodup_cons.mp nd).1 (List.mem_append_left _ hm)
    have hV : ∀ R : VK, R (.ref a) H → tVar 1 [some (.ref D), some (.ref a), some (.ref b)] H R := fun R q => ⟨_, rfl, q⟩
    have hF : ∀ R : VK, R (.ref hd) H → tFld K (tVar 2) "head" [some (.ref D), some (.ref a), some (.ref b)] H R := fun R q => ⟨_, rfl, b, T.aB, dx, _, _, rfl, hb, T.cl_Block, T.b_head, bl_head _ _ _ _, q⟩
    cases k with
    | width =>
      refine q_eq hV ha hx ?_
      exact iteT (kN rfl)
    | els =>
      have hx : x = "else" := hx
      subst hx
      refine q_ne hV ha (by decide +kernel) ?_
      refine iteF ?_
      refine q_eq hV ha rfl ?_
      refine iteT ?_
      by_cases hif : hn s.head? = "if"
      · refine n_eq hF hh hif ?_
        refine iteF ?_
        refine ⟨_, rfl, b, T.aB, dx, _, _, rfl, hb, T.cl_Block, T.b_shut, bl_shut _ _ _ _, sh, _, rfl, .inl (SqL.of hs), _, _, rfl, rfl, _, rfl, ?_⟩
        rcases s with _ | ⟨y, s1⟩
        · exact absurd hif (by decide +kernel)
        cases y with
        | parts => exact absurd hif (show ("parts" : Str) ≠ "if" by decide +kernel)
        | key => exact absurd hif (show ("parts" : Str) ≠ "if" by decide +kernel)
        | draw => exact absurd hif (show ("draw" : Str) ≠ "if" by decide +kernel)
        | on => exact absurd hif (show ("on" : Str) ≠ "if" by decide +kernel)
        | els =>
          obtain ⟨row0, r1, m1, ho, rfl, hr1, rfl⟩ := hpr
          rw [decide_eq_true (by simp)]
          exact iteT (kN rfl)
        | iff =>
          obtain ⟨row0, ho, rfl, rfl⟩ := hpr
          rw [decide_eq_false (by simp)]
          refine iteF ?_
          rcases hla with ⟨e, _⟩ | ⟨_, rw', vs, lss, rfl, rfl, hr', hvs, rfl⟩
          · cases e
          refine ⟨_, rfl, b, dx, _, rfl, hb, bl_no_shuts _ _ _ _, b, dx, hd, sh, _, kv, _, tl, [], rfl, hb, hh, hs, hz, .inr ⟨rw', vs, rfl, hr', .inl ⟨show ("if" : Str) ≠ "parts" by decide +kernel, fun t H1 hs1 ht1 S1 => ?_⟩⟩⟩
          have hb1 := S1 b _ nbs hb
          refine ⟨by decide, fun q hq => ⟨_, rfl, b, T.aB, dx, _, rfl, by rw [upd_ne (ne_of_none hb1 hq)]; exact hb1, T.cl_Block, T.b_rows, bl_len _ _ _ _, ?_⟩⟩
          have hq0 : H q = none := fresh_back S1 hs1 hq
          have hD1 := S1 D _ (fun z => nD (by simp [z])) hD
          obtain ⟨H2, e2⟩ : ∃ H2, H2 = upd (upd H1 q (.lst [])) b (.ins T.aB dx (putF "rows" (.ref q) (bf (.ref hd) (.ref sh) (.ref rw') kv))) := ⟨_, rfl⟩
          have fr : ∀ c o, c ∉ D :: [b, sh, rw'] → H c = some o → H2 c = some o := fun c o hc e => by
            obtain ⟨n1, n2, n3, n4⟩ := mem4 hc
            rw [e2, upd_ne n2, upd_ne (ne_of_none e hq0)]
            exact S1 c o n3 e
          have tu := tups_fr fr thD
          have f2 : ∀ c o, c ≠ b → H1 c = some o → H2 c = some o := fun c o n e => by
            rw [e2, upd_ne n, upd_ne (ne_of_none e hq)]
            exact e
          have hq2 : H2 q = some (.lst []) := by rw [e2, upd_ne (ne_of_none hb1 hq).symm]; exact upd_same
          have erow : row = wElse := by
            obtain ⟨_, _, _, e⟩ := hv
            exact (row_is e).trans join_else
          have P := stk_put (aB := T.aB) (s := .iff :: s1) (s' := .els :: s1) (b := b) (F1' := [b, sh, q]) (l2' := row0 :: (lss.flatten ++ [wElse]) ++ []) hR (fun _ h => h) nd fr tu
            ⟨dx, hd, sh, .ref q, kv, [.ref t], _, [], by rw [e2, upd_same, bf_rows], f2 _ _ nbs.symm hs1, ⟨row0, .ref t, lss.flatten, ho.mono tu, rfl, ⟨t, vs, lss, rfl, f2 _ _ (ne_of ht1 hb1 (fun z => by cases z)) ht1, hvs.imp fun _ _ h => h.mono _ tu, rfl⟩, rfl⟩, .inr ⟨by simp, q, [], [], rfl, rfl, hq2, .nil, rfl⟩, rfl⟩
            (nd4 nDb (fun z => nD (by simp [z])) (ne_of_none hD hq0) nbs (ne_of_none hb hq0) (ne_of_none hs hq0)) (f1_of (by simp) (by simp) hq0)
          rw [← e2]
          refine kS (.els :: s1) H2 (b :: bs') ([b, sh, q] ++ F2) rfl (f2 _ _ nDb hD1) ?_
          rw [erow]
          simpa [List.append_assoc] using P
      · refine n_ne hF hh hif ?_
        exact iteT (kN (step_els_no hif))
    | key =>
      have hx : x = "key" := hx
      subst hx
      refine q_ne hV ha (by decide +kernel) ?_
      refine iteF ?_
      refine q_ne hV ha (by decide +kernel) ?_
      refine iteF ?_
      refine q_eq hV ha rfl ?_
      refine iteT ?_
      obtain ⟨av, n, xw, eav, hav, hxw, hrow⟩ := hv
      cases eav
      by_cases hif : hn s.head? = "parts"
      · refine n_eq hF hh hif ?_
        refine iteF ?_
        rcases s with _ | ⟨y, s1⟩
        · exact absurd hif (show ("all" : Str) ≠ "parts" by decide +kernel)
        cases y with
        | iff => exact absurd hif (show ("if" : Str) ≠ "parts" by decide +kernel)
        | els => exact absurd hif (show ("if" : Str) ≠ "parts" by decide +kernel)
        | draw => exact absurd hif (show ("draw" : Str) ≠ "parts" by decide +kernel)
        | on => exact absurd hif (show ("on" : Str) ≠ "parts" by decide +kernel)
        | parts =>
          obtain ⟨row0, ho, rfl, rfl⟩ := hpr
          obtain ⟨_, rfl, rfl, rfl⟩ := hla.resolve_right fun z => z.1 rfl
          refine ⟨_, rfl, b, dx, _, rfl, hb, bl_no_shuts _ _ _ _, b, dx, hd, sh, _, kv, _, tl, [], rfl, hb, hh, hs, hz, .inl ⟨rfl, rfl, ?_⟩⟩
          refine ⟨by decide, fun q hq => ⟨_, rfl, b, T.aB, dx, _, rfl, by rw [upd_ne (ne_of_none hb hq)]; exact hb, T.cl_Block, T.b_rows, bl_len _ _ _ _, ?_⟩⟩
          have nab : a ≠ b := ne_of ha hb (fun z => by cases z)
          refine ⟨_, rfl, a, _, 1, .int n, rfl, rfl, SqT.of (by rw [upd_ne nab, upd_ne (ne_of_none ha hq)]; exact hav), at_of (j := 1) rfl rfl, _, rfl, b, T.aB, dx, _, rfl, upd_same, T.cl_Block, T.b_key, by rw [bf_rows]; exact bl_len _ _ _ _, ?_⟩
          obtain ⟨H2, e2⟩ : ∃ H2, H2 = upd (upd (upd H q (.lst [])) b (.ins T.aB dx (putF "rows" (.ref q) (bf (.ref hd) (.ref sh) .non kv)))) b (.ins T.aB dx (putF "key" (.int n) (putF "rows" (.ref q) (bf (.ref hd) (.ref sh) .non kv)))) := ⟨_, rfl⟩
          have f2 : ∀ c o, c ≠ b → H c = some o → H2 c = some o := fun c o n e => by
            rw [e2, upd_ne n, upd_ne n, upd_ne (ne_of_none e hq)]
            exact e
          have fr : ∀ c o, c ∉ D :: [b, sh] → H c = some o → H2 c = some o := fun c o hc e => f2 c o (mem3 hc).2.1 e
          have tu := tups_fr fr thD
          have hq2 : H2 q = some (.lst []) := by rw [e2, upd_ne (ne_of_none hb hq).symm, upd_ne (ne_of_none hb hq).symm]; exact upd_same
          have P := stk_put (aB := T.aB) (s := .parts :: s1) (s' := .key :: s1) (b := b) (F1' := [b, sh, q]) (l2' := row0 :: ([] ++ [row]) ++ []) hR (fun _ h => h) nd fr tu
            ⟨dx, hd, sh, .ref q, .int n, [], _, [], by rw [e2, upd_same, bf_rows, bf_key], f2 _ _ nbs.symm hs, ⟨row0, [], n, xw, row, ho.mono tu, .nil, rfl, hxw, hrow, rfl⟩, .inr ⟨by simp, q, [], [], rfl, rfl, hq2, .nil, rfl⟩, rfl⟩
            (nd4 nDb (fun z => nD (by simp [z])) (ne_of_none hD hq) nbs (ne_of_none hb hq) (ne_of_none hs hq)) (f1_of (by simp) (by simp) hq)
          rw [← e2]
          refine kS (.key :: s1) H2 (b :: bs') ([b, sh, q] ++ F2) rfl (f2 _ _ nDb hD) ?_
          simpa [List.append_assoc] using P
        | key =>
          obtain ⟨row0, pss, n0, x0, krow, ho, hps, rfl, hx0, hkrow, rfl⟩ := hpr
          rcases hla with ⟨e, _⟩ | ⟨_, rw', vs, lss, rfl, rfl, hr', hvs, rfl⟩
          · cases e
          refine ⟨_, rfl, b, dx, _, rfl, hb, bl_no_shuts _ _ _ _, b, dx, hd, sh, _, _, _, tl, ss, rfl, hb, hh, hs, hz, .inr ⟨rw', vs, rfl, hr', .inr ⟨rfl, fun t p H1 hs1 hp1 ht1 S1 => ?_⟩⟩⟩
          have hb1 := S1 b _ nbs hb
          have nas : a ≠ sh := ne_of ha hs (fun z => by cases z)
          have ha1 := S1 a _ nas hav
          have nab : a ≠ b := ne_of ha hb (fun z => by cases z)
          refine ⟨by decide, fun q hq => ⟨_, rfl, b, T.aB, dx, _, rfl, by rw [upd_ne (ne_of_none hb1 hq)]; exact hb1, T.cl_Block, T.b_rows, bl_len _ _ _ _, ?_⟩⟩
          refine ⟨_, rfl, a, _, 1, .int n, rfl, rfl, SqT.of (by rw [upd_ne nab, upd_ne (ne_of_none ha1 hq)]; exact ha1), at_of (j := 1) rfl rfl, _, rfl, b, T.aB, dx, _, rfl, upd_same, T.cl_Block, T.b_key, by rw [bf_rows]; exact bl_len _ _ _ _, ?_⟩
          have hq0 : H q = none := fresh_back S1 hs1 hq
          have hD1 := S1 D _ (fun z => nD (by simp [z])) hD
          obtain ⟨H2, e2⟩ : ∃ H2, H2 = upd (upd (upd H1 q (.lst [])) b (.ins T.aB dx (putF "rows" (.ref q) (bf (.ref hd) (.ref sh) (.ref rw') (.int n0))))) b (.ins T.aB dx (putF "key" (.int n) (putF "rows" (.ref q) (bf (.ref hd) (.ref sh) (.ref rw') (.int n0))))) := ⟨_, rfl⟩
          have f2 : ∀ c o, c ≠ b → H1 c = some o → H2 c = some o := fun c o n e => by
            rw [e2, upd_ne n, upd_ne n, upd_ne (ne_of_none e hq)]
            exact e
          have fr : ∀ c o, c ∉ D :: [b, sh, rw'] → H c = some o → H2 c = some o := fun c o hc e => f2 c o (mem4 hc).2.1 (S1 c o (mem4 hc).2.2.1 e)
          have tu := tups_fr fr thD
          have hq2 : H2 q = some (.lst []) := by rw [e2, upd_ne (ne_of_none hb1 hq).symm, upd_ne (ne_of_none hb1 hq).symm]; exact upd_same
          have P := stk_put (aB := T.aB) (s := .key :: s1) (s' := .key :: s1) (b := b) (F1' := [b, sh, q]) (l2' := row0 :: ((pss ++ [krow :: lss.flatten]).flatten ++ [row]) ++ []) hR (fun _ h => h) nd fr tu
            ⟨dx, hd, sh, .ref q, .int n, ss ++ [.ref p], _, [], by rw [e2, upd_same, bf_rows, bf_key], f2 _ _ nbs.symm hs1, ⟨row0, pss ++ [krow :: lss.flatten], n, xw, row, ho.mono tu,
              (hps.imp fun _ _ h => PartOf.mono tu (fun _ _ => RowsAt.mono tu) h).snoc ⟨p, n0, .ref t, x0, krow, lss.flatten, rfl, f2 _ _ (ne_of hp1 hb1 (fun z => by cases z)) hp1, hx0, hkrow, ⟨t, vs, lss, rfl, f2 _ _ (ne_of ht1 hb1 (fun z => by cases z)) ht1, hvs.imp fun _ _ h => h.mono _ tu, rfl⟩, rfl⟩,
              rfl, hxw, hrow, rfl⟩, .inr ⟨by simp, q, [], [], rfl, rfl, hq2, .nil, rfl⟩, rfl⟩
            (nd4 nDb (fun z => nD (by simp [z])) (ne_of_none hD hq0) nbs (ne_of_none hb hq0) (ne_of_none hs hq0)) (f1_of (by simp) (by simp) hq0)
          rw [← e2]
          refine kS (.key :: s1) H2 (b :: bs') ([b, sh, q] ++ F2) rfl (f2 _ _ nDb hD1) ?_
          simpa [List.append_assoc] using P
      · refine n_ne hF hh hif ?_
        exact iteT (kN (step_key_no hif))
    | nd =>
      have hx : x = "end" := hx
      subst hx
      refine q_ne hV ha (by decide +kernel) ?_
      refine iteF ?_
      refine q_ne hV ha (by decide +kernel) ?_
      refine iteF ?_
      refine q_ne hV ha (by decide +kernel) ?_
      refine iteF ?_
      refine q_eq hV ha rfl ?_
      refine iteT ?_
      have erow : row = wEnd := by
        obtain ⟨_, _, _, e⟩ := hv
        exact (row_is e).trans join_end
      refine ⟨_, rfl, D, _, rfl, .inl (SqL.of hD), rfl, _, rfl, ?_⟩
      rcases s with _ | ⟨y, s1⟩
      · rw [decide_eq_true (by rw [List.length_map, List.length_reverse, hlen]; rfl)]
        exact iteT (iteT (kN rfl))
      rw [decide_eq_false (by rw [List.length_map, List.length_reverse, hlen]; intro z; simp at z; omega)]
      refine iteF ?_
      by_cases hiff : y = .iff
      · subst hiff
        refine q_eq hF hh rfl ?_
        obtain ⟨row0, ho, rfl, rfl⟩ := hpr
        refine iteT ⟨_, rfl, b, T.aB, dx, _, _, rfl, hb, T.cl_Block, T.b_shut, bl_shut _ _ _ _, sh, _, rfl, .inl (SqL.of hs), rfl, _, rfl, ?_⟩
        exact iteT (kN rfl)
      have hstep : stepP .nd (y :: s1) = some s1 := by cases y <;> first | rfl | exact absurd rfl hiff
      -- the test is false
      have hgo : ∀ Q2 : Bool → Hp → Prop, Q2 false H → tAnd (tTest (tOp rEq (tOp (rIxT K) (tFld K (tVar 2) "head") (tC (.int 0))) (tC (.str "if")))) (tTest (tOp rNe (tCB (fun xs H Q => ∃ p ys, xs = [V.ref p] ∧ (SqL K H p ys ∨ SqT K H p ys) ∧ Q (V.int ys.length) H) (tCons (tFld K (tVar 2) "shut") tNil)) (tC (.int 1)))) [some (.ref D), some (.ref a), some (.ref b)] H Q2 := fun Q2 q => by
        by_cases hif : hn (some y) = "if"
        · have hy : y = .els := by
            cases y with
            | els => rfl
            | iff => exact absurd rfl hiff
            | parts => exact absurd hif (show ("parts" : Str) ≠ "if" by decide +kernel)
            | key => exact absurd hif (show ("parts" : Str) ≠ "if" by decide +kernel)
            | draw => exact absurd hif (show ("draw" : Str) ≠ "if" by decide +kernel)
            | on => exact absurd hif (show ("on" : Str) ≠ "if" by decide +kernel)
          subst hy
          refine q_eq hF hh rfl ?_
          obtain ⟨row0, r1, m1, ho, rfl, hr1, rfl⟩ := hpr
          exact iteT ⟨_, rfl, b, T.aB, dx, _, _, rfl, hb, T.cl_Block, T.b_shut, bl_shut _ _ _ _, sh, _, rfl, .inl (SqL.of hs), rfl, _, rfl, q⟩
        · refine q_ne hF hh hif ?_
          exact iteF q
      refine hgo _ ?_
      refine iteF ?_
      obtain ⟨b2, bs2, F3, F4, l3, l4, rfl, rfl, hBlk2, hR2, rfl⟩ := hR
      have th2 := hBlk2.there
      obtain ⟨dx2, hd2, sh2, rv2, kv2, ss2, pre2, post2, hb2, hs2, hpr2, hla2, rfl⟩ := hBlk2
      have hnp : s1.head? ≠ some .parts := fun z => by
        cases s1 with
        | nil => cases z
        | cons c r =>
          cases z
          exact h6.2 (by simp)
      obtain ⟨_, rw2, vs2, lss2, rfl, rfl, hr2, hvs2, rfl⟩ := hla2.resolve_left fun z => hnp z.1
      have ndd := nd
      rw [← List.append_assoc] at nd
      have nD2 : D ∉ [b2, sh2, rw2] := fun hm => (List.nodup_cons.mp ndd).1 (List.mem_append_right _ (List.mem_append_left _ hm))
      have n12 : ∀ c ∈ F1, c ∉ [b2, sh2, rw2] := fun c hc hm => by
        have := (List.nodup_append.mp (List.nodup_cons.mp ndd).2).2.2
        exact this c hc c (List.mem_append_left _ hm) rfl
      have shF : sh ∈ F1 := by
        rcases hla with ⟨_, _, e, _⟩ | ⟨_, rw', vs, lss, _, e, hr, _⟩ <;> simp [e]
      have nshD : sh ≠ D := fun z => nD (z ▸ shF)
      have nsh2 := mem3 (n12 sh shF)
      have exs : ((b :: b2 :: bs2).reverse.map V.ref) = (b2 :: bs2).reverse.map V.ref ++ [.ref b] := by
        rw [List.reverse_cons, List.map_append]
        rfl
      refine ⟨_, rfl, .inl ⟨rfl, _, SqL.of hD⟩, D, _, .ref b, rfl, rfl, hD, ?_, ?_⟩
      · rw [exs, List.length_append]
        simp
      rw [exs, List.dropLast_concat]
      -- blocks without the last
      obtain ⟨G, eG⟩ : ∃ G, G = upd H D (.lst ((b2 :: bs2).reverse.map V.ref)) := ⟨_, rfl⟩
      have gG : ∀ c o, c ≠ D → H c = some o → G c = some o := fun c o n e => by rw [eG, upd_ne n]; exact e
      have hGD : G D = some (.lst ((b2 :: bs2).reverse.map V.ref)) := by rw [eG]; exact upd_same
      rw [← eG]
      have hbG := gG b _ nDb.symm hb
      have hsG := gG sh _ nshD hs
      have hhG := gG hd _ (ne_of hh hD (fun z => by cases z)) hh
      have hb2G := gG b2 _ (ne_of hb2 hD (fun z => by cases z)) hb2
      have nrD : rw2 ≠ D := fun z => nD2 (by simp [z])
      have hr2G := gG rw2 _ nrD hr2
      -- what the statement is
      have key : ∀ (a1 : Addr) (G1 : Hp), SB sh G G1 → BlockOf (RowsAt (6 - (y :: s1).length) G1) G1 (.ref a1) ((pre ++ post) ++ [wEnd]) → Q (.bl true) (upd G1 rw2 (.lst (vs2 ++ [.ref a1]))) := fun a1 G1 S1 hBO => by
        obtain ⟨H2, e2⟩ : ∃ H2, H2 = upd G1 rw2 (.lst (vs2 ++ [.ref a1])) := ⟨_, rfl⟩
        have hrG1 := S1 rw2 _ nsh2.2.2.symm hr2G
        have fr : ∀ c o, c ∉ D :: (F1 ++ [b2, sh2, rw2]) → H c = some o → H2 c = some o := fun c o hc e => by
          have hc' : c ≠ D ∧ c ∉ F1 ∧ c ∉ [b2, sh2, rw2] := by
            refine ⟨fun z => hc (z ▸ List.mem_cons_self), fun z => hc (List.mem_cons_of_mem _ (List.mem_append_left _ z)), fun z => hc (List.mem_cons_of_mem _ (List.mem_append_right _ z))⟩
          rw [e2, upd_ne (mem3 hc'.2.2).2.2]
          exact S1 c o (fun z => hc'.2.1 (z ▸ shF)) (gG c o hc'.1 e)
        have thA : ∀ c ∈ D :: (F1 ++ [b2, sh2, rw2]), ∃ o, H c = some o ∧ ∀ xs, o ≠ .tup xs := fun c hc => by
          rcases List.mem_cons.mp hc with rfl | hc
          · exact ⟨_, hD, fun xs z => by cases z⟩
          rcases List.mem_append.mp hc with hc | hc
          · exact th c hc
          · exact th2 c hc
        have tu := tups_fr fr thA
        have tu1 : Tups G1 H2 := fun c xs e => by
          rw [e2, upd_ne (fun z => by rw [z, hrG1] at e; cases e)]
          exact e
        have f2 : ∀ c o, c ≠ D → c ≠ sh → c ≠ rw2 → H c = some o → H2 c = some o := fun c o n1 n2 n3 e => by
          rw [e2, upd_ne n3]
          exact S1 c o n2 (gG c o n1 e)
        have dep : 6 - s1.length = 6 - (y :: s1).length + 1 := by
          have := h6.1
          rw [List.length_cons] at this ⊢
          omega
        have nbr : b2 ≠ rw2 := ne_of hb2 hr2 (fun z => by cases z)
        have nsr : sh2 ≠ rw2 := fun z => by
          have := (List.nodup_append.mp (List.nodup_append.mp (List.nodup_cons.mp ndd).2).2.1).1
          simp [z] at this
        have nbs2 : b2 ≠ sh2 := ne_of hb2 hs2 (fun z => by cases z)
        have P := stk_put (aB := T.aB) (s := s1) (s' := s1) (b := b2) (F1' := [b2, sh2, rw2]) (l2' := pre2 ++ (lss2 ++ [(pre ++ post) ++ [wEnd]]).flatten) hR2 (fun _ h => h) nd fr tu
          ⟨dx2, hd2, sh2, .ref rw2, kv2, ss2, pre2, _, f2 _ _ (ne_of hb2 hD (fun z => by cases z)) nsh2.1.symm nbr hb2, f2 _ _ (fun z => nD2 (by simp [z])) nsh2.2.1.symm nsr hs2, hpr2.mono tu,
            .inr ⟨hnp, rw2, vs2 ++ [.ref a1], lss2 ++ [(pre ++ post) ++ [wEnd]], rfl, rfl, by rw [e2]; exact upd_same, (hvs2.imp fun _ _ h => StmAt.mono _ tu h).snoc (by
              rw [dep]
              exact .inr (BlockOf.mono tu1 (fun _ _ => RowsAt.mono tu1) hBO)), rfl⟩, rfl⟩
          (nd4 (fun z => nD2 (by simp [z])) (fun z => nD2 (by simp [z])) (fun z => nD2 (by simp [z])) nbs2 nbr nsr) (fun c hc => .inl (List.mem_append_right _ hc))
        rw [← e2]
        refine kS s1 H2 (b2 :: bs2) ([b2, sh2, rw2] ++ F4) hstep (by rw [e2, upd_ne nrD.symm]; exact S1 D _ nshD.symm hGD) ?_
        rw [erow]
        simpa [List.append_assoc] using P
      -- blocks[-1].rows.append(last.statement())
      refine ⟨_, rfl, _, rfl, D, _, _, _, rfl, rfl, SqL.of hGD, at_last, b2, T.aB, dx2, _, _, rfl, hb2G, T.cl_Block, T.b_rows, bl_rows _ _ _ _, .inl ⟨rfl, _, SqL.of hr2G⟩, ?_⟩
      have hvl : vs2.length < sizeLine := by
        have := all2_len_flat (fun _ _ h => StmAt.pos h) hvs2
        simp only [List.length_append] at hls
        omega
      refine ⟨_, rfl, b, dx, _, rfl, hbG, bl_no_statement _ _ _ _, b, dx, hd, sh, _, _, _, tl, ss, rfl, hbG, hhG, hsG, hz, by omega, ?_⟩
      have fin1 : ∀ (a1 : Addr) (G1 : Hp), SB sh G G1 → BlockOf (RowsAt (6 - (y :: s1).length) G1) G1 (.ref a1) ((pre ++ post) ++ [wEnd]) → rAppend (.ref rw2) [.ref a1] G1 fun v H' => Q (.bl true) H' := fun a1 G1 S1 hBO =>
        ⟨rw2, vs2, .ref a1, rfl, rfl, S1 rw2 _ nsh2.2.2.symm hr2G, hvl, key a1 G1 S1 hBO⟩
      have tG : ∀ {G1 : Hp}, SB sh G G1 → Tups H G1 := fun {G1} S1 c xs e => S1 c _ (fun z => by rw [z, hs] at e; cases e) (gG c _ (fun z => by rw [z, hD] at e; cases e) e)
      cases y with
      | iff => exact absurd rfl hiff
      | parts =>
        obtain ⟨_, rfl, rfl, rfl⟩ := hla.resolve_right fun z => z.1 rfl
        obtain ⟨row0, ho, rfl, rfl⟩ := hpr
        refine .inl ⟨rfl, rfl, fun a1 c G1 h1 h2 S1 => fin1 a1 G1 S1 ?_⟩
        obtain ⟨_, e, t0, tw, ht, htw, eo⟩ := ho
        cases e
        have := ht.symm.trans hh
        cases this
        exact ⟨a1, row0, rfl, .inr (.inl ⟨t0, tw, c, [], [], h1, h2, htw.mono _ (tG S1), eo, .nil, rfl⟩)⟩
      | els =>
        obtain ⟨_, rw', vs, lss, rfl, rfl, hr', hvs, rfl⟩ := hla.resolve_left fun z => by cases z.1
        obtain ⟨row0, r1, m1, ho, rfl, hr1, rfl⟩ := hpr
        refine .inr ⟨rw', vs, rfl, gG _ _ (fun z => nD (by simp [z])) hr', .inl ⟨show ("if" : Str) ≠ "parts" by decide +kernel, by simp, fun t a1 G1 h1 h2 S1 => fin1 a1 G1 S1 ?_⟩⟩
        obtain ⟨_, e, t0, tw, ht, htw, eo⟩ := ho
        cases e
        have := ht.symm.trans hh
        cases this
        exact ⟨a1, row0, rfl, .inl ⟨t0, tw, r1, .ref t, m1, lss.flatten, h1, htw.mono _ (tG S1), eo, hr1.mono (tG S1), ⟨t, vs, lss, rfl, h2, hvs.imp fun _ _ h => h.mono _ (tG S1), rfl⟩, by simp⟩⟩
      | key =>
        obtain ⟨_, rw', vs, lss, rfl, rfl, hr', hvs, rfl⟩ := hla.resolve_left fun z => by cases z.1
        obtain ⟨row0, pss, n0, x0, krow, ho, hps, rfl, hx0, hkrow, rfl⟩ := hpr
        refine .inr ⟨rw', vs, rfl, gG _ _ (fun z => nD (by simp [z])) hr', .inr ⟨rfl, fun t p a1 c G1 h1 h2 h3 h4 S1 => fin1 a1 G1 S1 ?_⟩⟩
        obtain ⟨_, e, t0, tw, ht, htw, eo⟩ := ho
        cases e
        have := ht.symm.trans hh
        cases this
        refine ⟨a1, row0, rfl, .inr (.inl ⟨t0, tw, c, _, pss ++ [krow :: lss.flatten], h1, h2, htw.mono _ (tG S1), eo, ?_, by simp⟩)⟩
        exact (hps.imp fun _ _ h => PartOf.mono (tG S1) (fun _ _ => RowsAt.mono (tG S1)) h).snoc ⟨p, n0, .ref t, x0, krow, lss.flatten, rfl, h3, hx0, hkrow, ⟨t, vs, lss, rfl, h4, hvs.imp fun _ _ h => h.mono _ (tG S1), rfl⟩, rfl⟩
      | draw =>
        obtain ⟨_, rw', vs, lss, rfl, rfl, hr', hvs, rfl⟩ := hla.resolve_left fun z => by cases z.1
        obtain ⟨row0, ho, rfl, rfl⟩ := hpr
        refine .inr ⟨rw', vs, rfl, gG _ _ (fun z => nD (by simp [z])) hr', .inl ⟨show ("draw" : Str) ≠ "parts" by decide +kernel, by simp, fun t a1 G1 h1 h2 S1 => fin1 a1 G1 S1 ?_⟩⟩
        obtain ⟨_, e, m, n, x1, y1, ht, hx1, hy1, eo⟩ := ho
        cases e
        have := ht.symm.trans hh
        cases this
        exact ⟨a1, row0, rfl, .inr (.inr (.inl ⟨m, n, x1, y1, .ref t, lss.flatten, h1, hx1, hy1, eo, ⟨t, vs, lss, rfl, h2, hvs.imp fun _ _ h => h.mono _ (tG S1), rfl⟩, by simp⟩))⟩
      | on =>
        obtain ⟨_, rw', vs, lss, rfl, rfl, hr', hvs, rfl⟩ := hla.resolve_left fun z => by cases z.1
        obtain ⟨row0, ho, rfl, rfl⟩ := hpr
        refine .inr ⟨rw', vs, rfl, gG _ _ (fun z => nD (by simp [z])) hr', .inl ⟨show ("on" : Str) ≠ "parts" by decide +kernel, by simp, fun t a1 G1 h1 h2 S1 => fin1 a1 G1 S1 ?_⟩⟩
        obtain ⟨_, e, u0, uw, ht, huw, eo⟩ := ho
        cases e
        have := ht.symm.trans hh
        cases this
        exact ⟨a1, row0, rfl, .inr (.inr (.inr ⟨u0, uw, .ref t, lss.flatten, h1, huw.mono _ (tG S1), eo, ⟨t, vs, lss, rfl, h2, hvs.imp fun _ _ h => h.mono _ (tG S1), rfl⟩, by simp⟩))⟩
    | ask =>
      have hx : x = "ask" ∨ x = "flat" ∨ x = "pick" := hx
      have hn4 : x ≠ "width" ∧ x ≠ "else" ∧ x ≠ "key" ∧ x ≠ "end" := by
        rcases hx with rfl | rfl | rfl <;> decide +kernel
      refine q_ne hV ha hn4.1 ?_
      refine iteF ?_
      refine q_ne hV ha hn4.2.1 ?_
      refine iteF ?_
      refine q_ne hV ha hn4.2.2.1 ?_
      refine iteF ?_
      refine q_ne hV ha hn4.2.2.2 ?_
      refine iteF ?_
      refine ⟨_, rfl, b, T.aB, dx, _, _, rfl, hb, T.cl_Block, T.b_rows, bl_rows _ _ _ _, _, rfl, ?_⟩
      rcases hla with ⟨e, rfl, _⟩ | ⟨hnp, rw', vs, lss, rfl, rfl, hr', hvs, rfl⟩
      · refine iteT (kN ?_)
        cases s with
        | nil => cases e
        | cons c r =>
          cases e
          rfl
      refine iteF ?_
      have goal : Q (.bl true) (upd H rw' (.lst (vs ++ [.ref a]))) := by
        obtain ⟨H2, e2⟩ : ∃ H2, H2 = upd H rw' (.lst (vs ++ [.ref a])) := ⟨_, rfl⟩
        have f2 : ∀ c o, c ≠ rw' → H c = some o → H2 c = some o := fun c o n e => by rw [e2, upd_ne n]; exact e
        have fr : ∀ c o, c ∉ D :: [b, sh, rw'] → H c = some o → H2 c = some o := fun c o hc e => f2 c o (mem4 hc).2.2.2 e
        have tu := tups_fr fr thD
        have nbr : b ≠ rw' := ne_of hb hr' (fun z => by cases z)
        have nsr : sh ≠ rw' := fun z => by
          have := (List.nodup_append.mp (List.nodup_cons.mp nd).2).1
          simp [z] at this
        have nDr : D ≠ rw' := fun z => nD (by simp [z])
        have P := stk_put (aB := T.aB) (s := s) (s' := s) (b := b) (F1' := [b, sh, rw']) (l2' := pre ++ (lss ++ [[row]]).flatten) hR (fun _ h => h) nd fr tu
          ⟨dx, hd, sh, .ref rw', kv, ss, pre, _, f2 _ _ nbr hb, f2 _ _ nsr hs, hpr.mono tu, .inr ⟨hnp, rw', vs ++ [.ref a], lss ++ [[row]], rfl, rfl, by rw [e2]; exact upd_same, (hvs.imp fun _ _ h => h.mono _ tu).snoc (StmAt.ask ⟨row, rfl, hv.mono tu⟩), rfl⟩, rfl⟩
          (nd4 nDb (fun z => nD (by simp [z])) nDr nbs nbr nsr) (fun c hc => .inl hc)
        rw [← e2]
        refine kS s H2 (b :: bs') ([b, sh, rw'] ++ F2) (step_ask hnp) (f2 _ _ nDr hD) ?_
        simpa [List.append_assoc] using P
      have hvl : vs.length < sizeLine := by
        have := all2_len_flat (fun _ _ h => StmAt.pos h) hvs
        simp only [List.length_append] at hls
        omega
      have app : tDrop (tBM K "list" rAppend (tFld K (tVar 2) "rows") (tCons (tVar 1) tNil)) { nx := tRet (tC (.bl true)) { nx := fun _ H => Q .non H, rt := Q, bk := fun _ _ => False, ct := fun _ _ => False }, rt := Q, bk := fun _ _ => False, ct := fun _ _ => False } [some (.ref D), some (.ref a), some (.ref b)] H :=
        ⟨_, rfl, b, T.aB, dx, _, _, rfl, hb, T.cl_Block, T.b_rows, bl_rows _ _ _ _, .inl ⟨rfl, _, SqL.of hr'⟩, _, rfl, rw', vs, _, rfl, rfl, hr', hvl, goal⟩
      rcases hx with h | h | h
      · refine q_eq hV ha h ?_
        exact iteT (iteT app)
      · refine q_ne hV ha (by rw [h]; decide +kernel) ?_
        refine iteF ?_
        refine q_eq hV ha h ?_
        exact iteT (iteT app)
      · refine q_ne hV ha (by rw [h]; decide +kernel) ?_
        refine iteF ?_
        refine q_ne hV ha (by rw [h]; decide +kernel) ?_
        refine iteF ?_
        refine q_eq hV ha h ?_
        exact iteT app
    | opn ob =>
      obtain ⟨hx, nb1, nb2⟩ : x = hn (some ob) ∧ ob ≠ .els ∧ ob ≠ .key := hx
      have hn4 : x ≠ "width" ∧ x ≠ "else" ∧ x ≠ "key" ∧ x ≠ "end" ∧ x ≠ "ask" ∧ x ≠ "flat" ∧ x ≠ "pick" := by
        rw [hx]
        cases ob <;> decide +kernel
      refine q_ne hV ha hn4.1 ?_
      refine iteF ?_
      refine q_ne hV ha hn4.2.1 ?_
      refine iteF ?_
      refine q_ne hV ha hn4.2.2.1 ?_
      refine iteF ?_
      refine q_ne hV ha hn4.2.2.2.1 ?_
      refine iteF ?_
      refine ⟨_, rfl, b, T.aB, dx, _, _, rfl, hb, T.cl_Block, T.b_rows, bl_rows _ _ _ _, _, rfl, ?_⟩
      by_cases hp : s.head? = some .parts
      · obtain ⟨_, rfl, _⟩ := hla.resolve_right fun z => z.1 hp
        refine iteT (kN ?_)
        cases s with
        | nil => cases hp
        | cons c r =>
          cases hp
          rfl
      have hst := step_opn (b := ob) hp
      have hrv : rv ≠ .non := fun z => by
        obtain ⟨_, rw', vs, lss, e, _⟩ := hla.resolve_left fun z => hp z.1
        rw [z] at e
        cases e
      rw [decide_eq_false hrv]
      refine iteF ?_
      refine q_ne hV ha hn4.2.2.2.2.1 ?_
      refine iteF ?_
      refine q_ne hV ha hn4.2.2.2.2.2.1 ?_
      refine iteF ?_
      refine q_ne hV ha hn4.2.2.2.2.2.2 ?_
      refine iteF ?_
      refine ⟨_, rfl, D, _, rfl, .inl (SqL.of hD), _, _, rfl, rfl, _, rfl, ?_⟩
      by_cases h7 : s.length + 1 > 6
      · rw [decide_eq_true (by rw [List.length_map, List.length_reverse, hlen, List.length_cons]; omega)]
        exact iteT (kN (hst.trans (if_pos h7)))
      rw [decide_eq_false (by rw [List.length_map, List.length_reverse, hlen, List.length_cons]; omega)]
      refine iteF ⟨_, rfl, .inl ⟨rfl, _, SqL.of hD⟩, _, rfl, fun p dp hp hdp hne => ?_⟩
      have s00 : Same H (upd (upd H dp (.own p)) p (.ins T.aB dp [])) := fun b o e => by
        rw [upd_ne (ne_of_none e hp), upd_ne (ne_of_none e hdp)]
        exact e
      refine ⟨p, dp, a, x, tlv, rfl, upd_same, s00 _ _ ha, fun H' shn rvn hshn hsh' hp' S' h1 h2 => ⟨rfl, ?_⟩⟩
      have back : ∀ c, (upd (upd H dp (.own p)) p (.ins T.aB dp [])) c = none → H c = none := fun c e => by
        cases q : H c with
        | none => rfl
        | some o =>
          have := s00 c o q
          rw [e] at this
          cases this
      have sN : Same H H' := fun c o e => S' c o (ne_of_none e hp) (s00 c o e)
      have hD' := sN D _ hD
      have exs : ((p :: b :: bs').reverse.map V.ref) = (b :: bs').reverse.map V.ref ++ [.ref p] := by
        rw [List.reverse_cons, List.map_append]
        rfl
      refine ⟨D, _, _, rfl, rfl, hD', small1000 (by rw [List.length_map, List.length_reverse, hlen, List.length_cons]; omega), ?_⟩
      rw [← exs]
      obtain ⟨H2, e2⟩ : ∃ H2, H2 = upd H' D (.lst ((p :: b :: bs').reverse.map V.ref)) := ⟨_, rfl⟩
      have f2 : ∀ c o, c ≠ D → H' c = some o → H2 c = some o := fun c o n e => by rw [e2, upd_ne n]; exact e
      have fr : ∀ c o, c ∉ D :: [] → H c = some o → H2 c = some o := fun c o hc e => f2 c o (by simpa using hc) (sN c o e)
      have tu := tups_fr fr (fun c hc => thD c (by
        have : c = D := by simpa using hc
        rw [this]
        exact List.mem_cons_self))
      have hsh0 := back _ hshn
      have nDp : D ≠ p := ne_of_none hD hp
      have nDs : D ≠ shn := ne_of_none hD hsh0
      have nps : p ≠ shn := ne_of hp' hsh' (fun z => by cases z)
      have ho : OpenAt H2 (.ref a) (wordsOf row) ob := OpenAt.mono tu hv
      have hpre : PreAt (6 - (ob :: s).length) H2 (some ob) a [] .non [row] := by
        cases ob with
        | els => exact absurd rfl nb1
        | key => exact absurd rfl nb2
        | iff => exact ⟨row, ho, rfl, rfl⟩
        | parts => exact ⟨row, ho, rfl, rfl⟩
        | draw => exact ⟨row, ho, rfl, rfl⟩
        | on => exact ⟨row, ho, rfl, rfl⟩
      have hall : ∀ (F0 : List Addr), LastAt (6 - (ob :: s).length) H2 (some ob) p shn rvn F0 [] → (D :: F0).Nodup → (∀ c ∈ F0, H c = none) → Q (.bl true) H2 := fun F0 hl hn0 hf0 => by
        have P := stk_put (aB := T.aB) (s := ob :: s) (s' := ob :: s) (b := p) (bs' := b :: bs') (F1 := []) (F2 := F1 ++ F2) (F1' := F0) (l1 := l1 ++ (pre ++ post)) (l2' := [row] ++ []) ⟨b, bs', F1, F2, l1, pre ++ post, rfl, rfl, hBlk0, hR, rfl⟩ (fun _ h => h) nd fr tu
          ⟨dp, a, shn, rvn, .non, [], [row], [], f2 _ _ nDp.symm hp', f2 _ _ nDs.symm hsh', hpre, hl, rfl⟩ hn0 (fun c hc => .inr (hf0 c hc))
        exact kS (ob :: s) H2 (p :: b :: bs') (F0 ++ (F1 ++ F2)) (hst.trans (if_neg h7)) (by rw [e2]; exact upd_same) (by simpa using P)
      rw [← e2]
      by_cases hob : ob = .parts
      · refine hall [p, shn] (.inl ⟨by rw [hob], h1 (by rw [hx, hob]; rfl), rfl, rfl⟩) (by simp [nDp, nDs, nps]) (fun c hc => ?_)
        rcases List.mem_cons.mp hc with rfl | hc
        · exact hp
        · cases List.mem_singleton.mp hc
          exact hsh0
      · obtain ⟨rwn, rfl, hrwn, hrw', nrs⟩ := h2 (by
          rw [hx]
          cases ob with
          | parts => exact absurd rfl hob
          | els => exact absurd rfl nb1
          | key => exact absurd rfl nb2
          | iff => show ("if" : Str) ≠ "parts"; decide +kernel
          | draw => show ("draw" : Str) ≠ "parts"; decide +kernel
          | on => show ("on" : Str) ≠ "parts"; decide +kernel)
        have hrw0 := back _ hrwn
        have nDr : D ≠ rwn := ne_of_none hD hrw0
        refine hall [p, shn, rwn] (.inr ⟨fun z => hob (by cases z; rfl), rwn, [], [], rfl, rfl, f2 _ _ nDr.symm hrw', .nil, rfl⟩) (nd4 nDp nDs nDr nps (ne_of hp' hrw' (fun z => by cases z)) nrs.symm) (fun c hc => ?_)
        rcases List.mem_cons.mp hc with rfl | hc
        · exact hp
        rcases List.mem_cons.mp hc with rfl | hc
        · exact hsh0
        · cases List.mem_singleton.mp hc
          exact hrw0
end
end BD
/-! W12: read. -/
namespace BD
open PySem PySem.Spec L2 TL
open PyProof.Rows hiding St
theorem mem_join {y x : Str} : ∀ {ws : Ws}, x ∈ ws → x.length ≤ (Txt.join y ws).length := fun {ws} => by
  rw [join_eq, len_tl, len_tl, tl_join]
  induction ws with
  | nil => intro h; cases h
  | cons a r ih =>
    intro h
    cases r with
    | nil =>
      have : x = a := by simpa using h
      rw [this]
      exact Nat.le_refl _
    | cons b r =>
      show _ ≤ (tl a ++ (tl y ++ joinL (tl y) ((b :: r).map tl))).length
      rw [List.length_append, List.length_append]
      rcases List.mem_cons.mp h with h | h
      · rw [h]
        omega
      · have := ih h
        omega
theorem rows_sm (text : Str) {x : Str} (h : x ∈ rowsOf text) : x.length ≤ text.length := by
  have := mem_join (y := nl1) h
  rwa [join_rows] at this
theorem join_cnt {y : Str} (hy : 1 ≤ (tl y).length) : ∀ ws : Ws, ws.length ≤ (Txt.join y ws).length + 1 := fun ws => by
  rw [join_eq, len_tl, tl_join]
  induction ws with
  | nil => simp
  | cons a r ih =>
    cases r with
    | nil => simp
    | cons b r =>
      show _ ≤ (tl a ++ (tl y ++ joinL (tl y) ((b :: r).map tl))).length + 1
      rw [List.length_append, List.length_append, List.length_cons]
      omega
theorem rows_cnt (text : Str) : (rowsOf text).length ≤ text.length + 1 := by
  have := join_cnt (y := nl1) (by rw [tl_nl]; decide) (rowsOf text)
  rwa [join_rows] at this
theorem words_cnt (text : Str) : (wordsOf text).length ≤ text.length + 1 := by
  have := join_cnt (y := sp1) (by rw [tl_sp]; decide) (wordsOf text)
  rwa [join_words] at this
/-- a program as a value, told by rows -/
def ProgAt (H : Hp) (v : V) (rows : Ws) : Prop := ∃ a n x r0 t ls, v = .ref a ∧ H a = some (.tup [.int n, t]) ∧ numP x = some n ∧ wordsOf r0 = [("width" : Str), x] ∧ RowsAt 6 H t ls ∧ rows = r0 :: ls
theorem step_len_runP : ∀ {rs : Ws} {s s' : List BK}, runP rs s = some s' → SOk s → SOk s'
  | [], s, s', h, o => by cases h; exact o
  | r :: rs, s, s', h, o => by
    simp only [runP] at h
    cases e : lineP r s with
    | none => rw [e] at h; cases h
    | some s1 =>
      rw [e] at h
      refine step_len_runP (rs := rs) h ?_
      unfold lineP at e
      cases q : rowP r with
      | none => rw [q] at e; cases e
      | some k => rw [q] at e; exact stepP_ok e o
theorem goP_fail {rs : Ws} {s : List BK} {i : Nat} {r : Str} {n : Nat} (hr : rs[i]? = some r) (h : runP (rs.take i) [] = some s) (hf : lineP r s = none) : goP rs [] n = some (n + i) := by
  obtain ⟨hi, e⟩ := List.getElem?_eq_some_iff.mp hr
  have e2 : rs = rs.take i ++ r :: rs.drop (i + 1) := by rw [← e, List.getElem_cons_drop, List.take_append_drop]
  rw [e2, goP_run _ _ _ _ _ h]
  simp only [goP, hf, List.length_take]
  congr 1
  omega
theorem runP_snoc {rs : Ws} {s s' : List BK} {i : Nat} {r : Str} (hr : rs[i]? = some r) (h : runP (rs.take i) [] = some s) (hl : lineP r s = some s') : runP (rs.take (i + 1)) [] = some s' := by
  obtain ⟨hi, e⟩ := List.getElem?_eq_some_iff.mp hr
  have e2 : rs.take (i + 1) = rs.take i ++ [r] := by rw [← e, List.take_append_getElem]
  rw [e2, runP_app, h]
  simp only [runP, hl]
section
variable {P : Program} {w : World} {K : PySem.W.Frag} {mg : Str → Option Value} {base : Heap}
theorem raise_bad {aT : Addr} {H1 : Hp} {m : Str} {n : Int} {E : XK} (q : ∀ d H', H' d = some (.xd [("row", .int n)]) → H1 d = none → Same H1 H' → E (.ref aT) (some d) H') :
    [V.str m, V.int n].length ≤ 1000 ∧ ∀ a, H1 a = none → sp_btinit aT (.ref a :: ([V.str m, V.int n] ++ [])) (upd H1 a (exo a aT none))
      (fun v H2 => v = .non ∧ ∃ (d : Addr) (fs : List (Str × V)), H2 a = some (exo a aT (some d)) ∧ H2 d = some (exd d fs) ∧ H1 d = none ∧ E (.ref aT) (some d) (upd (del H2 a) d (.xd fs))) (fun _ _ _ => False) := by
  refine ⟨by simp, fun a ha => ⟨a, .str m, .int n, rfl, upd_same, fun d hd hda => ⟨rfl, d, [("row", .int n)], upd_same, by rw [upd_ne hda]; exact upd_same, ?_, ?_⟩⟩⟩
  · rw [upd_ne hda] at hd
    exact hd
  · rw [upd_ne hda] at hd
    refine q d _ upd_same hd fun b o e => ?_
    rw [upd_ne (ne_of_none e hd), del_ne (ne_of_none e ha), upd_ne (ne_of_none e ha), upd_ne (ne_of_none e hd), upd_ne (ne_of_none e ha)]
    exact e
def sp_read (aT : Addr) : Sp := fun vs H Q E => ∃ text : Str, vs = [.str text] ∧ text.length + 4 ≤ sizeLine ∧
  (readP (rowsOf text) = none → ∀ v H', ProgAt H' v (rowsOf text) → Same H H' → Q v H') ∧
  (∀ n : Nat, readP (rowsOf text) = some n → ∀ d H', H' d = some (.xd [("row", .int n)]) → Same H H' → E (.ref aT) (some d) H')
theorem sc_read : FnScope ["text", "rows", "first", "blocks", "k", "said"] ["text"] (defScope (top 28)) := ⟨rfl, rfl, rfl, by decide +kernel, rfl, by decide +kernel, by decide +kernel⟩
theorem ok_read (T : Txt K mg w) : FnOk P w K mg base (L2.CX P w) 33 T.read.f T.read.fd ["text"] (sp_read T.aT) := by
  refine T.read.F.okX sc_read (fun vs H Q E h => ?_) (fun cdv A outer s0 H vs Q E hr h => ?_)
  · obtain ⟨text, rfl, _⟩ := h
    rfl
  · obtain ⟨text, rfl, hz, kS, kN⟩ := h
    refine ⟨_, (pss_cons (ps_set (i := 1) sc_read.nd rfl (Or.inl rfl) (pe_split (pv 0) pe_str))
      (pss_cons (ps_set (i := 2) sc_read.nd rfl (Or.inl rfl) (pe_call (ok_row_said T) (hr.mono (by first | decide | omega)) rfl T.row_said.g T.row_said.F.kp T.row_said.b .nil pass0 (pa_cons (pe_ix ix_list (pv 1) pe_int (fun _ _ => rfl)) pa_nil)))
      (pss_cons (ps_if (PW.pt (pw_or (pt_cmp (pc_isN (pv 2)) rfl) (pw_or1 (pt_cmpR op_ne (pe_ix ix_tup (pv 2) pe_int (fun _ _ => rfl)) pe_str (nomark _))))) (pss_one (ps_raise rfl (takes_of rfl rfl rfl rfl) (pmk_oex T.oB T.iB T.tB (ok_BadText_init T) (hr.mono (by first | decide | omega)) T.bT .nil pass0 rfl T.g_BadText (pa_cons pe_str (pa_cons pe_int pa_nil))))) pss_nil)
      (pss_cons (ps_set (i := 3) sc_read.nd rfl (Or.inl rfl) (pe_lst (pa_cons (pe_make T.Block_init.mkk (ok_Block_init T) (hr.mono (by first | decide | omega)) rfl T.Block_init.g T.Block_init.b .nil pass0 (pa_cons (pe_tup (pa_cons pe_str pa_nil)) pa_nil)) pa_nil)))
      (pss_cons (ps_for (passes_of rfl) rfl (pi_range2 rfl T.n_range (pa_cons pe_int (pa_cons (pe_callB call_len_seq (by rfl) T.n_len (by decide +kernel) (pa_cons (pv 1) pa_nil)) pa_nil))) (pg_name (i := 4) sc_read.nd rfl (Or.inl rfl)) (pss_cons (ps_set (i := 5) sc_read.nd rfl (Or.inl rfl) (pe_call (ok_row_said T) (hr.mono (by first | decide | omega)) rfl T.row_said.g T.row_said.F.kp T.row_said.b .nil pass0 (pa_cons (pe_ix ix_list (pv 1) (pv 4) (fun _ _ => rfl)) pa_nil)))
      (pss_one (ps_if (PW.pt (pw_or (pt_cmp (pc_isN (pv 5)) rfl) (pw_or1 (pt_not (pt_val (pe_call (ok_lies_right T) (hr.mono (by first | decide | omega)) rfl T.lies_right.g T.lies_right.F.kp T.lies_right.b .nil pass0 (pa_cons (pv 3) (pa_cons (pv 5) pa_nil)))))))) (pss_one (ps_raise rfl (takes_of rfl rfl rfl rfl) (pmk_oex T.oB T.iB T.tB (ok_BadText_init T) (hr.mono (by first | decide | omega)) T.bT .nil pass0 rfl T.g_BadText (pa_cons pe_str (pa_cons (pe_op op_add (pv 4) pe_int) pa_nil))))) pss_nil))))
      (pss_cons (ps_if (pt_cmpR op_gt (pe_callB call_len_seq (by rfl) T.n_len (by decide +kernel) (pa_cons (pv 3) pa_nil)) pe_int (nomark _)) (pss_one (ps_raise rfl (takes_of rfl rfl rfl rfl) (pmk_oex T.oB T.iB T.tB (ok_BadText_init T) (hr.mono (by first | decide | omega)) T.bT .nil pass0 rfl T.g_BadText (pa_cons pe_str (pa_cons (pe_op op_add (pe_callB call_len_seq (by rfl) T.n_len (by decide +kernel) (pa_cons (pv 1) pa_nil)) pe_int) pa_nil))))) pss_nil)
      (pss_one (ps_ret (pe_tup (pa_cons (pe_ix ix_tup (pv 2) pe_int (fun _ _ => rfl)) (pa_cons (pe_callTy call_tuple_of (by rfl) T.n_tuple (by decide +kernel) (pa_cons (pe_fld (pe_ix ix_list (pv 3) pe_int (fun _ _ => rfl)) rfl) pa_nil)) pa_nil))))))))))), ?_⟩
    have hz16 : sizeLine = 16777216 := rfl
    refine ⟨_, rfl, ⟨_, rfl⟩, _, _, rfl, rfl, by decide +kernel, by omega, fun R hR => ?_⟩
    rw [rows_eq]
    obtain ⟨r0, rs, er⟩ : ∃ r0 rs, rowsOf text = r0 :: rs := by
      cases e : rowsOf text with
      | nil => exact absurd e (rowsOf_ne text)
      | cons x r => exact ⟨x, r, rfl⟩
    have hcnt := rows_cnt text
    have hsm : ∀ x ∈ r0 :: rs, x.length + 2 ≤ sizeLine := fun x hx => by
      have := rows_sm text (er ▸ hx)
      omega
    rw [er] at hcnt kS kN ⊢
    obtain ⟨HR, eHR⟩ : ∃ HR, HR = upd H R (.lst ((r0 :: rs).map V.str)) := ⟨_, rfl⟩
    have hRR : HR R = some (.lst ((r0 :: rs).map V.str)) := by rw [eHR]; exact upd_same
    have sR : Same H HR := by rw [eHR]; exact Same.laid hR
    rw [← eHR]
    -- what a refusal does
    have bad : ∀ (n : Nat) (z : Int) (m : Str) (H1 : Hp), z = n → readP (r0 :: rs) = some n → Same HR H1 → [V.str m, V.int z].length ≤ 1000 ∧ ∀ a, H1 a = none → sp_btinit T.aT (.ref a :: ([V.str m, V.int z] ++ [])) (upd H1 a (exo a T.aT none))
        (fun v H2 => v = .non ∧ ∃ (d : Addr) (fs : List (Str × V)), H2 a = some (exo a T.aT (some d)) ∧ H2 d = some (exd d fs) ∧ H1 d = none ∧ E (.ref T.aT) (some d) (upd (del H2 a) d (.xd fs))) (fun _ _ _ => False) := fun n z m H1 ez e S => by
      subst ez
      exact raise_bad fun d H' h1 h2 h3 => kN n e d H' h1 (fun c o e => h3 c o (S c o (sR c o e)))
    refine ⟨_, rfl, R, _, 0, .str r0, rfl, rfl, SqL.of hRR, at_of (j := 0) rfl rfl, r0, rfl, hsm r0 (by simp), fun k v H1 e hv S1 => ?_, fun e H1 S1 => ?_⟩
    case refine_2 =>
      exact ⟨_, rfl, _, rfl, iteT (iteT (bad 1 1 "no width" H1 rfl (by simp only [readP]; rw [if_neg (by rw [e]; intro z; cases z)]) S1))⟩
    obtain ⟨a0, x0, tl0, rfl, ha0, hx0⟩ := hv.head
    refine ⟨_, rfl, _, rfl, iteF ?_⟩
    by_cases hk : k = .width
    case neg =>
      have hx0 : x0 ≠ "width" := by
        cases k with
        | width => exact absurd rfl hk
        | ask => rcases hx0 with rfl | rfl | rfl <;> decide +kernel
        | opn b =>
          obtain ⟨hx0, _, _⟩ := hx0
          rw [hx0]
          cases b <;> decide +kernel
        | key => obtain rfl : x0 = "key" := hx0; decide +kernel
        | els => obtain rfl : x0 = "else" := hx0; decide +kernel
        | nd => obtain rfl : x0 = "end" := hx0; decide +kernel
      refine n_ne (a := a0) (x := x0) (tl := tl0) ?_ ha0 hx0 ?_
      · exact fun R q => ⟨_, rfl, q⟩
      exact iteT (bad 1 1 "no width" H1 rfl (by simp only [readP]; rw [if_neg (by rw [e]; intro z; cases z; exact hk rfl)]) S1)
    subst hk
    have hw : rowP r0 = some .width := e
    have hP : readP (r0 :: rs) = goP rs [] 2 := by simp only [readP, if_pos hw]
    obtain ⟨_, n, xn, e0, ha0', hxn, hr0⟩ := hv
    cases e0
    refine n_eq (a := a0) (x := x0) (tl := tl0) ?_ ha0 hx0 ?_
    · exact fun R q => ⟨_, rfl, q⟩
    refine iteF ⟨sz1, fun hd hhd p dp hp hdp hne => ?_⟩
    have s00 : Same H1 (upd (upd (upd H1 hd (.tup [.str "all"])) dp (.own p)) p (.ins T.aB dp [])) := fun b o e => by
      have e1 := Same.laid (o := .tup [.str "all"]) hhd b o e
      rw [upd_ne (ne_of_none e1 hp), upd_ne (ne_of_none e1 hdp)]
      exact e1
    have hh0 : (upd (upd (upd H1 hd (.tup [.str "all"])) dp (.own p)) p (.ins T.aB dp [])) hd = some (.tup [.str "all"]) := by
      have e1 : upd H1 hd (.tup [.str "all"]) hd = some (.tup [.str "all"]) := upd_same
      rw [upd_ne (ne_of_none e1 hp), upd_ne (ne_of_none e1 hdp)]
      exact e1
    have back : ∀ c, (upd (upd (upd H1 hd (.tup [.str "all"])) dp (.own p)) p (.ins T.aB dp [])) c = none → H1 c = none := fun c e => by
      cases q : H1 c with
      | none => rfl
      | some o =>
        have := s00 c o q
        rw [e] at this
        cases this
    have hp1 : H1 p = none := by
      cases q : H1 p with
      | none => rfl
      | some o =>
        have := Same.laid (o := .tup [.str "all"]) hhd p o q
        rw [hp] at this
        cases this
    refine ⟨p, dp, hd, _, [], rfl, upd_same, hh0, fun H2 sh rv hsh hsh2 hp2 S2 h1 h2 => ⟨rfl, ?_⟩⟩
    obtain ⟨rw0, rfl, hrw, hrw2, nrs⟩ := h2 (by decide +kernel)
    refine ⟨sz1, fun D hD => ?_⟩
    obtain ⟨H3, e3⟩ : ∃ H3, H3 = upd H2 D (.lst [.ref p]) := ⟨_, rfl⟩
    rw [← e3]
    have s12 : Same H1 H2 := fun c o e => S2 c o (ne_of_none e hp1) (s00 c o e)
    have s23 : Same H2 H3 := by rw [e3]; exact Same.laid hD
    have s13 : Same H1 H3 := fun c o e => s23 c o (s12 c o e)
    have hD1 : H1 D = none := by
      cases q : H1 D with
      | none => rfl
      | some o =>
        have := s12 D o q
        rw [hD] at this
        cases this
    have hRR1 := S1 R _ hRR
    have hRR3 := s13 R _ hRR1
    have hlen : ((r0 :: rs).map V.str).length = rs.length + 1 := by simp
    refine ⟨_, rfl, R, _, rfl, .inl (SqL.of hRR3), _, _, rfl, ?_, ?_⟩
    · rw [hlen]
      simp only [List.length_cons] at hcnt
      omega
    have esz : (((((r0 :: rs).map V.str).length : Nat) : Int) - 1).toNat = rs.length := by rw [hlen]; omega
    rw [esz]
    have nsh : sh ≠ p := ne_of hsh2 hp2 (fun z => by cases z)
    have hsh1 := back sh hsh
    have hrw1 := back rw0 hrw
    refine for_range (lo := 1) (n := rs.length) (fun i σ H' => (∃ v4 v5, σ = [some (.str text), some (.ref R), some (.ref a0), some (.ref D), v4, v5]) ∧ ∃ (s : List BK) (bs F : List Addr), runP (rs.take i) [] = some s ∧ H' D = some (.lst (bs.reverse.map V.ref)) ∧ Stk T.aB H' s bs F (rs.take i) ∧
      (D :: F).Nodup ∧ (∀ c ∈ D :: F, H1 c = none) ∧ Same H1 H') ?_ ?_ ?_
    · refine ⟨⟨_, _, rfl⟩, [], [p], [p, sh, rw0], rfl, by rw [e3]; exact upd_same, ⟨p, [], [p, sh, rw0], [], [], [], rfl, rfl, ⟨dp, hd, sh, .ref rw0, .non, [], [], [], s23 _ _ hp2, s23 _ _ hsh2, ⟨s23 _ _ (S2 hd _ (ne_of_none (show upd H1 hd (.tup [.str "all"]) hd = some (.tup [.str "all"]) from upd_same) hp) hh0), rfl, rfl⟩,
        .inr ⟨by simp, rw0, [], [], rfl, rfl, s23 _ _ hrw2, .nil, rfl⟩, rfl⟩, ⟨rfl, rfl, rfl⟩, rfl⟩, nd4 (ne_of_none hp2 hD).symm (ne_of_none hsh2 hD).symm (ne_of_none hrw2 hD).symm nsh.symm (ne_of hp2 hrw2 (fun z => by cases z)) nrs.symm, ?_, s13⟩
      intro c hc
      rcases List.mem_cons.mp hc with rfl | hc
      · exact hD1
      rcases List.mem_cons.mp hc with rfl | hc
      · exact hp1
      rcases List.mem_cons.mp hc with rfl | hc
      · exact hsh1
      · cases List.mem_singleton.mp hc
        exact hrw1
    · rintro i σ H4 hi ⟨⟨v4, v5, rfl⟩, s, bs, F, hrun, hD4, hS, nd, hfr, S4⟩
      obtain ⟨r, hri⟩ : ∃ r, rs[i]? = some r := ⟨_, List.getElem?_eq_getElem hi⟩
      have hRR4 := S4 R _ hRR1
      have hso : SOk s := step_len_runP hrun ⟨by decide, by simp⟩
      refine ⟨_, rfl, _, rfl, R, _, _, .str r, rfl, rfl, SqL.of hRR4, at_of (j := i + 1) (by omega) (by simp [hri]), r, rfl, hsm r (List.mem_cons_of_mem _ (List.mem_of_getElem? hri)), fun k v H5 e hv S5 => ?_, fun e H5 S5 => ?_⟩
      case refine_2 =>
        refine ⟨_, rfl, _, rfl, iteT (iteT ⟨_, rfl, _, _, rfl, rfl, ?_⟩)⟩
        have hf : readP (r0 :: rs) = some (i + 2) := by rw [hP, goP_fail hri hrun (by unfold lineP; rw [e])]; congr 1; omega
        exact bad (i + 2) (1 + (i : Int) + 1) "no row at its place" H5 (by omega) hf (fun c o e => S5 c o (S4 c o (S1 c o e)))
      have hS5 : Stk T.aB H5 s bs F (rs.take i) := Rest.frame (Same.tups (H := H4) (H' := H5) S5) (fun a ha o e => S5 a o e) hS
      have hD5 := S5 D _ hD4
      have hv0 := hv
      obtain ⟨av, xv, tv, rfl, hav, _⟩ := hv.head
      refine ⟨_, rfl, _, rfl, iteF ⟨_, rfl, _, rfl, D, _, s, bs, F, rs.take i, r, k, rfl, hD5, hS5, nd, hso, ?_, hv0, fun hst => ?_, fun s' H6 bs' F' hst hD6 ⟨hS6, nd6, hf6, fr6⟩ => ?_⟩⟩
      · simp only [List.length_cons] at hcnt
        rw [List.length_take]
        omega
      · refine ⟨_, rfl, iteT ⟨_, rfl, _, _, rfl, rfl, ?_⟩⟩
        have hf : readP (r0 :: rs) = some (i + 2) := by rw [hP, goP_fail hri hrun (by unfold lineP; rw [e]; exact hst)]; congr 1; omega
        exact bad (i + 2) (1 + (i : Int) + 1) "no row at its place" H5 (by omega) hf (fun c o e => S5 c o (S4 c o (S1 c o e)))
      · have e2 : rs.take (i + 1) = rs.take i ++ [r] := by
          obtain ⟨hi, e⟩ := List.getElem?_eq_some_iff.mp hri
          rw [← e, List.take_append_getElem]
        refine ⟨_, rfl, iteF ⟨⟨_, _, rfl⟩, s', bs', F', runP_snoc hri hrun (by unfold lineP; rw [e]; exact hst), hD6, by rw [e2]; exact hS6, nd6, ?_, fun c o e => ?_⟩⟩
        · intro c hc
          rcases List.mem_cons.mp hc with rfl | hc
          · exact hD1
          rcases hf6 c hc with h | h
          · exact hfr c (List.mem_cons_of_mem _ h)
          · cases q : H1 c with
            | none => rfl
            | some o =>
              have := S5 c o (S4 c o q)
              rw [h] at this
              cases this
        · refine fr6 c o (fun hm => ?_) (S5 c o (S4 c o e))
          rw [hfr c hm] at e
          cases e
    · rintro σ H4 ⟨⟨v4, v5, rfl⟩, s, bs, F, hrun, hD4, hS, nd, hfr, S4⟩
      rw [List.take_length] at hrun hS
      have hRR4 := S4 R _ hRR1
      have hbl := Rest.len hS
      have hgo : goP rs [] 2 = if s = [] then none else some (2 + rs.length) := by
        have := goP_run rs [] [] s 2 hrun
        rw [List.append_nil] at this
        rw [this]
        rfl
      refine ⟨_, rfl, D, _, rfl, .inl (SqL.of hD4), _, _, rfl, rfl, _, rfl, ?_⟩
      cases s with
      | cons y s1 =>
        rw [decide_eq_true (by rw [List.length_map, List.length_reverse, hbl]; simp only [List.length_cons]; omega)]
        refine iteT ⟨_, rfl, R, _, rfl, .inl (SqL.of hRR4), _, _, rfl, rfl, ?_⟩
        have hf : readP (r0 :: rs) = some (rs.length + 2) := by rw [hP, hgo, if_neg (by simp), Nat.add_comm]
        exact bad (rs.length + 2) _ "an end lacks" H4 (by rw [hlen]; omega) hf (fun c o e => S4 c o (S1 c o e))
      | nil =>
        rw [decide_eq_false (by rw [List.length_map, List.length_reverse, hbl]; simp)]
        obtain ⟨b, bs', F1, F2, l1, l2, rfl, rfl, ⟨dx, hd', sh', rv, kv, ss, pre, post, hb, hs, hpr, hla, rfl⟩, ⟨rfl, rfl, rfl⟩, el⟩ := hS
        obtain ⟨_, rw', vs, lss, rfl, rfl, hr', hvs, rfl⟩ := hla.resolve_left fun z => by cases z.1
        obtain ⟨_, rfl, rfl⟩ := hpr
        have ha4 := S4 a0 _ ha0'
        refine iteF ⟨_, rfl, a0, _, 1, .int n, rfl, rfl, SqT.of ha4, at_of (j := 1) rfl rfl, _, rfl, D, _, 0, .ref b, rfl, rfl, SqL.of hD4, at_of (j := 0) rfl rfl, b, T.aB, dx, _, _, rfl, hb, T.cl_Block, T.b_rows, bl_rows _ _ _ _, rw', vs, rfl, .inl ⟨SqL.of hr', fun t ht => ⟨sz2, fun q hq => ?_⟩⟩⟩
        have tu : Tups H4 (upd (upd H4 t (.tup vs)) q (.tup [.int n, .ref t])) := (tups_laid ht).trans (tups_laid hq)
        have hfin : readP (r0 :: rs) = none := by rw [hP, hgo, if_pos rfl]
        refine kS hfin _ _ ⟨q, n, xn, r0, .ref t, rs, rfl, upd_same, hxn, hr0, ⟨t, vs, lss, rfl, (Same.laid hq) _ _ upd_same, hvs.imp fun _ _ h => h.mono _ tu, by simpa using el⟩, rfl⟩ (fun c o e => (Same.laid hq) _ _ ((Same.laid ht) _ _ (S4 c o (S1 c o (sR c o e)))))
end
end BD
/-! W13: terms written. -/
namespace BD
open PySem PySem.Spec L2 TL
open PyProof.Rows hiding St
theorem dv_lt : ∀ m : List Nat, NumText.AllDigits m.reverse → NumText.digitsVal m.reverse < 10 ^ m.length
  | [], _ => by decide
  | c :: m, h => by
    rw [List.reverse_cons] at h ⊢
    rw [dv_snoc, List.length_cons, Nat.pow_succ]
    have h1 : NumText.AllDigits m.reverse := fun x hx => h x (List.mem_append_left _ hx)
    have h2 := h c (List.mem_append_right _ (by simp))
    have := dv_lt m h1
    have h3 : c - 48 ≤ 9 := by
      have : 48 ≤ c ∧ c ≤ 57 := h2
      omega
    omega
theorem dv_lt19 {l : List Nat} (h : l.all isFig = true) (hl : l.length ≤ 19) : NumText.digitsVal l < 10 ^ 19 := by
  have := dv_lt l.reverse (by rw [List.reverse_reverse]; exact all_fig.mp h)
  rw [List.reverse_reverse, List.length_reverse] at this
  exact Nat.lt_of_lt_of_le this (Nat.pow_le_pow_right (by decide) hl)
theorem numP_abs {x : Str} {n : Int} (h : numP x = some n) : n.natAbs < 10 ^ 19 := by
  unfold numP at h
  split at h
  next hn =>
    cases h
    unfold isNum at hn
    simp only [Bool.and_eq_true, decide_eq_true_eq] at hn
    have := dv_lt19 hn.1.2 hn.1.1.2
    unfold numV
    split <;> omega
  next => cases h
theorem lg_small {n : Nat} (h : n < 10 ^ 19) : n.log2 < 1920 := by
  by_cases h0 : n = 0
  · rw [h0]
    decide
  · exact (Nat.log2_lt h0).mpr (Nat.lt_of_lt_of_le (Nat.lt_of_lt_of_le h (by decide : 10 ^ 19 ≤ 2 ^ 64)) (Nat.pow_le_pow_right (by decide) (by decide)))
theorem numP_lg {x : Str} {n : Int} (h : numP x = some n) : n.natAbs.log2 < 1920 := lg_small (numP_abs h)
theorem nat_lg {n : Nat} (h : n < 10 ^ 19) : ((n : Int)).natAbs.log2 < 1920 := lg_small (by omega)
theorem numP_val {x : Str} {n : Int} (h : numP x = some n) : V.str (toString n) = V.str x := congrArg V.str (numP_str h)
theorem All2.at' {α β : Type} {R : α → β → Prop} : ∀ {l : List α} {m : List β}, All2 R l m → ∀ {i : Nat} {a : α}, l[i]? = some a → ∃ b, m[i]? = some b ∧ R a b
  | [], _, .nil, i, a, h => by simp at h
  | x :: l, _, .cons r1 r2, 0, a, h => by
    cases h
    exact ⟨_, rfl, r1⟩
  | x :: l, _, .cons r1 r2, i + 1, a, h => All2.at' (l := l) r2 h
theorem flat_take {α : Type} {l : List (List α)} {i : Nat} {x : List α} (h : l[i]? = some x) : (l.take (i + 1)).flatten = (l.take i).flatten ++ x := by
  obtain ⟨hi, e⟩ := List.getElem?_eq_some_iff.mp h
  rw [← e, ← List.take_append_getElem hi, flat_snoc]
theorem flat_le {α : Type} (l : List (List α)) (i : Nat) : (l.take i).flatten.length ≤ l.flatten.length := by
  conv => rhs; rw [← List.take_append_drop i l, List.flatten_append, List.length_append]
  omega
/-- for x in t: words.extend(f(x)) -/
theorem loop_ext {K : PySem.W.Frag} {H : Hp} {a L : Addr} {vs : List V} {wss : List Ws} {At : V → Ws → Prop} {iw ix : Nat} {σ : L2.St} {te : TE} {D : Ends} {pre : Ws} (hA : All2 At vs wss) (hL : H L = some (.lst (pre.map V.str))) (ha : H a = some (.tup vs))
    (hz : (pre ++ wss.flatten).length ≤ sizeLine) (h0 : ∃ v, σ = σ.set ix v) (hw : ∀ v, (σ.set ix v)[iw]? = some (some (.ref L)))
    (hte : ∀ x ws H1 (Q : VK), At x ws → ws.length ≤ sizeLine → SB L H H1 → (∀ H2 l, H1 l = none → H2 l = some (.lst (ws.map V.str)) → Same H1 H2 → Q (.ref l) H2) → te (σ.set ix (some x)) H1 Q)
    (hd : ∀ v H', SB L H H' → H' L = some (.lst ((pre ++ wss.flatten).map V.str)) → D.nx (σ.set ix v) H') :
    ∃ W : Nat → Nat → L2.St → Hp → Prop, (∃ m, W 0 m σ H) ∧ ∀ i m σ H, W i m σ H →
      ((Itt K a).stop i H ∧ D.nx σ H) ∨ ((Itt K a).go i H ∧ ∃ N : L2.St → Hp → Prop, (∀ σ' H', N σ' H' → ∃ m', m' < m ∧ W (i + 1) m' σ' H') ∧ ∀ x H', (Itt K a).yld i H x H' →
        gName ix x σ H' fun σ2 H2 => tDrop (tBM K "list" rExtend (tVar iw) (tCons te tNil)) { D with nx := N, ct := N, bk := D.nx } σ2 H2) := by
  have naL : a ≠ L := ne_of ha hL (fun z => by cases z)
  have hlen := hA.len
  refine for_tup (xs := vs) (fun i σ' H' => (∃ v, σ' = σ.set ix v) ∧ SB L H H' ∧ H' L = some (.lst ((pre ++ (wss.take i).flatten).map V.str))) ?_ ?_ ?_ ?_
  · exact ⟨h0, SB.refl _ _, by rw [hL, List.take_zero, List.flatten_nil, List.append_nil]⟩
  · rintro i σ' H' _ ⟨_, S, _⟩
    exact SqT.of (S a _ naL ha)
  · rintro i x σ' H' hx ⟨⟨v, rfl⟩, S, hL'⟩
    obtain ⟨ws, hws, hA'⟩ := hA.at' hx
    have h1 := flat_take hws
    have h2 := flat_le wss (i + 1)
    rw [h1, List.length_append] at h2
    rw [List.length_append] at hz
    show tDrop _ _ ((σ.set ix v).set ix (some x)) H'
    rw [List.set_set]
    refine ⟨_, hw _, .inl ⟨rfl, _, SqL.of hL'⟩, hte x ws H' _ hA' (by omega) S fun H2 l hl hl2 S2 => ?_⟩
    refine ⟨L, l, _, _, rfl, rfl, S2 L _ hL', hl2, by rw [List.length_map, List.length_map, List.length_append]; omega, ?_⟩
    refine ⟨⟨_, rfl⟩, fun c o n e => ?_, ?_⟩
    · rw [upd_ne n]
      exact S2 c o (S c o n e)
    · rw [upd_same, ← List.map_append, List.append_assoc, h1]
  · rintro σ' H' ⟨⟨v, rfl⟩, S, hL'⟩
    rw [hlen, List.take_length] at hL'
    exact hd v H' S hL'
/-- a def that writes words -/
def spOut (At : Hp → V → Ws → Prop) : Sp := fun vs H Q _ => ∃ v ws, vs = [v] ∧ At H v ws ∧ ws.length ≤ sizeLine ∧ ∀ H' l, H l = none → H' l = some (.lst (ws.map V.str)) → Same H H' → Q (.ref l) H'
theorem arity_short {x : Str} (h : (arity x).isSome = true) : x.length ≤ 8 := by
  unfold arity at h
  repeat (split at h; · rename_i e; rw [e]; decide +kernel)
  cases h
theorem arity_nnf {x : Str} {k : Nat} (h : arity x = some k) : x ≠ "num" ∧ x ≠ "field" ∧ x ≠ "name" := by
  refine ⟨fun e => ?_, fun e => ?_, fun e => ?_⟩
  · rw [e, show arity "num" = none by decide +kernel] at h
    cases h
  · rw [e, show arity "field" = none by decide +kernel] at h
    cases h
  · rw [e, show arity "name" = none by decide +kernel] at h
    cases h
theorem cut1 {v : V} {vs : List V} : cutV (v :: vs) (some 1) none = vs := by
  unfold cutV
  rw [show HT.sIx (v :: vs).length 0 (some 1) = 1 from by
    show HT.sIx _ _ (some ((1 : Nat) : Int)) = 1
    rw [HT.sIx_nat, List.length_cons]; omega, HT.sIx_none]
  simp
theorem cut1_whole {v : V} {vs : List V} : ¬ (HT.sIx (v :: vs).length 0 (some 1) = 0 ∧ HT.sIx (v :: vs).length (v :: vs).length none = (v :: vs).length) := fun h => by
  have : HT.sIx (v :: vs).length 0 (some ((1 : Nat) : Int)) = 0 := h.1
  rw [HT.sIx_nat, List.length_cons] at this
  omega
section
variable {P : Program} {w : World} {K : PySem.W.Frag} {mg : Str → Option Value} {base : Heap}
theorem sc_term_words : FnScope ["term", "words", "part"] ["term"] (defScope (top 30)) := ⟨rfl, rfl, rfl, by decide +kernel, rfl, by decide +kernel, by decide +kernel⟩
theorem ok_term_words_d (T : Txt K mg w) : ∀ d : Nat, FnOk P w K mg base CX0 (d + 1) T.term_words.f T.term_words.fd ["term"] (spOut (TermAt d))
  | 0 => by
    refine T.term_words.F.ok sc_term_words (fun vs H Q E h => ?_) (fun cdv A outer s H vs Q E hr h => ?_)
    · obtain ⟨v, ws, rfl, _⟩ := h
      rfl
    · obtain ⟨v, ws, rfl, h, _⟩ := h
      exact h.elim
  | d + 1 => by
    have ih := ok_term_words_d T d
    refine T.term_words.F.ok sc_term_words (fun vs H Q E h => ?_) (fun cdv A outer s H vs Q E hr h => ?_)
    · obtain ⟨v, ws, rfl, _⟩ := h
      rfl
    · obtain ⟨v, ws, rfl, ht, hz, k⟩ := h
      refine ⟨_, (pss_cons (ps_if (pt_cmpR op_eq (pe_ix ix_tup (pv 0) pe_int (fun _ _ => rfl)) pe_str (nomark _)) (pss_one (ps_ret (pe_lst (pa_cons (pe_callTy call_str_int (by rfl) T.n_str (by decide +kernel) (pa_cons (pe_ix ix_tup (pv 0) pe_int (fun _ _ => rfl)) pa_nil)) pa_nil)))) pss_nil)
      (pss_cons (ps_if (pt_cmpR op_eq (pe_ix ix_tup (pv 0) pe_int (fun _ _ => rfl)) pe_str (nomark _)) (pss_one (ps_ret (pe_lst (pa_cons pe_str (pa_cons (pe_callTy call_str_int (by rfl) T.n_str (by decide +kernel) (pa_cons (pe_ix ix_tup (pv 0) pe_int (fun _ _ => rfl)) pa_nil)) pa_nil))))) pss_nil)
      (pss_cons (ps_if (pt_cmpR op_eq (pe_ix ix_tup (pv 0) pe_int (fun _ _ => rfl)) pe_str (nomark _)) (pss_cons (ps_if (pt_cmpR (op_in_kd T.pt.kd) (pe_ix ix_tup (pv 0) pe_int (fun _ _ => rfl)) (pe_cst rfl T.c_PARTS) rfl) (pss_one (ps_ret (pe_lst (pa_cons (pe_op op_add_str pe_str (pe_ix ix_tup (pv 0) pe_int (fun _ _ => rfl))) pa_nil)))) pss_nil)
      (pss_one (ps_ret (pe_lst (pa_cons (pe_ix ix_tup (pv 0) pe_int (fun _ _ => rfl)) pa_nil))))) pss_nil)
      (pss_cons (ps_set (i := 1) sc_term_words.nd rfl (Or.inl rfl) (pe_lst (pa_cons (pe_ix ix_tup (pv 0) pe_int (fun _ _ => rfl)) pa_nil)))
      (pss_cons (ps_for PassesOwn.never rfl (pi_tup (pe_slice sl_tup (pv 0) (po_some pe_int) po_none)) (pg_name (i := 2) sc_term_words.nd rfl (Or.inl rfl)) (pss_one (ps_expr (pe_bm PySem.F.plainAttrs_list PySem.F.slot_list_extend PySem.F.type_list_extend mt_extend (pv 1) (pa_cons (pe_call (ih) (hr.mono (by first | decide | omega)) rfl T.term_words.g T.term_words.F.kp T.term_words.b .nil pass0 (pa_cons (pv 2) pa_nil)) pa_nil)))))
      (pss_one (ps_ret (pv 1)))))))), ?_⟩
      obtain ⟨a, rfl, ht⟩ := ht
      have hV : ∀ R : VK, R (.ref a) H → tVar 0 [some (.ref a), none, none] H R := fun R q => ⟨_, rfl, q⟩
      rcases ht with ⟨n, x, h1, h2, rfl⟩ | ⟨n, x, h1, h2, rfl⟩ | ⟨x, q, h1, rfl, h2⟩ | ⟨op, vs, wss, h1, h2, rfl, h4⟩
      · refine q_eq hV h1 rfl ?_
        refine iteT ⟨_, rfl, a, _, 1, .int n, rfl, rfl, SqT.of h1, at_of (j := 1) rfl rfl, n, rfl, numP_lg h2, sz1, fun l hl => ?_⟩
        exact k _ l hl (by rw [upd_same, numP_val h2]; rfl) (Same.laid hl)
      · refine q_ne hV h1 (by decide +kernel) ?_
        refine iteF ?_
        refine q_eq hV h1 rfl ?_
        refine iteT ⟨_, rfl, a, _, 1, .int n, rfl, rfl, SqT.of h1, at_of (j := 1) rfl rfl, n, rfl, numP_lg h2, sz2, fun l hl => ?_⟩
        exact k _ l hl (by rw [upd_same, numP_val h2]; rfl) (Same.laid hl)
      · refine q_ne hV h1 (by decide +kernel) ?_
        refine iteF ?_
        refine q_ne hV h1 (by decide +kernel) ?_
        refine iteF ?_
        refine q_eq hV h1 rfl ?_
        refine iteT ⟨_, rfl, a, _, 1, .str x, rfl, rfl, SqT.of h1, at_of (j := 1) rfl rfl, ?_⟩
        rcases h2 with ⟨h2, eq⟩ | ⟨h2, h3⟩
        · refine ⟨x, none, rfl, rfl, T.pt.no x h2, _, rfl, iteF ?_⟩
          refine ⟨_, rfl, a, _, 1, .str x, rfl, rfl, SqT.of h1, at_of (j := 1) rfl rfl, sz1, fun l hl => ?_⟩
          exact k _ l hl (by rw [upd_same, eq]; rfl) (Same.laid hl)
        · obtain ⟨kk, hk⟩ := Option.isSome_iff_exists.mp h2
          obtain ⟨u, hu, ru⟩ := T.pt.yes x kk hk
          refine ⟨x, some u, rfl, rfl, hu, _, rfl, iteT ?_⟩
          have hq : q = ("'" : Str) ++ x := ext_tl (by rw [tl_append, tl_quote, h3]; rfl)
          refine ⟨_, rfl, a, _, 1, .str x, rfl, rfl, SqT.of h1, at_of (j := 1) rfl rfl, _, _, rfl, rfl, ?_, sz1, fun l hl => ?_⟩
          · have := arity_short h2
            have e1 : ("'" : Str).length = 1 := by decide +kernel
            rw [e1]
            exact sz1000 (by omega)
          · exact k _ l hl (by rw [upd_same, hq]; rfl) (Same.laid hl)
      · obtain ⟨n1, n2, n3⟩ := arity_nnf h2
        refine q_ne hV h1 n1 ?_
        refine iteF ?_
        refine q_ne hV h1 n2 ?_
        refine iteF ?_
        refine q_ne hV h1 n3 ?_
        refine iteF ?_
        refine ⟨_, rfl, a, _, 0, .str op, rfl, rfl, SqT.of h1, at_of (j := 0) rfl rfl, sz1, fun L hL => ?_⟩
        have h1L : upd H L (.lst [.str op]) a = some (.tup (.str op :: vs)) := Same.laid hL _ _ h1
        refine ⟨_, rfl, _, rfl, a, _, rfl, SqT.of h1L, cut1_whole, fun t ht => ?_⟩
        rw [cut1]
        have hLt : upd (upd H L (.lst [.str op])) t (.tup vs) L = some (.lst [.str op]) := Same.laid ht _ _ upd_same
        refine ⟨t, rfl, ⟨_, SqT.of upd_same⟩, ?_⟩
        refine loop_ext (pre := [op]) h4 hLt upd_same hz ?_ (fun v => ?_) (fun x ws H1 Q1 hA hz1 S1 q => ?_) (fun v H' S1 hL1 => ?_)
        · exact ⟨none, rfl⟩
        · rfl
        · have tu : Tups H H1 := fun c xs e => S1 c _ (ne_of_none e hL) (Same.laid ht _ _ (Same.laid hL _ _ e))
          exact ⟨_, rfl, x, ws, rfl, hA.mono _ tu, hz1, q⟩
        · exact ⟨_, rfl, k H' L hL hL1 (fun c o e => S1 c o (ne_of_none e hL) (Same.laid ht _ _ (Same.laid hL _ _ e)))⟩
theorem ok_term_words (T : Txt K mg w) : FnOk P w K mg base CX0 15 T.term_words.f T.term_words.fd ["term"] (spOut (TermAt 14)) := ok_term_words_d T 14
end
end BD
/-! W14: measures, lists and pairs written. -/
namespace BD
open PySem PySem.Spec L2 TL
open PyProof.Rows hiding St
/-- [str(n) for n in t] -/
theorem lc_strs {K : PySem.W.Frag} {H1 : Hp} {a D : Addr} {vs : List V} {wss : List Ws} {i0 : Nat} {σ : L2.St} {te : TE} {Qd : Hp → Prop} (hA : All2 (NumAt H1) vs wss) (ha : H1 a = some (.tup vs)) (hD : H1 D = none) (hz : vs.length ≤ 1000)
    (hw : ∀ v, wipe ((wipe σ [i0]).set i0 v) [i0] = wipe σ [i0]) (hte : ∀ n x H2 (Q1 : VK), numP x = some n → Q1 (.str x) H2 → te ((wipe σ [i0]).set i0 (some (.int n))) H2 Q1)
    (hd : ∀ H', Same H1 H' → H' D = some (.lst (wss.flatten.map V.str)) → Qd H') :
    ∃ W : Nat → Nat → Hp → Prop, (∃ m, W 0 m (upd H1 D (.lst []))) ∧ ∀ i m H, W i m H →
      ((Itt K a).stop i H ∧ Qd H) ∨ ((Itt K a).go i H ∧ ∃ Nx : Hp → Prop, (∀ H', Nx H' → ∃ m', m' < m ∧ W (i + 1) m' H') ∧ ∀ x H', (Itt K a).yld i H x H' → gName i0 x (wipe σ [i0]) H' fun σ2 H2 => wipe σ2 [i0] = wipe σ [i0] ∧ tYes σ2 H2 fun b H3 =>
        if b = true then te σ2 H3 fun y H4 => ∃ acc, H4 D = some (.lst acc) ∧ acc.length < sizeLine ∧ Nx (upd H4 D (.lst (acc ++ [y]))) else Nx H3) := by
  have naD : a ≠ D := ne_of_none ha hD
  have hlen := hA.len
  refine lc_tup (xs := vs) (fun i H' => SB D H1 H' ∧ (wss.take i).flatten.length = min i vs.length ∧ H' D = some (.lst ((wss.take i).flatten.map V.str))) ?_ ?_ ?_ ?_
  · exact ⟨SB.of_same (Same.laid hD), by simp, upd_same⟩
  · rintro i H' _ ⟨S, _⟩
    exact SqT.of (S a _ naD ha)
  · rintro i x H' hx ⟨S, hl, hD'⟩
    obtain ⟨ws, hws, n, y, rfl, rfl, hy⟩ := hA.at' hx
    have hi := (List.getElem?_eq_some_iff.mp hx).1
    refine ⟨hw _, ?_⟩
    simp only [tYes, if_true]
    refine hte n y H' _ hy ⟨_, hD', by rw [List.length_map, hl]; exact small1000 (by omega), fun c o nc e => by rw [upd_ne nc]; exact S c o nc e, ?_, ?_⟩
    · rw [flat_take hws, List.length_append, hl]
      simp only [List.length_cons, List.length_nil]
      omega
    · rw [upd_same, flat_take hws, List.map_append]
      rfl
  · rintro H' ⟨S, _, hD'⟩
    rw [hlen, List.take_length] at hD'
    exact hd H' (fun c o e => S c o (ne_of_none e hD) e) hD'
section
variable {P : Program} {w : World} {K : PySem.W.Frag} {mg : Str → Option Value} {base : Heap}
theorem sc_measure_words : FnScope ["measure"] ["measure"] (defScope (top 31)) := ⟨rfl, rfl, rfl, by decide +kernel, rfl, by decide +kernel, by decide +kernel⟩
theorem ok_measure_words (T : Txt K mg w) : FnOk P w K mg base CX0 16 T.measure_words.f T.measure_words.fd ["measure"] (spOut MeasAt) := by
  refine T.measure_words.F.ok sc_measure_words (fun vs H Q E h => ?_) (fun cdv A outer s H vs Q E hr h => ?_)
  · obtain ⟨v, ws, rfl, _⟩ := h
    rfl
  · obtain ⟨v, ws, rfl, hm, hz, k⟩ := h
    refine ⟨_, (pss_cons (ps_if (pt_cmpR op_eq (pe_ix ix_tup (pv 0) pe_int (fun _ _ => rfl)) pe_str (nomark _)) (pss_one (ps_ret (pe_lst (pa_cons pe_str pa_nil)))) pss_nil)
      (pss_cons (ps_if (pt_cmpR op_eq (pe_ix ix_tup (pv 0) pe_int (fun _ _ => rfl)) pe_str (nomark _)) (pss_one (ps_ret (pe_op op_cat (pe_lst (pa_cons pe_str pa_nil)) (pe_call (ok_term_words T) (hr.mono (by first | decide | omega)) rfl T.term_words.g T.term_words.F.kp T.term_words.b .nil pass0 (pa_cons (pe_ix ix_tup (pv 0) pe_int (fun _ _ => rfl)) pa_nil))))) pss_nil)
      (pss_one (ps_ret (pe_op op_cat (pe_lst (pa_cons pe_str (pa_cons (pe_callTy call_str_int (by rfl) T.n_str (by decide +kernel) (pa_cons (pe_ix ix_tup (pv 0) pe_int (fun _ _ => rfl)) pa_nil)) (pa_cons (pe_callTy call_str_int (by rfl) T.n_str (by decide +kernel) (pa_cons (pe_ix ix_tup (pv 0) pe_int (fun _ _ => rfl)) pa_nil)) pa_nil)))) (pe_call (ok_term_words T) (hr.mono (by first | decide | omega)) rfl T.term_words.g T.term_words.F.kp T.term_words.b .nil pass0 (pa_cons (pe_ix ix_tup (pv 0) pe_int (fun _ _ => rfl)) pa_nil))))))), ?_⟩
    obtain ⟨a, rfl, hm⟩ := hm
    have hV : ∀ R : VK, R (.ref a) H → tVar 0 [some (.ref a)] H R := fun R q => ⟨_, rfl, q⟩
    rcases hm with ⟨h1, rfl⟩ | ⟨t, tw, h1, ht, rfl⟩ | ⟨t, tw, lo, hi, x, y, h1, hx, hy, ht, rfl⟩
    · refine q_eq hV h1 rfl ?_
      exact iteT ⟨sz1, fun l hl => k _ l hl upd_same (Same.laid hl)⟩
    · refine q_ne hV h1 (by decide +kernel) ?_
      refine iteF ?_
      refine q_eq hV h1 rfl ?_
      refine iteT ⟨sz1, fun l hl => ⟨_, rfl, a, _, 1, t, rfl, rfl, SqT.of (Same.laid hl _ _ h1), at_of (j := 1) rfl rfl, t, tw, rfl, ht.mono _ (tups_laid hl), by simp only [List.length_cons] at hz; omega, fun H2 l2 hl2 e2 S2 => ?_⟩⟩
      refine ⟨l, l2, _, _, rfl, rfl, S2 _ _ upd_same, e2, by simp only [List.length_cons, List.length_nil, List.length_map] at hz ⊢; omega, fun p hp => ?_⟩
      have s1 : Same H H2 := fun c o e => S2 c o (Same.laid hl c o e)
      exact k _ p (by cases q : H p with | none => rfl | some o => rw [s1 p o q] at hp; cases hp) upd_same (fun c o e => Same.laid hp c o (s1 c o e))
    · refine q_ne hV h1 (by decide +kernel) ?_
      refine iteF ?_
      refine q_ne hV h1 (by decide +kernel) ?_
      refine iteF ⟨_, rfl, a, _, 2, .int lo, rfl, rfl, SqT.of h1, at_of (j := 2) rfl rfl, lo, rfl, numP_lg hx, _, rfl, a, _, 3, .int hi, rfl, rfl, SqT.of h1, at_of (j := 3) rfl rfl, hi, rfl, numP_lg hy, sz3, fun l hl => ?_⟩
      refine ⟨_, rfl, a, _, 1, t, rfl, rfl, SqT.of (Same.laid hl _ _ h1), at_of (j := 1) rfl rfl, t, tw, rfl, ht.mono _ (tups_laid hl), by simp only [List.length_cons] at hz; omega, fun H2 l2 hl2 e2 S2 => ?_⟩
      refine ⟨l, l2, _, _, rfl, rfl, S2 _ _ upd_same, e2, by simp only [List.length_cons, List.length_nil, List.length_map] at hz ⊢; omega, fun p hp => ?_⟩
      have s1 : Same H H2 := fun c o e => S2 c o (Same.laid hl c o e)
      refine k _ p (by cases q : H p with | none => rfl | some o => rw [s1 p o q] at hp; cases hp) ?_ (fun c o e => Same.laid hp c o (s1 c o e))
      rw [upd_same, numP_val hx, numP_val hy]
      rfl
theorem sc_lists_words : FnScope ["lists", "words", "terms", "term"] ["lists"] (defScope (top 32)) := ⟨rfl, rfl, rfl, by decide +kernel, rfl, by decide +kernel, by decide +kernel⟩
theorem ok_lists_words (T : Txt K mg w) : FnOk P w K mg base CX0 16 T.lists_words.f T.lists_words.fd ["lists"] (spOut ListsAt) := by
  refine T.lists_words.F.ok sc_lists_words (fun vs H Q E h => ?_) (fun cdv A outer s H vs Q E hr h => ?_)
  · obtain ⟨v, ws, rfl, _⟩ := h
    rfl
  · obtain ⟨v, ws, rfl, hm, hz, k⟩ := h
    refine ⟨_, (pss_cons (ps_set (i := 1) sc_lists_words.nd rfl (Or.inl rfl) (pe_lst (pa_cons (pe_callTy call_str_int (by rfl) T.n_str (by decide +kernel) (pa_cons (pe_callB call_len_seq (by rfl) T.n_len (by decide +kernel) (pa_cons (pv 0) pa_nil)) pa_nil)) (pa_cons (pe_callTy call_str_int (by rfl) T.n_str (by decide +kernel) (pa_cons (pe_callB call_len_seq (by rfl) T.n_len (by decide +kernel) (pa_cons (pe_ix ix_tup (pv 0) pe_int (fun _ _ => rfl)) pa_nil)) pa_nil)) pa_nil))))
      (pss_cons (ps_for PassesOwn.never rfl (pi_tup (pv 0)) (pg_name (i := 2) sc_lists_words.nd rfl (Or.inl rfl)) (pss_one (ps_for PassesOwn.never rfl (pi_tup (pv 2)) (pg_name (i := 3) sc_lists_words.nd rfl (Or.inl rfl)) (pss_one (ps_expr (pe_bm PySem.F.plainAttrs_list PySem.F.slot_list_extend PySem.F.type_list_extend mt_extend (pv 1) (pa_cons (pe_call (ok_term_words T) (hr.mono (by first | decide | omega)) rfl T.term_words.g T.term_words.F.kp T.term_words.b .nil pass0 (pa_cons (pv 3) pa_nil)) pa_nil)))))))
      (pss_one (ps_ret (pv 1))))), ?_⟩
    obtain ⟨a, vs, wss, wide, rfl, h1, ⟨hne, h9, w9⟩, hA, rfl⟩ := hm
    obtain ⟨v0, vs0, rfl⟩ : ∃ v0 vs0, vs = v0 :: vs0 := by
      cases vs with
      | nil => exact absurd rfl hne
      | cons x r => exact ⟨x, r, rfl⟩
    obtain ⟨ws0, _, a0, us0, uss0, rfl, h0, hw0, _⟩ := hA.at' (i := 0) rfl
    refine ⟨_, rfl, a, _, rfl, .inr (SqT.of h1), _, rfl, nat_lg (by omega), _, rfl, a, _, 0, .ref a0, rfl, rfl, SqT.of h1, at_of (j := 0) rfl rfl, a0, _, rfl, .inr (SqT.of h0), _, rfl, nat_lg (by omega), sz2, fun L hL => ?_⟩
    rw [hw0]
    have h1L : upd H L (.lst [.str (strI (.ref a0 :: vs0 : List V).length), .str (strI wide)]) a = some (.tup (.ref a0 :: vs0)) := Same.laid hL _ _ h1
    refine ⟨_, rfl, a, rfl, ⟨_, SqT.of h1L⟩, ?_⟩
    refine for_tup (xs := .ref a0 :: vs0) (fun i σ' H' => (∃ v2 v3, σ' = [some (.ref a), some (.ref L), v2, v3]) ∧ SB L (upd H L (.lst [.str (strI (.ref a0 :: vs0 : List V).length), .str (strI wide)])) H' ∧
      H' L = some (.lst ((strI (.ref a0 :: vs0 : List V).length :: strI wide :: (wss.take i).flatten).map V.str))) ?_ ?_ ?_ ?_
    · exact ⟨⟨_, _, rfl⟩, SB.refl _ _, upd_same⟩
    · rintro i σ' H' _ ⟨_, S, _⟩
      exact SqT.of (S a _ (ne_of_none h1 hL) h1L)
    · rintro i x σ' H' hx ⟨⟨v2, v3, rfl⟩, S, hL'⟩
      obtain ⟨ws, hws, b, us, uss, rfl, hb, hlen, hU, rfl⟩ := hA.at' hx
      have sH : ∀ c o, H c = some o → H' c = some o := fun c o e => S c o (ne_of_none e hL) (Same.laid hL c o e)
      have tu : Tups H H' := fun c xs e => sH c _ e
      have hfl := flat_le wss (i + 1)
      rw [flat_take hws, List.length_append] at hfl
      have hb' := sH b _ hb
      refine ⟨_, rfl, b, rfl, ⟨_, SqT.of hb'⟩, ?_⟩
      refine loop_ext (pre := strI (.ref a0 :: vs0 : List V).length :: strI wide :: (wss.take i).flatten) hU hL' hb' ?_ ?_ (fun v => ?_) (fun x ws H1 Q1 hA1 hz1 S1 q => ?_) (fun v H1 S1 hL1 => ?_)
      · simp only [List.cons_append, List.length_cons, List.length_append] at hz ⊢
        omega
      · exact ⟨_, rfl⟩
      · rfl
      · have tu1 : Tups H H1 := fun c xs e => S1 c _ (ne_of_none e hL) (sH c _ e)
        exact ⟨_, rfl, x, ws, rfl, hA1.mono _ tu1, hz1, q⟩
      · refine ⟨⟨_, _, rfl⟩, S.trans S1, ?_⟩
        rw [hL1, flat_take hws]
        rfl
    · rintro σ' H' ⟨⟨v2, v3, rfl⟩, S, hL'⟩
      rw [show wss.take (.ref a0 :: vs0 : List V).length = wss by rw [hA.len, List.take_length]] at hL'
      exact ⟨_, rfl, k H' L hL hL' (fun c o e => S c o (ne_of_none e hL) (Same.laid hL c o e))⟩
theorem sc_pairs_words : FnScope ["pairs", "words", "number", "row", "n"] ["pairs"] (defScope (top 33)) := ⟨rfl, rfl, rfl, by decide +kernel, rfl, by decide +kernel, by decide +kernel⟩
theorem ok_pairs_words (T : Txt K mg w) : FnOk P w K mg base CX0 1 T.pairs_words.f T.pairs_words.fd ["pairs"] (spOut PairsAt) := by
  refine T.pairs_words.F.ok sc_pairs_words (fun vs H Q E h => ?_) (fun cdv A outer s H vs Q E hr h => ?_)
  · obtain ⟨v, ws, rfl, _⟩ := h
    rfl
  · obtain ⟨v, ws, rfl, hm, hz, k⟩ := h
    refine ⟨_, (pss_cons (ps_if (pt_cmpR op_eq (pe_callB call_len_seq (by rfl) T.n_len (by decide +kernel) (pa_cons (pv 0) pa_nil)) pe_int (nomark _)) (pss_one (ps_ret (pe_lst (pa_cons pe_str (pa_cons pe_str pa_nil))))) pss_nil)
      (pss_cons (ps_set (i := 1) sc_pairs_words.nd rfl (Or.inl rfl) (pe_lst (pa_cons (pe_callTy call_str_int (by rfl) T.n_str (by decide +kernel) (pa_cons (pe_callB call_len_seq (by rfl) T.n_len (by decide +kernel) (pa_cons (pv 0) pa_nil)) pa_nil)) (pa_cons (pe_callTy call_str_int (by rfl) T.n_str (by decide +kernel) (pa_cons (pe_callB call_len_seq (by rfl) T.n_len (by decide +kernel) (pa_cons (pe_ix ix_tup (pe_ix ix_tup (pv 0) pe_int (fun _ _ => rfl)) pe_int (fun _ _ => rfl)) pa_nil)) pa_nil)) pa_nil))))
      (pss_cons (ps_for PassesOwn.never rfl (pi_tup (pv 0)) (pg_tup rfl (pgs_cons (pg_name (i := 2) sc_pairs_words.nd rfl (Or.inl rfl)) (pgs_cons (pg_name (i := 3) sc_pairs_words.nd rfl (Or.inl rfl)) pgs_nil))) (pss_cons (ps_expr (pe_bm PySem.F.plainAttrs_list PySem.F.slot_list_append PySem.F.type_list_append mt_append (pv 1) (pa_cons (pe_callTy call_str_int (by rfl) T.n_str (by decide +kernel) (pa_cons (pv 2) pa_nil)) pa_nil)))
      (pss_one (ps_expr (pe_bm PySem.F.plainAttrs_list PySem.F.slot_list_extend PySem.F.type_list_extend mt_extend (pv 1) (pa_cons (pe_lc (own := [("n", 4)]) (g := gName 4) (tt := tYes) rfl sc_pairs_words.nd (pi_tup (pv 3)) (blkOk_by (own := [("n", 4)]) (N := ["pairs", "words", "number", "row", "n"]) (sc := defScope (top 33)) (by decide +kernel)) (fun _ _ _ _ _ => pg_name (i := 4) sc_pairs_words.nd rfl (Or.inl rfl)) (fun _ _ _ _ _ => pts_nil) (fun _ _ _ _ _ => (pe_callTy call_str_int (by rfl) T.n_str (by decide +kernel) (pa_cons (pv 4) pa_nil)))) pa_nil))))))
      (pss_one (ps_ret (pv 1)))))), ?_⟩
    obtain ⟨a, vs, wss, wide, rfl, h1, ⟨hne, h9, w9⟩, hA, rfl⟩ := hm
    refine ⟨_, rfl, a, _, rfl, .inr (SqT.of h1), rfl, _, rfl, ?_⟩
    rcases vs with _ | ⟨v0, vs0⟩
    · cases hA
      rw [hne rfl] at k
      rw [decide_eq_true (show V.int ((([] : List V).length : Nat) : Int) = V.int 0 from rfl)]
      refine iteT ⟨sz2, fun l hl => k _ l hl ?_ (Same.laid hl)⟩
      rw [upd_same]
      have e0 : strI (0 : Int) = "0" := by decide +kernel
      show some (HO.lst [V.str "0", V.str "0"]) = some (HO.lst [V.str (strI (0 : Int)), V.str (strI (0 : Int))])
      rw [e0]
    rw [decide_eq_false (by intro z; injection z with z; simp only [List.length_cons] at z; omega)]
    refine iteF ?_
    obtain ⟨ws0, _, a0, b0, n0, x0, us0, uss0, rfl, h0, hb0, hw0, hx0, _⟩ := hA.at' (i := 0) rfl
    refine ⟨_, rfl, a, _, rfl, .inr (SqT.of h1), _, rfl, nat_lg (by omega), _, rfl, a, _, 0, .ref a0, rfl, rfl, SqT.of h1, at_of (j := 0) rfl rfl, a0, _, 1, .ref b0, rfl, rfl, SqT.of h0, at_of (j := 1) rfl rfl, b0, _, rfl, .inr (SqT.of hb0), _, rfl, nat_lg (by omega), sz2, fun L hL => ?_⟩
    rw [hw0]
    have h1L : upd H L (.lst [.str (strI (.ref a0 :: vs0 : List V).length), .str (strI wide)]) a = some (.tup (.ref a0 :: vs0)) := Same.laid hL _ _ h1
    refine ⟨_, rfl, a, rfl, ⟨_, SqT.of h1L⟩, ?_⟩
    refine for_tup (xs := .ref a0 :: vs0) (fun i σ' H' => (∃ v2 v3 v4, σ' = [some (.ref a), some (.ref L), v2, v3, v4]) ∧ SB L (upd H L (.lst [.str (strI (.ref a0 :: vs0 : List V).length), .str (strI wide)])) H' ∧
      H' L = some (.lst ((strI (.ref a0 :: vs0 : List V).length :: strI wide :: (wss.take i).flatten).map V.str))) ?_ ?_ ?_ ?_
    · exact ⟨⟨_, _, _, rfl⟩, SB.refl _ _, upd_same⟩
    · rintro i σ' H' _ ⟨_, S, _⟩
      exact SqT.of (S a _ (ne_of_none h1 hL) h1L)
    · rintro i x σ' H' hx ⟨⟨v2, v3, v4, rfl⟩, S, hL'⟩
      obtain ⟨ws, hws, c, b, n, y, us, uss, rfl, hc, hb, hlen, hy, hU, rfl⟩ := hA.at' hx
      have sH : ∀ c o, H c = some o → H' c = some o := fun c o e => S c o (ne_of_none e hL) (Same.laid hL c o e)
      have hfl := flat_le wss (i + 1)
      rw [flat_take hws, List.length_append, List.length_cons] at hfl
      simp only [List.length_cons] at hz
      refine ⟨c, _, rfl, SqT.of (sH c _ hc), rfl, _, _, rfl, _, _, rfl, rfl, ?_⟩
      have nbL : b ≠ L := ne_of_none hb hL
      refine ⟨_, rfl, .inl ⟨rfl, _, SqL.of hL'⟩, _, rfl, n, rfl, numP_lg hy, L, _, _, rfl, rfl, hL', ?_, ?_⟩
      · simp only [List.length_cons, List.length_map]
        omega
      rw [numP_val hy]
      have hb1 : upd H' L (.lst ((strI (.ref a0 :: vs0 : List V).length :: strI wide :: (wss.take i).flatten).map V.str ++ [.str y])) b = some (.tup us) := by rw [upd_ne nbL]; exact sH b _ hb
      refine ⟨_, rfl, .inl ⟨rfl, _, SqL.of upd_same⟩, _, rfl, b, rfl, ⟨_, SqT.of hb1⟩, fun D hD => ?_⟩
      refine lc_strs (wss := uss) hU hb1 hD (by omega) ?_ (fun m z H2 Q1 hz1 q => ?_) (fun H2 S2 hD2 => ?_)
      · exact fun v => rfl
      · refine ⟨_, rfl, m, rfl, numP_lg hz1, ?_⟩
        rw [numP_val hz1]
        exact q
      · refine ⟨L, D, _, _, rfl, rfl, S2 _ _ upd_same, hD2, ?_, ⟨_, _, _, rfl⟩, fun c o nc e => ?_, ?_⟩
        · simp only [List.length_cons, List.length_map, List.length_append, List.length_nil]
          omega
        · rw [upd_ne nc]
          exact S2 c o (by rw [upd_ne nc]; exact S c o nc e)
        · rw [upd_same, flat_take hws]
          simp
    · rintro σ' H' ⟨⟨v2, v3, v4, rfl⟩, S, hL'⟩
      rw [show wss.take (.ref a0 :: vs0 : List V).length = wss by rw [hA.len, List.take_length]] at hL'
      exact ⟨_, rfl, k H' L hL hL' (fun c o e => S c o (ne_of_none e hL) (Same.laid hL c o e))⟩
end
end BD
/-! W15: views, askings written. -/
namespace BD
open PySem PySem.Spec L2 TL
open PyProof.Rows hiding St
theorem fresh_of {H H1 : Hp} {p : Addr} (S : Same H H1) (h : H1 p = none) : H p = none := by
  cases q : H p with
  | none => rfl
  | some o =>
    rw [S p o q] at h
    cases h
theorem Same.trans' {H H1 H2 : Hp} (a : Same H H1) (b : Same H1 H2) : Same H H2 := fun c o e => b c o (a c o e)
/-- words + f(v) -/
theorem cat_call {At : Hp → V → Ws → Prop} {H1 : Hp} {l : Addr} {pre ws : Ws} {v : V} {Q : VK} (hl : H1 l = some (.lst (pre.map V.str))) (hz : (pre ++ ws).length ≤ sizeLine) (hA : At H1 v ws)
    (q : ∀ H3 p, H1 p = none → Same H1 H3 → H3 p = some (.lst ((pre ++ ws).map V.str)) → Q (.ref p) H3) : spOut At [v] H1 (fun y H2 => rCat (.ref l) y H2 Q) E0 := by
  rw [List.length_append] at hz
  refine ⟨v, ws, rfl, hA, by omega, fun H2 l2 hl2 e2 S2 => ⟨l, l2, _, _, rfl, rfl, S2 _ _ hl, e2, by rw [List.length_map, List.length_map]; omega, fun p hp => ?_⟩⟩
  exact q _ p (fresh_of S2 hp) (fun c o e => Same.laid hp c o (S2 c o e)) (by rw [upd_same, List.map_append])
section
variable {P : Program} {w : World} {K : PySem.W.Frag} {mg : Str → Option Value} {base : Heap}
theorem sc_view_words : FnScope ["view", "words"] ["view"] (defScope (top 34)) := ⟨rfl, rfl, rfl, by decide +kernel, rfl, by decide +kernel, by decide +kernel⟩
theorem ok_view_words_d (T : Txt K mg w) : ∀ d : Nat, FnOk P w K mg base CX0 (d + 17) T.view_words.f T.view_words.fd ["view"] (spOut (ViewAt d))
  | 0 => by
    refine T.view_words.F.ok sc_view_words (fun vs H Q E h => ?_) (fun cdv A outer s H vs Q E hr h => ?_)
    · obtain ⟨v, ws, rfl, _⟩ := h
      rfl
    · obtain ⟨v, ws, rfl, h, _⟩ := h
      exact h.elim
  | d + 1 => by
    have ih := ok_view_words_d T d
    refine T.view_words.F.ok sc_view_words (fun vs H Q E h => ?_) (fun cdv A outer s H vs Q E hr h => ?_)
    · obtain ⟨v, ws, rfl, _⟩ := h
      rfl
    · obtain ⟨v, ws, rfl, hv, hz, k⟩ := h
      refine ⟨_, (pss_cons (ps_if (pt_cmpR op_eq (pe_ix ix_tup (pv 0) pe_int (fun _ _ => rfl)) pe_str (nomark _)) (pss_one (ps_ret (pe_lst (pa_cons pe_str pa_nil)))) pss_nil)
      (pss_cons (ps_if (pt_cmpR op_eq (pe_ix ix_tup (pv 0) pe_int (fun _ _ => rfl)) pe_str (nomark _)) (pss_one (ps_ret (pe_op op_cat (pe_op op_cat (pe_lst (pa_cons pe_str pa_nil)) (pe_call (ih) (hr.mono (by first | decide | omega)) rfl T.view_words.g T.view_words.F.kp T.view_words.b .nil pass0 (pa_cons (pe_ix ix_tup (pv 0) pe_int (fun _ _ => rfl)) pa_nil))) (pe_call (ih) (hr.mono (by first | decide | omega)) rfl T.view_words.g T.view_words.F.kp T.view_words.b .nil pass0 (pa_cons (pe_ix ix_tup (pv 0) pe_int (fun _ _ => rfl)) pa_nil))))) pss_nil)
      (pss_cons (ps_set (i := 1) sc_view_words.nd rfl (Or.inl rfl) (pe_lst (pa_cons (pe_ix ix_tup (pv 0) pe_int (fun _ _ => rfl)) pa_nil)))
      (pss_cons (ps_if (pt_cmpR op_eq (pe_ix ix_tup (pv 0) pe_int (fun _ _ => rfl)) pe_str (nomark _)) (pss_one (ps_set (i := 1) sc_view_words.nd rfl (Or.inl rfl) (pe_op op_cat (pv 1) (pe_call (ok_term_words T) (hr.mono (by first | decide | omega)) rfl T.term_words.g T.term_words.F.kp T.term_words.b .nil pass0 (pa_cons (pe_ix ix_tup (pv 0) pe_int (fun _ _ => rfl)) pa_nil))))) (pss_one (ps_if (pt_cmpR op_eq (pe_ix ix_tup (pv 0) pe_int (fun _ _ => rfl)) pe_str (nomark _)) (pss_one (ps_set (i := 1) sc_view_words.nd rfl (Or.inl rfl) (pe_op op_cat (pv 1) (pe_call (ok_lists_words T) (hr.mono (by first | decide | omega)) rfl T.lists_words.g T.lists_words.F.kp T.lists_words.b .nil pass0 (pa_cons (pe_ix ix_tup (pv 0) pe_int (fun _ _ => rfl)) pa_nil))))) (pss_one (ps_if (pt_cmpR op_eq (pe_ix ix_tup (pv 0) pe_int (fun _ _ => rfl)) pe_str (nomark _)) (pss_one (ps_set (i := 1) sc_view_words.nd rfl (Or.inl rfl) (pe_op op_cat (pe_op op_cat (pv 1) (pe_lst (pa_cons (pe_callTy call_str_int (by rfl) T.n_str (by decide +kernel) (pa_cons (pe_ix ix_tup (pv 0) pe_int (fun _ _ => rfl)) pa_nil)) pa_nil))) (pe_call (ok_term_words T) (hr.mono (by first | decide | omega)) rfl T.term_words.g T.term_words.F.kp T.term_words.b .nil pass0 (pa_cons (pe_ix ix_tup (pv 0) pe_int (fun _ _ => rfl)) pa_nil))))) (pss_one (ps_if (pt_cmpR op_eq (pe_ix ix_tup (pv 0) pe_int (fun _ _ => rfl)) pe_str (nomark _)) (pss_one (ps_set (i := 1) sc_view_words.nd rfl (Or.inl rfl) (pe_op op_cat (pe_op op_cat (pv 1) (pe_call (ok_pairs_words T) (hr.mono (by first | decide | omega)) rfl T.pairs_words.g T.pairs_words.F.kp T.pairs_words.b .nil pass0 (pa_cons (pe_ix ix_tup (pv 0) pe_int (fun _ _ => rfl)) pa_nil))) (pe_call (ok_term_words T) (hr.mono (by first | decide | omega)) rfl T.term_words.g T.term_words.F.kp T.term_words.b .nil pass0 (pa_cons (pe_ix ix_tup (pv 0) pe_int (fun _ _ => rfl)) pa_nil))))) pss_nil)))))))
      (pss_one (ps_ret (pe_op op_cat (pv 1) (pe_call (ih) (hr.mono (by first | decide | omega)) rfl T.view_words.g T.view_words.F.kp T.view_words.b .nil pass0 (pa_cons (pe_ix ix_tup (pv 0) (pe_un un_neg pe_int) (fun _ _ => rfl)) pa_nil))))))))), ?_⟩
      obtain ⟨a, rfl, hv⟩ := hv
      have hV : ∀ R : VK, R (.ref a) H → tVar 0 [some (.ref a), none] H R := fun R q => ⟨_, rfl, q⟩
      have hV1 : ∀ (H1 : Hp) (l : V) (R : VK), R (.ref a) H1 → tVar 0 [some (.ref a), some l] H1 R := fun _ _ R q => ⟨_, rfl, q⟩
      have tail : ∀ (H1 : Hp) (l : Addr) (pre uw : Ws) (u : V) (xs : List V), Same H H1 → H1 l = some (.lst (pre.map V.str)) → H a = some (.tup xs) → atI xs (-1) = some u → ViewAt d H u uw → ws = pre ++ uw →
          tRet (tOp rCat (tVar 1) (tCall (spOut (ViewAt d)) [] E0 (tCons (tOp (rIxT K) (tVar 0) (tUn (rU fun i => .int (-i)) (tC (.int 1)))) tNil))) { nx := fun _ H => Q .non H, rt := Q, bk := fun _ _ => False, ct := fun _ _ => False } [some (.ref a), some (.ref l)] H1 := fun H1 l pre uw u xs S1 hl ha hu hA e => by
        subst e
        exact ⟨_, rfl, _, rfl, _, rfl, a, _, _, u, rfl, rfl, SqT.of (S1 _ _ ha), hu, cat_call hl hz (hA.mono _ (Same.tups S1)) fun H3 p hp S3 e3 => k H3 p (fresh_of S1 hp) e3 (Same.trans' S1 S3)⟩
      rcases hv with ⟨h1, rfl⟩ | ⟨t, tw, u, uw, h1, ht, hu, e⟩ | ⟨t, tw, u, uw, h1, ht, hu, e⟩ | ⟨u, uw, h1, hu, e⟩ | ⟨n, x, t, tw, u, uw, h1, hx, ht, hu, e⟩ | ⟨t, tw, u, uw, h1, ht, hu, e⟩ | ⟨p, pw, t, tw, u, uw, h1, hp, ht, hu, e⟩
      · refine q_eq hV h1 rfl ?_
        exact iteT ⟨sz1, fun l hl => k _ l hl upd_same (Same.laid hl)⟩
      · -- keep
        refine q_ne hV h1 (by decide +kernel) ?_
        refine iteF ?_
        refine q_ne hV h1 (by decide +kernel) ?_
        refine iteF ⟨_, rfl, a, _, 0, _, rfl, rfl, SqT.of h1, at_of (j := 0) rfl rfl, sz1, fun l hl => ?_⟩
        have s1 := Same.laid (o := .lst [.str "keep"]) hl
        have h2 := s1 _ _ h1
        refine q_eq (hV1 _ _) h2 rfl ?_
        refine iteT ⟨_, rfl, _, rfl, a, _, 1, t, rfl, rfl, SqT.of h2, at_of (j := 1) rfl rfl, cat_call (pre := [("keep" : Str)]) (ws := tw) upd_same ?_ (ht.mono _ (Same.tups s1)) fun H3 p hp S3 e3 => ?_⟩
        · rw [e] at hz
          simp only [List.length_cons, List.length_append, List.length_nil] at hz ⊢
          omega
        · exact tail H3 p _ uw u _ (Same.trans' s1 S3) e3 h1 rfl hu (by rw [e]; rfl)
      · -- rows
        refine q_ne hV h1 (by decide +kernel) ?_
        refine iteF ?_
        refine q_ne hV h1 (by decide +kernel) ?_
        refine iteF ⟨_, rfl, a, _, 0, _, rfl, rfl, SqT.of h1, at_of (j := 0) rfl rfl, sz1, fun l hl => ?_⟩
        have s1 := Same.laid (o := .lst [.str "rows"]) hl
        have h2 := s1 _ _ h1
        refine q_ne (hV1 _ _) h2 (by decide +kernel) ?_
        refine iteF ?_
        refine q_eq (hV1 _ _) h2 rfl ?_
        refine iteT ⟨_, rfl, _, rfl, a, _, 1, t, rfl, rfl, SqT.of h2, at_of (j := 1) rfl rfl, cat_call (pre := [("rows" : Str)]) (ws := tw) upd_same ?_ (ht.mono (Same.tups s1)) fun H3 p hp S3 e3 => ?_⟩
        · rw [e] at hz
          simp only [List.length_cons, List.length_append, List.length_nil] at hz ⊢
          omega
        · exact tail H3 p _ uw u _ (Same.trans' s1 S3) e3 h1 rfl hu (by rw [e]; rfl)
      · -- unlike
        refine q_ne hV h1 (by decide +kernel) ?_
        refine iteF ?_
        refine q_ne hV h1 (by decide +kernel) ?_
        refine iteF ⟨_, rfl, a, _, 0, _, rfl, rfl, SqT.of h1, at_of (j := 0) rfl rfl, sz1, fun l hl => ?_⟩
        have s1 := Same.laid (o := .lst [.str "unlike"]) hl
        have h2 := s1 _ _ h1
        refine q_ne (hV1 _ _) h2 (by decide +kernel) ?_
        refine iteF ?_
        refine q_ne (hV1 _ _) h2 (by decide +kernel) ?_
        refine iteF ?_
        refine q_ne (hV1 _ _) h2 (by decide +kernel) ?_
        refine iteF ?_
        refine q_ne (hV1 _ _) h2 (by decide +kernel) ?_
        refine iteF ?_
        exact tail _ l [("unlike" : Str)] uw u _ s1 upd_same h1 rfl hu (by rw [e]; rfl)
      · -- cap
        refine q_ne hV h1 (by decide +kernel) ?_
        refine iteF ?_
        refine q_ne hV h1 (by decide +kernel) ?_
        refine iteF ⟨_, rfl, a, _, 0, _, rfl, rfl, SqT.of h1, at_of (j := 0) rfl rfl, sz1, fun l hl => ?_⟩
        have s1 := Same.laid (o := .lst [.str "cap"]) hl
        have h2 := s1 _ _ h1
        refine q_ne (hV1 _ _) h2 (by decide +kernel) ?_
        refine iteF ?_
        refine q_ne (hV1 _ _) h2 (by decide +kernel) ?_
        refine iteF ?_
        refine q_eq (hV1 _ _) h2 rfl ?_
        refine iteT ⟨_, rfl, _, rfl, a, _, 2, .int n, rfl, rfl, SqT.of h2, at_of (j := 2) rfl rfl, n, rfl, numP_lg hx, sz1, fun l2 hl2 => ⟨l, l2, _, _, rfl, rfl, Same.laid hl2 _ _ upd_same, upd_same, sz2, fun p hp => ?_⟩⟩
        have s2 : Same H (upd (upd (upd H l (.lst [.str "cap"])) l2 (.lst [.str (strI n)])) p (.lst ([.str "cap"] ++ [.str (strI n)]))) := Same.trans' (Same.trans' s1 (Same.laid hl2)) (Same.laid hp)
        refine ⟨_, rfl, a, _, 1, t, rfl, rfl, SqT.of (s2 _ _ h1), at_of (j := 1) rfl rfl, cat_call (pre := [("cap" : Str), x]) (ws := tw) (by rw [upd_same, numP_val hx]; rfl) ?_ (ht.mono _ (Same.tups s2)) fun H3 p hp S3 e3 => ?_⟩
        · rw [e] at hz
          simp only [List.length_cons, List.length_append, List.length_nil] at hz ⊢
          omega
        · exact tail H3 p _ uw u _ (Same.trans' s2 S3) e3 h1 rfl hu (by rw [e]; rfl)
      · -- both
        refine q_ne hV h1 (by decide +kernel) ?_
        refine iteF ?_
        refine q_eq hV h1 rfl ?_
        subst e
        refine iteT ⟨sz1, fun l hl => ?_⟩
        have s1 := Same.laid (o := .lst [.str "both"]) hl
        have h2 := s1 _ _ h1
        refine ⟨_, rfl, a, _, 1, t, rfl, rfl, SqT.of h2, at_of (j := 1) rfl rfl, cat_call (pre := [("both" : Str)]) (ws := tw) upd_same ?_ (ht.mono _ (Same.tups s1)) fun H3 p hp S3 e3 => ?_⟩
        · simp only [List.length_cons, List.length_append, List.length_nil] at hz ⊢
          omega
        have s3 := Same.trans' s1 S3
        refine ⟨_, rfl, a, _, 2, u, rfl, rfl, SqT.of (s3 _ _ h1), at_of (j := 2) rfl rfl, cat_call (ws := uw) e3 ?_ (hu.mono _ (Same.tups s3)) fun H5 p5 hp5 S5 e5 => ?_⟩
        · simp only [List.length_cons, List.length_append, List.length_nil] at hz ⊢
          omega
        · exact k H5 p5 (fresh_of s3 hp5) e5 (Same.trans' s3 S5)
      · -- match
        refine q_ne hV h1 (by decide +kernel) ?_
        refine iteF ?_
        refine q_ne hV h1 (by decide +kernel) ?_
        refine iteF ⟨_, rfl, a, _, 0, _, rfl, rfl, SqT.of h1, at_of (j := 0) rfl rfl, sz1, fun l hl => ?_⟩
        have s1 := Same.laid (o := .lst [.str "match"]) hl
        have h2 := s1 _ _ h1
        refine q_ne (hV1 _ _) h2 (by decide +kernel) ?_
        refine iteF ?_
        refine q_ne (hV1 _ _) h2 (by decide +kernel) ?_
        refine iteF ?_
        refine q_ne (hV1 _ _) h2 (by decide +kernel) ?_
        refine iteF ?_
        refine q_eq (hV1 _ _) h2 rfl ?_
        refine iteT ⟨_, rfl, _, rfl, a, _, 1, p, rfl, rfl, SqT.of h2, at_of (j := 1) rfl rfl, cat_call (pre := [("match" : Str)]) (ws := pw) upd_same ?_ (hp.mono (Same.tups s1)) fun H3 q hq S3 e3 => ?_⟩
        · rw [e] at hz
          simp only [List.length_cons, List.length_append, List.length_nil] at hz ⊢
          omega
        have s3 := Same.trans' s1 S3
        refine ⟨_, rfl, a, _, 2, t, rfl, rfl, SqT.of (s3 _ _ h1), at_of (j := 2) rfl rfl, cat_call (ws := tw) e3 ?_ (ht.mono _ (Same.tups s3)) fun H5 p5 hp5 S5 e5 => ?_⟩
        · rw [e] at hz
          simp only [List.length_cons, List.length_append, List.length_nil] at hz ⊢
          omega
        · exact tail H5 p5 _ uw u _ (Same.trans' s3 S5) e5 h1 rfl hu (by rw [e]; simp)
theorem ok_view_words (T : Txt K mg w) : FnOk P w K mg base CX0 25 T.view_words.f T.view_words.fd ["view"] (spOut (ViewAt 8)) := ok_view_words_d T 8
def sp_askedW : Sp := fun vs H Q _ => ∃ u m uw mw, vs = [u, m] ∧ ViewAt 8 H u uw ∧ MeasAt H m mw ∧ (mw ++ ("of" : Str) :: uw).length ≤ sizeLine ∧ ∀ H' l, H l = none → H' l = some (.lst ((mw ++ ("of" : Str) :: uw).map V.str)) → Same H H' → Q (.ref l) H'
theorem sc_asked_words : FnScope ["view", "measure"] ["view", "measure"] (defScope (top 35)) := ⟨rfl, rfl, rfl, by decide +kernel, rfl, by decide +kernel, by decide +kernel⟩
theorem ok_asked_words (T : Txt K mg w) : FnOk P w K mg base CX0 26 T.asked_words.f T.asked_words.fd ["view", "measure"] sp_askedW := by
  refine T.asked_words.F.ok sc_asked_words (fun vs H Q E h => ?_) (fun cdv A outer s H vs Q E hr h => ?_)
  · obtain ⟨u, m, uw, mw, rfl, _⟩ := h
    rfl
  · obtain ⟨u, m, uw, mw, rfl, hu, hm, hz, k⟩ := h
    refine ⟨_, (pss_one (ps_ret (pe_op op_cat (pe_op op_cat (pe_call (ok_measure_words T) (hr.mono (by first | decide | omega)) rfl T.measure_words.g T.measure_words.F.kp T.measure_words.b .nil pass0 (pa_cons (pv 1) pa_nil)) (pe_lst (pa_cons pe_str pa_nil))) (pe_call (ok_view_words T) (hr.mono (by first | decide | omega)) rfl T.view_words.g T.view_words.F.kp T.view_words.b .nil pass0 (pa_cons (pv 0) pa_nil))))), ?_⟩
    simp only [List.length_append, List.length_cons] at hz
    refine ⟨_, rfl, m, mw, rfl, hm, by omega, fun H1 l hl e1 S1 => ⟨sz1, fun l2 hl2 => ⟨l, l2, _, _, rfl, rfl, Same.laid hl2 _ _ e1, upd_same, by simp only [List.length_map, List.length_cons, List.length_nil]; omega, fun p hp => ?_⟩⟩⟩
    have s2 : Same H (upd (upd H1 l2 (.lst [.str "of"])) p (.lst (mw.map V.str ++ [.str "of"]))) := Same.trans' (Same.trans' S1 (Same.laid hl2)) (Same.laid hp)
    refine ⟨_, rfl, cat_call (pre := mw ++ [("of" : Str)]) (ws := uw) (by rw [upd_same, List.map_append]; rfl) ?_ (hu.mono _ (Same.tups s2)) fun H3 q hq S3 e3 => ?_⟩
    · simp only [List.length_append, List.length_cons, List.length_nil]
      omega
    · exact k H3 q (fresh_of s2 hq) (by rw [e3]; simp) (Same.trans' s2 S3)
end
end BD
/-! W16: rows written. -/
namespace BD
open PySem PySem.Spec L2 TL
open PyProof.Rows hiding St
def spRows (At : Hp → V → Ws → Prop) : Sp := fun vs H Q _ => ∃ v ls, vs = [v] ∧ At H v ls ∧ ls.length ≤ sizeLine ∧ (∀ r ∈ ls, r.length + 2 ≤ sizeLine) ∧ ∀ H' l, H l = none → H' l = some (.lst (ls.map V.str)) → Same H H' → Q (.ref l) H'
theorem cat_rows {At : Hp → V → Ws → Prop} {H1 : Hp} {l : Addr} {pre ws : Ws} {v : V} {Q : VK} (hl : H1 l = some (.lst (pre.map V.str))) (hz : (pre ++ ws).length ≤ sizeLine) (hs : ∀ r ∈ ws, r.length + 2 ≤ sizeLine) (hA : At H1 v ws)
    (q : ∀ H3 p, H1 p = none → Same H1 H3 → H3 p = some (.lst ((pre ++ ws).map V.str)) → Q (.ref p) H3) : spRows At [v] H1 (fun y H2 => rCat (.ref l) y H2 Q) E0 := by
  rw [List.length_append] at hz
  refine ⟨v, ws, rfl, hA, by omega, hs, fun H2 l2 hl2 e2 S2 => ⟨l, l2, _, _, rfl, rfl, S2 _ _ hl, e2, by rw [List.length_map, List.length_map]; omega, fun p hp => ?_⟩⟩
  exact q _ p (fresh_of S2 hp) (fun c o e => Same.laid hp c o (S2 c o e)) (by rw [upd_same, List.map_append])
theorem cat_lit {H1 : Hp} {l : Addr} {pre : Ws} {x : Str} {Q : VK} (hl : H1 l = some (.lst (pre.map V.str))) (hz : (pre ++ [x]).length ≤ sizeLine)
    (q : ∀ H3 p, H1 p = none → Same H1 H3 → H3 p = some (.lst ((pre ++ [x]).map V.str)) → Q (.ref p) H3) : 1 ≤ sizeLine ∧ ∀ l2, H1 l2 = none → rCat (.ref l) (.ref l2) (upd H1 l2 (.lst [.str x])) Q := by
  rw [List.length_append] at hz
  refine ⟨sz1, fun l2 hl2 => ⟨l, l2, _, _, rfl, rfl, Same.laid hl2 _ _ hl, upd_same, by rw [List.length_map]; exact hz, fun p hp => ?_⟩⟩
  exact q _ p (fresh_of (Same.laid hl2) hp) (fun c o e => Same.laid hp c o (Same.laid hl2 c o e)) (by rw [upd_same, List.map_append]; rfl)
theorem join_sum {y : Str} : ∀ ws : Ws, (ws.map (·.length)).sum + ws.length * y.length ≤ (Txt.join y ws).length + y.length := fun ws => by
  rw [join_eq, len_tl, len_tl, tl_join]
  induction ws with
  | nil => simp
  | cons a r ih =>
    cases r with
    | nil =>
      simp only [List.map_cons, List.map_nil, List.sum_cons, List.sum_nil, List.length_cons, List.length_nil]
      show a.length + 0 + (0 + 1) * _ ≤ (tl a).length + _
      rw [len_tl]
      omega
    | cons b r =>
      show _ ≤ (tl a ++ (tl y ++ joinL (tl y) ((b :: r).map tl))).length + _
      rw [List.length_append, List.length_append, List.map_cons, List.sum_cons, List.length_cons, Nat.succ_mul, ← len_tl a]
      omega
theorem join_cond {ws : Ws} {row : Str} (hr : wordsOf row = ws) (hz : row.length + 2 ≤ sizeLine) : (ws.map (·.length)).sum + ws.length * sp1.length ≤ 16777216 := by
  have := join_sum (y := sp1) ws
  rw [← hr, join_words] at this
  rw [← hr]
  have e1 : sp1.length = 1 := by decide +kernel
  have e2 : sizeLine = 16777216 := rfl
  omega
theorem few_words {row : Str} {ws : Ws} (hr : wordsOf row = ws) (hz : row.length + 2 ≤ sizeLine) : ws.length ≤ sizeLine := by
  have := words_cnt row
  rw [hr] at this
  omega
theorem nums_at {H : Hp} : ∀ {ns : List Int} {xs : Ws}, Nums ns xs → All2 (NumAt H) (ns.map V.int) (xs.map fun x => [x])
  | [], _, .nil => .nil
  | n :: ns, _, .cons h1 h2 => .cons ⟨n, _, rfl, rfl, h1⟩ (nums_at (ns := ns) h2)
theorem nums_flat : ∀ xs : Ws, (xs.map fun x => [x]).flatten = xs
  | [] => rfl
  | x :: xs => by rw [List.map_cons, List.flatten_cons, nums_flat xs]; rfl
theorem cut4 {a b c d : V} {vs : List V} : cutV (a :: b :: c :: d :: vs) (some 4) none = vs := by
  unfold cutV
  rw [show HT.sIx (a :: b :: c :: d :: vs).length 0 (some 4) = 4 from by
    show HT.sIx _ _ (some ((4 : Nat) : Int)) = 4
    rw [HT.sIx_nat]
    simp only [List.length_cons]
    omega, HT.sIx_none]
  simp
theorem cut4_whole {a b c d : V} {vs : List V} : ¬ (HT.sIx (a :: b :: c :: d :: vs).length 0 (some 4) = 0 ∧ HT.sIx (a :: b :: c :: d :: vs).length (a :: b :: c :: d :: vs).length none = (a :: b :: c :: d :: vs).length) := fun h => by
  have : HT.sIx (a :: b :: c :: d :: vs).length 0 (some ((4 : Nat) : Int)) = 0 := h.1
  rw [HT.sIx_nat] at this
  simp only [List.length_cons] at this
  omega
section
variable {P : Program} {w : World} {K : PySem.W.Frag} {mg : Str → Option Value} {base : Heap}
def sp_pickW : Sp := fun vs H Q _ => ∃ v cs, vs = [v] ∧ AskAt "pick" H v cs ∧ (("pick" : Str) :: cs).length ≤ sizeLine ∧ ∀ H' l, H l = none → H' l = some (.lst ((("pick" : Str) :: cs).map V.str)) → Same H H' → Q (.ref l) H'
theorem sc_pick_words : FnScope ["statement", "words", "view", "measure"] ["statement"] (defScope (top 36)) := ⟨rfl, rfl, rfl, by decide +kernel, rfl, by decide +kernel, by decide +kernel⟩
theorem ok_pick_words (T : Txt K mg w) : FnOk P w K mg base CX0 27 T.pick_words.f T.pick_words.fd ["statement"] sp_pickW := by
  refine T.pick_words.F.ok sc_pick_words (fun vs H Q E h => ?_) (fun cdv A outer s H vs Q E hr h => ?_)
  · obtain ⟨v, cs, rfl, _⟩ := h
    rfl
  · obtain ⟨v, cs, rfl, hA, hz, k⟩ := h
    refine ⟨_, (pss_cons (ps_set (i := 1) sc_pick_words.nd rfl (Or.inl rfl) (pe_lst (pa_cons pe_str (pa_cons (pe_ix ix_tup (pv 0) pe_int (fun _ _ => rfl)) (pa_cons (pe_callTy call_str_int (by rfl) T.n_str (by decide +kernel) (pa_cons (pe_ix ix_tup (pv 0) pe_int (fun _ _ => rfl)) pa_nil)) (pa_cons (pe_callTy call_str_int (by rfl) T.n_str (by decide +kernel) (pa_cons (pe_ix ix_tup (pv 0) pe_int (fun _ _ => rfl)) pa_nil)) (pa_cons (pe_callTy call_str_int (by rfl) T.n_str (by decide +kernel) (pa_cons (pe_ix ix_tup (pv 0) pe_int (fun _ _ => rfl)) pa_nil)) (pa_cons (pe_callTy call_str_int (by rfl) T.n_str (by decide +kernel) (pa_cons (pe_callB call_len_seq (by rfl) T.n_len (by decide +kernel) (pa_cons (pe_ix ix_tup (pv 0) pe_int (fun _ _ => rfl)) pa_nil)) pa_nil)) pa_nil))))))))
      (pss_cons (ps_for PassesOwn.never rfl (pi_tup (pe_ix ix_tup (pv 0) pe_int (fun _ _ => rfl))) (pg_tup rfl (pgs_cons (pg_name (i := 2) sc_pick_words.nd rfl (Or.inl rfl)) (pgs_cons (pg_name (i := 3) sc_pick_words.nd rfl (Or.inl rfl)) pgs_nil))) (pss_one (ps_set (i := 1) sc_pick_words.nd rfl (Or.inl rfl) (pe_op op_cat (pv 1) (pe_call (ok_asked_words T) (hr.mono (by first | decide | omega)) rfl T.asked_words.g T.asked_words.F.kp T.asked_words.b .nil pass0 (pa_cons (pv 2) (pa_cons (pv 3) pa_nil)))))))
      (pss_one (ps_ret (pv 1))))), ?_⟩
    obtain ⟨a, nm, rfl, hnm, hA⟩ := hA
    obtain ⟨_, c, vs, wss, n1, n2, n3, x1, x2, x3, h1, hc, h9, hAs, hx1, hx2, hx3, rfl⟩ := hA.resolve_right fun z => z.1 rfl
    refine ⟨_, rfl, a, _, 1, _, rfl, rfl, SqT.of h1, at_of (j := 1) rfl rfl, _, rfl, a, _, 3, _, rfl, rfl, SqT.of h1, at_of (j := 3) rfl rfl, n1, rfl, numP_lg hx1, _, rfl, a, _, 4, _, rfl, rfl, SqT.of h1, at_of (j := 4) rfl rfl, n2, rfl, numP_lg hx2,
      _, rfl, a, _, 5, _, rfl, rfl, SqT.of h1, at_of (j := 5) rfl rfl, n3, rfl, numP_lg hx3, _, rfl, a, _, 2, _, rfl, rfl, SqT.of h1, at_of (j := 2) rfl rfl, c, _, rfl, .inr (SqT.of hc), _, rfl, nat_lg (by omega), sz1000 (by simp), fun L hL => ?_⟩
    obtain ⟨HL, eL⟩ : ∃ HL, HL = upd H L (.lst [.str "pick", .str nm, .str (strI n1), .str (strI n2), .str (strI n3), .str (strI vs.length)]) := ⟨_, rfl⟩
    have s1 : Same H HL := by rw [eL]; exact Same.laid hL
    have hLL : HL L = some (.lst ((("pick" : Str) :: nm :: x1 :: x2 :: x3 :: strI vs.length :: []).map V.str)) := by
      rw [eL, upd_same, numP_str hx1, numP_str hx2, numP_str hx3]
      rfl
    show tSeq _ _ _ [some (.ref a), some (.ref L), none, none] (upd H L (.lst [.str "pick", .str nm, .str (strI n1), .str (strI n2), .str (strI n3), .str (strI vs.length)]))
    rw [← eL]
    refine ⟨_, rfl, a, _, 2, _, rfl, rfl, SqT.of (s1 _ _ h1), at_of (j := 2) rfl rfl, c, rfl, ⟨_, SqT.of (s1 _ _ hc)⟩, ?_⟩
    refine for_tup (xs := vs) (fun i σ' H' => ∃ l v2 v3, σ' = [some (.ref a), some (.ref l), v2, v3] ∧ H l = none ∧ Same H H' ∧ H' l = some (.lst ((("pick" : Str) :: nm :: x1 :: x2 :: x3 :: strI vs.length :: (wss.take i).flatten).map V.str))) ?_ ?_ ?_ ?_
    · exact ⟨L, _, _, rfl, hL, s1, hLL⟩
    · rintro i σ' H' _ ⟨_, _, _, _, _, S, _⟩
      exact SqT.of (S c _ hc)
    · rintro i x σ' H' hx ⟨l, v2, v3, rfl, hl, S, hl'⟩
      obtain ⟨ws, hws, b, m, u, mw, uw, rfl, hb, hm, hu, rfl⟩ := hAs.at' hx
      have hfl := flat_le wss (i + 1)
      rw [flat_take hws, List.length_append] at hfl
      simp only [List.length_cons] at hz
      refine ⟨b, _, rfl, SqT.of (S b _ hb), rfl, _, _, rfl, _, _, rfl, rfl, ?_⟩
      refine ⟨_, rfl, _, rfl, _, rfl, u, m, uw, mw, rfl, hu.mono _ (Same.tups S), hm.mono (Same.tups S), by omega, fun H2 l2 hl2 e2 S2 => ?_⟩
      refine ⟨l, l2, _, _, rfl, rfl, S2 _ _ hl', e2, by simp only [List.length_map, List.length_cons]; simp only [List.length_append, List.length_cons] at hfl ⊢; omega, fun p hp => ?_⟩
      have s2 := Same.trans' S (Same.trans' S2 (Same.laid (o := .lst (((("pick" : Str) :: nm :: x1 :: x2 :: x3 :: strI vs.length :: (wss.take i).flatten).map V.str) ++ ((mw ++ ("of" : Str) :: uw).map V.str))) hp))
      refine ⟨p, _, _, rfl, fresh_of (Same.trans' S S2) hp, s2, ?_⟩
      rw [upd_same, flat_take hws, ← List.map_append]
      rfl
    · rintro σ' H' ⟨l, v2, v3, rfl, hl, S, hl'⟩
      rw [show wss.take vs.length = wss by rw [hAs.len, List.take_length]] at hl'
      exact ⟨_, rfl, k H' l hl hl' S⟩
/-! ### rows -/
theorem sc_all_rows : FnScope ["rows", "made", "statement"] ["rows"] (defScope (top 39)) := ⟨rfl, rfl, rfl, by decide +kernel, rfl, by decide +kernel, by decide +kernel⟩
theorem ok_all_of {kk : Nat} {S : Hp → V → Ws → Prop} (T : Txt K mg w) (hmono : ∀ {H H' : Hp} {v : V} {ls : Ws}, Tups H H' → S H v ls → S H' v ls) (B : FnOk P w K mg base CX0 kk T.statement_rows.f T.statement_rows.fd ["statement"] (spRows S)) :
    FnOk P w K mg base CX0 (kk + 1) T.all_rows.f T.all_rows.fd ["rows"] (spRows fun H => RowsOf (fun v ls => S H v ls) H) := by
  refine T.all_rows.F.ok sc_all_rows (fun vs H Q E h => ?_) (fun cdv A outer s H vs Q E hr h => ?_)
  · obtain ⟨v, ls, rfl, _⟩ := h
    rfl
  · obtain ⟨v, ls, rfl, hA, hz, hs, k⟩ := h
    refine ⟨_, (pss_cons (ps_set (i := 1) sc_all_rows.nd rfl (Or.inl rfl) (pe_lst pa_nil))
      (pss_cons (ps_for PassesOwn.never rfl (pi_tup (pv 0)) (pg_name (i := 2) sc_all_rows.nd rfl (Or.inl rfl)) (pss_one (ps_expr (pe_bm PySem.F.plainAttrs_list PySem.F.slot_list_extend PySem.F.type_list_extend mt_extend (pv 1) (pa_cons (pe_call (B) (hr.mono (by first | decide | omega)) rfl T.statement_rows.g T.statement_rows.F.kp T.statement_rows.b .nil pass0 (pa_cons (pv 2) pa_nil)) pa_nil)))))
      (pss_one (ps_ret (pv 1))))), ?_⟩
    obtain ⟨a, vs, lss, rfl, h1, hS, rfl⟩ := hA
    refine ⟨by decide, fun L hL => ?_⟩
    have h1L : upd H L (.lst []) a = some (.tup vs) := Same.laid hL _ _ h1
    refine ⟨_, rfl, a, rfl, ⟨_, SqT.of h1L⟩, ?_⟩
    have hS2 : All2 (fun x ws => S H x ws ∧ ∀ r ∈ ws, r.length + 2 ≤ sizeLine) vs lss := by
      clear hz k h1 h1L
      induction hS with
      | nil => exact .nil
      | cons h1 h2 ih => exact .cons ⟨h1, fun r hr => hs r (by rw [List.flatten_cons]; exact List.mem_append_left _ hr)⟩ (ih fun r hr => hs r (by rw [List.flatten_cons]; exact List.mem_append_right _ hr))
    refine loop_ext (pre := []) hS2 upd_same h1L (by simpa using hz) ?_ (fun v => ?_) (fun x ws H1 Q1 hA hz1 S1 q => ?_) (fun v H' S1 hL1 => ?_)
    · exact ⟨none, rfl⟩
    · rfl
    · have tu : Tups H H1 := fun c xs e => S1 c _ (ne_of_none e hL) (Same.laid hL _ _ e)
      exact ⟨_, rfl, x, ws, rfl, hmono tu hA.1, hz1, hA.2, q⟩
    · exact ⟨_, rfl, k H' L hL hL1 (fun c o e => S1 c o (ne_of_none e hL) (Same.laid hL _ _ e))⟩
theorem sc_statement_rows : FnScope ["statement", "numbers", "words", "n"] ["statement"] (defScope (top 38)) := ⟨rfl, rfl, rfl, by decide +kernel, rfl, by decide +kernel, by decide +kernel⟩
theorem ok_stm_of {kk : Nat} {BP : Hp → V → Ws → Prop} (T : Txt K mg w) (hB : ∀ {H v ls}, BP H v ls → ∃ a x tl, v = .ref a ∧ H a = some (.tup (.str x :: tl)) ∧ x ≠ "pick" ∧ x ≠ "ask" ∧ x ≠ "flat") (B : FnOk P w K mg base CX0 kk T.block_rows.f T.block_rows.fd ["statement"] (spRows BP)) (hk : 27 ≤ kk) :
    FnOk P w K mg base CX0 (kk + 1) T.statement_rows.f T.statement_rows.fd ["statement"] (spRows fun H v ls => AskRow H v ls ∨ BP H v ls) := by
  refine T.statement_rows.F.ok sc_statement_rows (fun vs H Q E h => ?_) (fun cdv A outer s H vs Q E hr h => ?_)
  · obtain ⟨v, ls, rfl, _⟩ := h
    rfl
  · obtain ⟨v, ls, rfl, hA, hz, hs, k⟩ := h
    refine ⟨_, (pss_cons (ps_if (pt_cmpR op_eq (pe_ix ix_tup (pv 0) pe_int (fun _ _ => rfl)) pe_str (nomark _)) (pss_one (ps_ret (pe_lst (pa_cons (pe_join pe_str (pe_call (ok_pick_words T) (hr.mono (by first | decide | omega)) rfl T.pick_words.g T.pick_words.F.kp T.pick_words.b .nil pass0 (pa_cons (pv 0) pa_nil))) pa_nil)))) pss_nil)
      (pss_cons (ps_if (PW.pt (pw_or (pt_cmpR op_eq (pe_ix ix_tup (pv 0) pe_int (fun _ _ => rfl)) pe_str (nomark _)) (pw_or1 (pt_cmpR op_eq (pe_ix ix_tup (pv 0) pe_int (fun _ _ => rfl)) pe_str (nomark _))))) (pss_cons (ps_setLc (i := 1) (own := [("n", 3)]) (g := gName 3) (tt := tYes) rfl sc_statement_rows.nd rfl rfl (sw_true rfl rfl rfl (by decide +kernel)) (pi_tup (pe_slice sl_tup (pv 0) (po_some pe_int) po_none)) (blkOk_by (own := [("n", 3)]) (N := ["statement", "numbers", "words", "n"]) (sc := defScope (top 38)) (by decide +kernel)) (fun _ _ _ _ _ => pg_name (i := 3) sc_statement_rows.nd rfl (Or.inl rfl)) (fun _ _ _ _ _ => pts_nil) (fun _ _ _ _ _ => (pe_callTy call_str_int (by rfl) T.n_str (by decide +kernel) (pa_cons (pv 3) pa_nil))))
      (pss_cons (ps_set (i := 2) sc_statement_rows.nd rfl (Or.inl rfl) (pe_op op_cat (pe_op op_cat (pe_lst (pa_cons (pe_ix ix_tup (pv 0) pe_int (fun _ _ => rfl)) (pa_cons (pe_ix ix_tup (pv 0) pe_int (fun _ _ => rfl)) pa_nil))) (pv 1)) (pe_call (ok_asked_words T) (hr.mono (by first | decide | omega)) rfl T.asked_words.g T.asked_words.F.kp T.asked_words.b .nil pass0 (pa_cons (pe_ix ix_tup (pv 0) pe_int (fun _ _ => rfl)) (pa_cons (pe_ix ix_tup (pv 0) pe_int (fun _ _ => rfl)) pa_nil)))))
      (pss_one (ps_ret (pe_lst (pa_cons (pe_join pe_str (pv 2)) pa_nil)))))) pss_nil)
      (pss_one (ps_ret (pe_call (B) (hr.mono (by first | decide | omega)) rfl T.block_rows.g T.block_rows.F.kp T.block_rows.b .nil pass0 (pa_cons (pv 0) pa_nil)))))), ?_⟩
    rcases hA with ⟨row, rfl, head, cs, hh, hA, hrow⟩ | hA
    · have hz2 := hs row (by simp)
      have hfw := few_words hrow hz2
      by_cases hp : head = "pick"
      · subst hp
        obtain ⟨a, nm, rfl, hnm, hA0⟩ := id hA
        obtain ⟨_, c, vs, wss, n1, n2, n3, x1, x2, x3, h1, _⟩ := hA0.resolve_right fun z => z.1 rfl
        refine q_eq ?_ h1 rfl ?_
        · exact fun R q => ⟨_, rfl, q⟩
        refine iteT ⟨⟨_, rfl⟩, _, rfl, .ref a, cs, rfl, hA, by rw [← hrow]; exact few_words rfl hz2, fun H1 l hl e1 S1 => ?_⟩
        refine ⟨sp1, l, _, rfl, rfl, .inl (SqL.of e1), join_cond hrow hz2, ?_⟩
        rw [← row_is hrow]
        exact ⟨sz1, fun q hq => k _ q (fresh_of S1 hq) upd_same (Same.trans' S1 (Same.laid hq))⟩
      · obtain ⟨a, nm, rfl, hnm, hA0⟩ := hA
        obtain ⟨_, u, m, mw, uw, ns, xs, h1, hns, hnl, hm, hu, rfl⟩ := hA0.resolve_left fun z => hp z.1
        have hV : ∀ R : VK, R (.ref a) H → tVar 0 [some (.ref a), none, none, none] H R := fun R q => ⟨_, rfl, q⟩
        refine q_ne hV h1 hp ?_
        refine iteF ?_
        have orT : ∀ Q2 : Bool → Hp → Prop, Q2 true H → tOr (tTest (tOp rEq (tOp (rIxT K) (tVar 0) (tC (.int 0))) (tC (.str "ask")))) (tTest (tOp rEq (tOp (rIxT K) (tVar 0) (tC (.int 0))) (tC (.str "flat")))) [some (.ref a), none, none, none] H Q2 := fun Q2 q => by
          rcases hh with h | h | h
          · refine q_eq hV h1 h ?_
            exact iteT q
          · refine q_ne hV h1 (by rw [h]; decide +kernel) ?_
            refine iteF ?_
            exact q_eq hV h1 h q
          · exact absurd h hp
        refine orT _ ?_
        have nle : ns.length ≤ 4 := by rw [hnl]; split <;> decide
        refine iteT ⟨_, rfl, _, rfl, a, _, rfl, SqT.of h1, cut4_whole, fun t ht => ?_⟩
        rw [cut4]
        refine ⟨t, rfl, ⟨_, SqT.of upd_same⟩, fun D hD => ?_⟩
        refine lc_strs (wss := xs.map fun x => [x]) (nums_at hns) upd_same hD (by rw [List.length_map]; omega) ?_ (fun n z H2 Q1 hz1 q => ?_) (fun H2 S2 hD2 => ?_)
        · exact fun v => rfl
        · refine ⟨_, rfl, n, rfl, numP_lg hz1, ?_⟩
          rw [numP_val hz1]
          exact q
        rw [nums_flat] at hD2
        have s2 : Same H H2 := Same.trans' (Same.laid ht) S2
        have h12 := s2 _ _ h1
        have ew : wordsOf row = [head, nm] ++ xs ++ (mw ++ ("of" : Str) :: uw) := by rw [hrow]; simp
        simp only [List.length_cons, List.length_append] at hfw
        have hxl : xs.length ≤ 4 := by rw [← hns.len]; exact nle
        refine ⟨_, rfl, a, _, 0, .str head, rfl, rfl, SqT.of h12, at_of (j := 0) rfl rfl, _, rfl, a, _, 1, .str nm, rfl, rfl, SqT.of h12, at_of (j := 1) rfl rfl, sz2, fun l hl => ?_⟩
        refine ⟨_, rfl, l, D, _, _, rfl, rfl, upd_same, Same.laid hl _ _ hD2, by rw [List.length_map]; exact sz1000 (by simp only [List.length_cons, List.length_nil]; omega), fun p hp3 => ?_⟩
        have s3 : Same H (upd (upd H2 l (.lst [.str head, .str nm])) p (.lst ([.str head, .str nm] ++ xs.map V.str))) := Same.trans' (Same.trans' s2 (Same.laid hl)) (Same.laid hp3)
        have h13 := s3 _ _ h1
        refine ⟨_, rfl, a, _, 2, u, rfl, rfl, SqT.of h13, at_of (j := 2) rfl rfl, _, rfl, a, _, 3, m, rfl, rfl, SqT.of h13, at_of (j := 3) rfl rfl, u, m, uw, mw, rfl, hu.mono _ (Same.tups s3), hm.mono (Same.tups s3), by simp only [List.length_cons, List.length_append]; omega, fun H4 l4 hl4 e4 S4 => ?_⟩
        refine ⟨p, l4, _, _, rfl, rfl, S4 _ _ upd_same, e4, by simp only [List.length_cons, List.length_append, List.length_map, List.length_nil]; omega, fun q hq => ?_⟩
        have s5 := Same.trans' s3 (Same.trans' S4 (Same.laid (o := .lst (([.str head, .str nm] ++ xs.map V.str) ++ (mw ++ ("of" : Str) :: uw).map V.str)) hq))
        refine ⟨⟨_, rfl⟩, _, rfl, ?_⟩
        refine ⟨sp1, q, [head, nm] ++ xs ++ (mw ++ ("of" : Str) :: uw), rfl, rfl, .inl (SqL.of (by rw [upd_same]; simp)), join_cond ew hz2, ?_⟩
        rw [← row_is ew]
        exact ⟨sz1, fun z hz3 => k _ z (fresh_of s5 hz3) upd_same (Same.trans' s5 (Same.laid hz3))⟩
    · obtain ⟨a, x, tl, rfl, h1, n1, n2, n3⟩ := hB hA
      have hV : ∀ R : VK, R (.ref a) H → tVar 0 [some (.ref a), none, none, none] H R := fun R q => ⟨_, rfl, q⟩
      refine q_ne hV h1 n1 ?_
      refine iteF ?_
      refine q_ne hV h1 n2 ?_
      refine iteF ?_
      refine q_ne hV h1 n3 ?_
      exact iteF ⟨_, rfl, .ref a, ls, rfl, hA, hz, hs, k⟩
end
end BD
/-! W17: blocks and programs written. -/
namespace BD
open PySem PySem.Spec L2 TL
open PyProof.Rows hiding St
theorem tl_join2 (x y : Str) : tl (Txt.join sp1 [x, y]) = tl x ++ (32 :: tl y) := by
  rw [join_eq, tl_join]
  show tl x ++ (tl sp1 ++ tl y) = _
  rw [tl_sp]
  rfl
theorem tl_join3 (x y z : Str) : tl (Txt.join sp1 [x, y, z]) = tl x ++ (32 :: (tl y ++ (32 :: tl z))) := by
  rw [join_eq, tl_join]
  show tl x ++ (tl sp1 ++ (tl y ++ (tl sp1 ++ tl z))) = _
  rw [tl_sp]
  rfl
theorem tl_key : tl (("key " : Str)) = tl (("key" : Str)) ++ [32] := by decide +kernel
theorem tl_draw : tl (("draw " : Str)) = tl (("draw" : Str)) ++ [32] := by decide +kernel
theorem tl_width : tl (("width " : Str)) = tl (("width" : Str)) ++ [32] := by decide +kernel
theorem row_key {row x : Str} (h : wordsOf row = [("key" : Str), x]) : ("key " : Str) ++ x = row := ext_tl (by rw [row_is h, tl_join2, tl_append, tl_key, List.append_assoc]; rfl)
theorem row_width {row x : Str} (h : wordsOf row = [("width" : Str), x]) : ("width " : Str) ++ x = row := ext_tl (by rw [row_is h, tl_join2, tl_append, tl_width, List.append_assoc]; rfl)
theorem row_draw {row x y : Str} (h : wordsOf row = [("draw" : Str), x, y]) : ("draw " : Str) ++ x ++ (" " : Str) ++ y = row := ext_tl (by
  rw [row_is h, tl_join3, tl_append, tl_append, tl_append, tl_draw]
  show tl (("draw" : Str)) ++ [32] ++ tl x ++ tl sp1 ++ tl y = _
  rw [tl_sp]
  simp)
theorem num_str {x : Str} {n : Int} (h : numP x = some n) : Str.ofString (toString n) = x := numP_str h
theorem num_len {x : Str} {n : Int} (h : numP x = some n) : x.length ≤ 20 := by
  unfold numP at h
  split at h
  next hn =>
    unfold isNum at hn
    simp only [Bool.and_eq_true, decide_eq_true_eq] at hn
    have := hn.1.1.2
    unfold figs at this
    rw [len_tl]
    split at this
    · rw [List.length_drop] at this
      omega
    · omega
  next => cases h
section
variable {P : Program} {w : World} {K : PySem.W.Frag} {mg : Str → Option Value} {base : Heap}
theorem sc_block_rows : FnScope ["statement", "made", "key", "rows"] ["statement"] (defScope (top 37)) := ⟨rfl, rfl, rfl, by decide +kernel, rfl, by decide +kernel, by decide +kernel⟩
theorem ok_block_of {kk : Nat} {R : Hp → V → Ws → Prop} (T : Txt K mg w) (hmono : ∀ {H H' : Hp} {v : V} {ls : Ws}, Tups H H' → R H v ls → R H' v ls) (B : FnOk P w K mg base CX0 kk T.all_rows.f T.all_rows.fd ["rows"] (spRows R)) (hk : 26 ≤ kk) :
    FnOk P w K mg base CX0 (kk + 1) T.block_rows.f T.block_rows.fd ["statement"] (spRows fun H => BlockOf (R H) H) := by
  refine T.block_rows.F.ok sc_block_rows (fun vs H Q E h => ?_) (fun cdv A outer s H vs Q E hr h => ?_)
  · obtain ⟨v, ls, rfl, _⟩ := h
    rfl
  · obtain ⟨v, ls, rfl, hA, hz, hs, k⟩ := h
    refine ⟨_, (pss_cons (ps_if (pt_cmpR op_eq (pe_ix ix_tup (pv 0) pe_int (fun _ _ => rfl)) pe_str (nomark _)) (pss_cons (ps_set (i := 1) sc_block_rows.nd rfl (Or.inl rfl) (pe_op op_cat (pe_lst (pa_cons (pe_join pe_str (pe_op op_cat (pe_lst (pa_cons pe_str pa_nil)) (pe_call (ok_term_words T) (hr.mono (by first | decide | omega)) rfl T.term_words.g T.term_words.F.kp T.term_words.b .nil pass0 (pa_cons (pe_ix ix_tup (pv 0) pe_int (fun _ _ => rfl)) pa_nil)))) pa_nil)) (pe_call (B) (hr.mono (by first | decide | omega)) rfl T.all_rows.g T.all_rows.F.kp T.all_rows.b .nil pass0 (pa_cons (pe_ix ix_tup (pv 0) pe_int (fun _ _ => rfl)) pa_nil))))
      (pss_one (ps_ret (pe_op op_cat (pe_op op_cat (pe_op op_cat (pv 1) (pe_lst (pa_cons pe_str pa_nil))) (pe_call (B) (hr.mono (by first | decide | omega)) rfl T.all_rows.g T.all_rows.F.kp T.all_rows.b .nil pass0 (pa_cons (pe_ix ix_tup (pv 0) pe_int (fun _ _ => rfl)) pa_nil))) (pe_lst (pa_cons pe_str pa_nil)))))) pss_nil)
      (pss_cons (ps_if (pt_cmpR op_eq (pe_ix ix_tup (pv 0) pe_int (fun _ _ => rfl)) pe_str (nomark _)) (pss_cons (ps_set (i := 1) sc_block_rows.nd rfl (Or.inl rfl) (pe_lst (pa_cons (pe_join pe_str (pe_op op_cat (pe_lst (pa_cons pe_str pa_nil)) (pe_call (ok_term_words T) (hr.mono (by first | decide | omega)) rfl T.term_words.g T.term_words.F.kp T.term_words.b .nil pass0 (pa_cons (pe_ix ix_tup (pv 0) pe_int (fun _ _ => rfl)) pa_nil)))) pa_nil)))
      (pss_cons (ps_for PassesOwn.never rfl (pi_tup (pe_ix ix_tup (pv 0) pe_int (fun _ _ => rfl))) (pg_tup rfl (pgs_cons (pg_name (i := 2) sc_block_rows.nd rfl (Or.inl rfl)) (pgs_cons (pg_name (i := 3) sc_block_rows.nd rfl (Or.inl rfl)) pgs_nil))) (pss_one (ps_set (i := 1) sc_block_rows.nd rfl (Or.inl rfl) (pe_op op_cat (pe_op op_cat (pv 1) (pe_lst (pa_cons (pe_op op_add_str pe_str (pe_callTy call_str_int (by rfl) T.n_str (by decide +kernel) (pa_cons (pv 2) pa_nil))) pa_nil))) (pe_call (B) (hr.mono (by first | decide | omega)) rfl T.all_rows.g T.all_rows.F.kp T.all_rows.b .nil pass0 (pa_cons (pv 3) pa_nil))))))
      (pss_one (ps_ret (pe_op op_cat (pv 1) (pe_lst (pa_cons pe_str pa_nil))))))) pss_nil)
      (pss_cons (ps_if (pt_cmpR op_eq (pe_ix ix_tup (pv 0) pe_int (fun _ _ => rfl)) pe_str (nomark _)) (pss_one (ps_ret (pe_op op_cat (pe_op op_cat (pe_lst (pa_cons (pe_op op_add_str (pe_op op_add_str (pe_op op_add_str pe_str (pe_callTy call_str_int (by rfl) T.n_str (by decide +kernel) (pa_cons (pe_ix ix_tup (pv 0) pe_int (fun _ _ => rfl)) pa_nil))) pe_str) (pe_callTy call_str_int (by rfl) T.n_str (by decide +kernel) (pa_cons (pe_ix ix_tup (pv 0) pe_int (fun _ _ => rfl)) pa_nil))) pa_nil)) (pe_call (B) (hr.mono (by first | decide | omega)) rfl T.all_rows.g T.all_rows.F.kp T.all_rows.b .nil pass0 (pa_cons (pe_ix ix_tup (pv 0) pe_int (fun _ _ => rfl)) pa_nil))) (pe_lst (pa_cons pe_str pa_nil))))) pss_nil)
      (pss_one (ps_ret (pe_op op_cat (pe_op op_cat (pe_lst (pa_cons (pe_join pe_str (pe_op op_cat (pe_lst (pa_cons pe_str pa_nil)) (pe_call (ok_view_words T) (hr.mono (by first | decide | omega)) rfl T.view_words.g T.view_words.F.kp T.view_words.b .nil pass0 (pa_cons (pe_ix ix_tup (pv 0) pe_int (fun _ _ => rfl)) pa_nil)))) pa_nil)) (pe_call (B) (hr.mono (by first | decide | omega)) rfl T.all_rows.g T.all_rows.F.kp T.all_rows.b .nil pass0 (pa_cons (pe_ix ix_tup (pv 0) pe_int (fun _ _ => rfl)) pa_nil))) (pe_lst (pa_cons pe_str pa_nil)))))))), ?_⟩
    obtain ⟨a, row, rfl, hA⟩ := hA
    have hV : ∀ R : VK, R (.ref a) H → tVar 0 [some (.ref a), none, none, none] H R := fun R q => ⟨_, rfl, q⟩
    rcases hA with ⟨t, tw, r1, r2, l1, l2, h1, ht, hrow, hr1, hr2, rfl⟩ | ⟨t, tw, c, ps, pss, h1, hc, ht, hrow, hps, rfl⟩ | ⟨m, n, x, y, r, l, h1, hx, hy, hrow, hR, rfl⟩ | ⟨u, uw, r, l, h1, hu, hrow, hR, rfl⟩
    · have hrz : row.length + 2 ≤ sizeLine := hs row (by simp)
      have hfw := few_words hrow hrz
      simp only [List.length_cons, List.length_append, List.length_nil] at hz hfw
      refine q_eq hV h1 rfl ?_
      refine iteT ⟨⟨_, rfl⟩, sz1, fun l hl => ?_⟩
      have s1 := Same.laid (o := .lst [.str "if"]) hl
      refine ⟨_, rfl, a, _, 1, t, rfl, rfl, SqT.of (s1 _ _ h1), at_of (j := 1) rfl rfl, cat_call (pre := [("if" : Str)]) (ws := tw) upd_same (by simp only [List.length_append, List.length_cons, List.length_nil]; omega) (ht.mono _ (Same.tups s1)) fun H3 p hp S3 e3 => ?_⟩
      refine ⟨sp1, p, _, rfl, rfl, .inl (SqL.of e3), join_cond hrow hrz, ?_⟩
      rw [show Txt.join sp1 ([("if" : Str)] ++ tw) = row from (row_is hrow).symm]
      have s3 := Same.trans' s1 S3
      refine ⟨sz1, fun q hq => ?_⟩
      have s4 := Same.trans' s3 (Same.laid (o := .lst [.str row]) hq)
      refine ⟨_, rfl, a, _, 2, r1, rfl, rfl, SqT.of (s4 _ _ h1), at_of (j := 2) rfl rfl, cat_rows (pre := [row]) (ws := l1) upd_same (by simp only [List.length_append, List.length_cons, List.length_nil]; omega) (fun z hz => hs z (by simp [hz])) (hmono (Same.tups s4) hr1) fun H5 p5 hp5 S5 e5 => ?_⟩
      have s5 := Same.trans' s4 S5
      refine ⟨_, rfl, cat_lit e5 (by simp only [List.length_append, List.length_cons, List.length_nil]; omega) fun H6 p6 hp6 S6 e6 => ?_⟩
      have s6 := Same.trans' s5 S6
      refine ⟨_, rfl, a, _, 3, r2, rfl, rfl, SqT.of (s6 _ _ h1), at_of (j := 3) rfl rfl, cat_rows (ws := l2) e6 (by simp only [List.length_append, List.length_cons, List.length_nil]; omega) (fun z hz => hs z (by simp [hz])) (hmono (Same.tups s6) hr2) fun H7 p7 hp7 S7 e7 => ?_⟩
      have s7 := Same.trans' s6 S7
      refine cat_lit e7 (by simp only [List.length_append, List.length_cons, List.length_nil]; omega) fun H8 p8 hp8 S8 e8 => ?_
      exact k H8 p8 (fresh_of s7 hp8) (by rw [e8]; simp) (Same.trans' s7 S8)
    · have hrz : row.length + 2 ≤ sizeLine := hs row (by simp)
      have hfw := few_words hrow hrz
      simp only [List.length_cons, List.length_append, List.length_nil] at hz hfw
      refine q_ne hV h1 (by decide +kernel) ?_
      refine iteF ?_
      refine q_eq hV h1 rfl ?_
      refine iteT ⟨⟨_, rfl⟩, sz1, fun l hl => ?_⟩
      have s1 := Same.laid (o := .lst [.str "parts"]) hl
      refine ⟨_, rfl, a, _, 1, t, rfl, rfl, SqT.of (s1 _ _ h1), at_of (j := 1) rfl rfl, cat_call (pre := [("parts" : Str)]) (ws := tw) upd_same (by simp only [List.length_append, List.length_cons, List.length_nil]; omega) (ht.mono _ (Same.tups s1)) fun H3 p hp S3 e3 => ?_⟩
      refine ⟨sp1, p, _, rfl, rfl, .inl (SqL.of e3), join_cond hrow hrz, ?_⟩
      rw [show Txt.join sp1 ([("parts" : Str)] ++ tw) = row from (row_is hrow).symm]
      have s3 := Same.trans' s1 S3
      refine ⟨sz1, fun q hq => ?_⟩
      have s4 := Same.trans' s3 (Same.laid (o := .lst [.str row]) hq)
      refine ⟨_, rfl, a, _, 2, _, rfl, rfl, SqT.of (s4 _ _ h1), at_of (j := 2) rfl rfl, c, rfl, ⟨_, SqT.of (s4 _ _ hc)⟩, ?_⟩
      refine for_tup (xs := ps) (fun i σ' H' => ∃ l v2 v3, σ' = [some (.ref a), some (.ref l), v2, v3] ∧ H l = none ∧ Same H H' ∧ H' l = some (.lst ((row :: (pss.take i).flatten).map V.str))) ?_ ?_ ?_ ?_
      · exact ⟨q, _, _, rfl, fresh_of s3 hq, s4, upd_same⟩
      · rintro i σ' H' _ ⟨_, _, _, _, _, S, _⟩
        exact SqT.of (S c _ hc)
      · rintro i x σ' H' hx ⟨l, v2, v3, rfl, hl, S, hl'⟩
        obtain ⟨ws, hws, b, n, r, y, krow, lk, rfl, hb, hy, hkr, hR, rfl⟩ := hps.at' hx
        have hfl := flat_le pss (i + 1)
        rw [flat_take hws, List.length_append, List.length_cons] at hfl
        have hmem : ∀ z ∈ krow :: lk, z.length + 2 ≤ sizeLine := fun z hz => hs z (by
          refine List.mem_cons_of_mem _ (List.mem_append_left _ ?_)
          exact List.mem_flatten.mpr ⟨_, List.mem_of_getElem? hws, hz⟩)
        refine ⟨b, _, rfl, SqT.of (S b _ hb), rfl, _, _, rfl, _, _, rfl, rfl, ?_⟩
        have hy20 := num_len hy
        have e4 : ("key " : Str).length = 4 := by decide +kernel
        refine ⟨_, rfl, _, rfl, n, rfl, numP_lg hy, _, _, rfl, rfl, ?_, ?_⟩
        · rw [num_str hy, e4]
          exact sz1000 (by omega)
        rw [num_str hy, row_key hkr]
        refine cat_lit hl' (by simp only [List.length_append, List.length_cons, List.length_nil]; omega) fun H5 p5 hp5 S5 e5 => ?_
        have s5 := Same.trans' S S5
        refine ⟨_, rfl, cat_rows (ws := lk) e5 (by simp only [List.length_append, List.length_cons, List.length_nil]; omega) (fun z hz => hmem z (List.mem_cons_of_mem _ hz)) (hmono (Same.tups s5) hR) fun H7 p7 hp7 S7 e7 => ?_⟩
        refine ⟨p7, _, _, rfl, fresh_of s5 hp7, Same.trans' s5 S7, ?_⟩
        rw [e7, flat_take hws]
        simp
      · rintro σ' H' ⟨l, v2, v3, rfl, hl, S, hl'⟩
        rw [show pss.take ps.length = pss by rw [hps.len, List.take_length]] at hl'
        refine ⟨_, rfl, cat_lit hl' (by simp only [List.length_append, List.length_cons, List.length_nil]; omega) fun H8 p8 hp8 S8 e8 => ?_⟩
        exact k H8 p8 (fresh_of S hp8) (by rw [e8]; simp) (Same.trans' S S8)
    · have hrz : row.length + 2 ≤ sizeLine := hs row (by simp)
      simp only [List.length_cons, List.length_append, List.length_nil] at hz
      have hx20 := num_len hx
      have hy20 := num_len hy
      have e5 : ("draw " : Str).length = 5 := by decide +kernel
      have e1 : (" " : Str).length = 1 := by decide +kernel
      refine q_ne hV h1 (by decide +kernel) ?_
      refine iteF ?_
      refine q_ne hV h1 (by decide +kernel) ?_
      refine iteF ?_
      refine q_eq hV h1 rfl ?_
      refine iteT ⟨_, rfl, a, _, 1, _, rfl, rfl, SqT.of h1, at_of (j := 1) rfl rfl, m, rfl, numP_lg hx, _, _, rfl, rfl, ?_, _, _, rfl, rfl, ?_, _, rfl, a, _, 2, _, rfl, rfl, SqT.of h1, at_of (j := 2) rfl rfl, n, rfl, numP_lg hy, _, _, rfl, rfl, ?_, sz1, fun l0 hl0 => ?_⟩
      · rw [num_str hx, e5]
        exact sz1000 (by omega)
      · rw [num_str hx, len_tl, tl_append, List.length_append, ← len_tl, ← len_tl, e5, e1]
        exact sz1000 (by omega)
      · rw [num_str hx, num_str hy, len_tl, tl_append, tl_append, List.length_append, List.length_append, ← len_tl, ← len_tl, ← len_tl, e5, e1]
        exact sz1000 (by omega)
      rw [num_str hx, num_str hy, row_draw hrow]
      have s4 := Same.laid (o := .lst [.str row]) hl0
      refine ⟨_, rfl, a, _, 3, r, rfl, rfl, SqT.of (s4 _ _ h1), at_of (j := 3) rfl rfl, cat_rows (pre := [row]) (ws := l) upd_same (by simp only [List.length_append, List.length_cons, List.length_nil]; omega) (fun z hz => hs z (by simp [hz])) (hmono (Same.tups s4) hR) fun H5 p5 hp5 S5 e5 => ?_⟩
      have s5 := Same.trans' s4 S5
      refine cat_lit e5 (by simp only [List.length_append, List.length_cons, List.length_nil]; omega) fun H8 p8 hp8 S8 e8 => ?_
      exact k H8 p8 (fresh_of s5 hp8) (by rw [e8]; simp) (Same.trans' s5 S8)
    · have hrz : row.length + 2 ≤ sizeLine := hs row (by simp)
      have hfw := few_words hrow hrz
      simp only [List.length_cons, List.length_append, List.length_nil] at hz hfw
      refine q_ne hV h1 (by decide +kernel) ?_
      refine iteF ?_
      refine q_ne hV h1 (by decide +kernel) ?_
      refine iteF ?_
      refine q_ne hV h1 (by decide +kernel) ?_
      refine iteF ⟨⟨_, rfl⟩, sz1, fun l0 hl => ?_⟩
      have s1 := Same.laid (o := .lst [.str "on"]) hl
      refine ⟨_, rfl, a, _, 1, u, rfl, rfl, SqT.of (s1 _ _ h1), at_of (j := 1) rfl rfl, cat_call (pre := [("on" : Str)]) (ws := uw) upd_same (by simp only [List.length_append, List.length_cons, List.length_nil]; omega) (hu.mono _ (Same.tups s1)) fun H3 p hp S3 e3 => ?_⟩
      refine ⟨sp1, p, _, rfl, rfl, .inl (SqL.of e3), join_cond hrow hrz, ?_⟩
      rw [show Txt.join sp1 ([("on" : Str)] ++ uw) = row from (row_is hrow).symm]
      have s3 := Same.trans' s1 S3
      refine ⟨sz1, fun q hq => ?_⟩
      have s4 := Same.trans' s3 (Same.laid (o := .lst [.str row]) hq)
      refine ⟨_, rfl, a, _, 2, r, rfl, rfl, SqT.of (s4 _ _ h1), at_of (j := 2) rfl rfl, cat_rows (pre := [row]) (ws := l) upd_same (by simp only [List.length_append, List.length_cons, List.length_nil]; omega) (fun z hz => hs z (by simp [hz])) (hmono (Same.tups s4) hR) fun H5 p5 hp5 S5 e5 => ?_⟩
      have s5 := Same.trans' s4 S5
      refine cat_lit e5 (by simp only [List.length_append, List.length_cons, List.length_nil]; omega) fun H8 p8 hp8 S8 e8 => ?_
      exact k H8 p8 (fresh_of s5 hp8) (by rw [e8]; simp) (Same.trans' s5 S8)
theorem ok_block_no (T : Txt K mg w) : FnOk P w K mg base CX0 27 T.block_rows.f T.block_rows.fd ["statement"] (spRows fun _ _ _ => False) :=
  (T.block_rows.F.ok sc_block_rows (sp := fun _ _ _ _ => False) (fun _ _ _ _ h => h.elim) (fun _ _ _ _ _ _ _ _ _ h => h.elim)).imp fun _ _ _ _ h => by
    obtain ⟨_, _, _, h, _⟩ := h
    exact h
theorem block_head {R : V → Ws → Prop} {H : Hp} {v : V} {ls : Ws} (h : BlockOf R H v ls) : ∃ a x tl, v = .ref a ∧ H a = some (.tup (.str x :: tl)) ∧ x ≠ "pick" ∧ x ≠ "ask" ∧ x ≠ "flat" := by
  obtain ⟨a, row, rfl, h⟩ := h
  rcases h with ⟨u, tw, r1, r2, l1, l2, h1, _⟩ | ⟨u, tw, c, ps, pss, h1, _⟩ | ⟨m, n, x, y, r, l, h1, _⟩ | ⟨u, uw, r, l, h1, _⟩
  · exact ⟨a, _, _, rfl, h1, by decide +kernel, by decide +kernel, by decide +kernel⟩
  · exact ⟨a, _, _, rfl, h1, by decide +kernel, by decide +kernel, by decide +kernel⟩
  · exact ⟨a, _, _, rfl, h1, by decide +kernel, by decide +kernel, by decide +kernel⟩
  · exact ⟨a, _, _, rfl, h1, by decide +kernel, by decide +kernel, by decide +kernel⟩
theorem ok_stm (T : Txt K mg w) : ∀ k : Nat, FnOk P w K mg base CX0 (28 + 3 * k) T.statement_rows.f T.statement_rows.fd ["statement"] (spRows (StmAt k))
  | 0 => (ok_stm_of T (fun h => h.elim) (ok_block_no T) (by decide)).imp fun vs H Q E h => by
    obtain ⟨v, ls, e, hA, r⟩ := h
    exact ⟨v, ls, e, .inl hA, r⟩
  | k + 1 => ok_stm_of T (fun h => block_head h) (ok_block_of T (fun t h => RowsAt.mono t h) (ok_all_of T (fun t h => StmAt.mono k t h) (ok_stm T k)) (show 26 ≤ 28 + 3 * k + 1 by omega)) (show 27 ≤ 28 + 3 * k + 1 + 1 by omega)
theorem ok_all (T : Txt K mg w) : FnOk P w K mg base CX0 47 T.all_rows.f T.all_rows.fd ["rows"] (spRows (RowsAt 6)) := ok_all_of T (fun t h => StmAt.mono 6 t h) (ok_stm T 6)
def sp_written : Sp := fun vs H Q _ => ∃ v text, vs = [v] ∧ ProgAt H v (rowsOf text) ∧ text.length + 4 ≤ sizeLine ∧ ∀ H', Same H H' → Q (.str text) H'
theorem sc_written : FnScope ["program"] ["program"] (defScope (top 40)) := ⟨rfl, rfl, rfl, by decide +kernel, rfl, by decide +kernel, by decide +kernel⟩
theorem ok_written (T : Txt K mg w) : FnOk P w K mg base CX0 48 T.written.f T.written.fd ["program"] sp_written := by
  refine T.written.F.ok sc_written (fun vs H Q E h => ?_) (fun cdv A outer s H vs Q E hr h => ?_)
  · obtain ⟨v, text, rfl, _⟩ := h
    rfl
  · obtain ⟨v, text, rfl, hP, hz, k⟩ := h
    refine ⟨_, (pss_one (ps_ret (pe_join pe_str (pe_op op_cat (pe_lst (pa_cons (pe_op op_add_str pe_str (pe_callTy call_str_int (by rfl) T.n_str (by decide +kernel) (pa_cons (pe_ix ix_tup (pv 0) pe_int (fun _ _ => rfl)) pa_nil))) pa_nil)) (pe_call ((ok_all T)) (hr.mono (by first | decide | omega)) rfl T.all_rows.g T.all_rows.F.kp T.all_rows.b .nil pass0 (pa_cons (pe_ix ix_tup (pv 0) pe_int (fun _ _ => rfl)) pa_nil)))))), ?_⟩
    obtain ⟨a, n, x, r0, t, ls, rfl, h1, hx, hr0, hR, er⟩ := hP
    have hcnt := rows_cnt text
    rw [er, List.length_cons] at hcnt
    have hx20 := num_len hx
    have e6 : ("width " : Str).length = 6 := by decide +kernel
    refine ⟨⟨_, rfl⟩, _, rfl, a, _, 0, _, rfl, rfl, SqT.of h1, at_of (j := 0) rfl rfl, n, rfl, numP_lg hx, _, _, rfl, rfl, ?_, sz1, fun l hl => ?_⟩
    · rw [num_str hx, e6]
      exact sz1000 (by omega)
    rw [num_str hx, row_width hr0]
    have s1 := Same.laid (o := .lst [.str r0]) hl
    refine ⟨_, rfl, a, _, 1, t, rfl, rfl, SqT.of (s1 _ _ h1), at_of (j := 1) rfl rfl, cat_rows (pre := [r0]) (ws := ls) upd_same (by simp only [List.length_append, List.length_cons, List.length_nil]; omega) (fun z hz2 => ?_) (RowsAt.mono (Same.tups s1) hR) fun H5 p5 hp5 S5 e5 => ?_⟩
    · have := rows_sm text (x := z) (by rw [er]; exact List.mem_cons_of_mem _ hz2)
      omega
    have ej : Txt.join nl1 ([r0] ++ ls) = text := by
      rw [show [r0] ++ ls = rowsOf text from er.symm, join_rows]
    refine ⟨nl1, p5, _, rfl, rfl, .inl (SqL.of e5), ?_, ?_⟩
    · have := join_sum (y := nl1) ([r0] ++ ls)
      rw [ej] at this
      have e1 : nl1.length = 1 := by decide +kernel
      have e2 : sizeLine = 16777216 := rfl
      omega
    · rw [ej]
      exact k H5 (Same.trans' s1 S5)
end
end BD
/-! W18: the law's own small defs; leaves and terms made. -/
namespace BD
open PySem PySem.Spec L2 TL
open PyProof.Rows hiding St
local macro_rules | `(tactic| walk_at "p") => `(tactic| (show (0 : Int) < _; decide))
/-- the signs of words with one blank each -/
def wt (ws : Ws) : Nat := (ws.map (·.length + 1)).sum
theorem wt_nil : wt [] = 0 := rfl
theorem wt_cons (w : Str) (ws : Ws) : wt (w :: ws) = w.length + 1 + wt ws := by unfold wt; rw [List.map_cons, List.sum_cons]
theorem wt_app (a b : Ws) : wt (a ++ b) = wt a + wt b := by unfold wt; rw [List.map_append, List.sum_append]
theorem wt_len (ws : Ws) : ws.length ≤ wt ws := by
  induction ws with
  | nil => exact Nat.le_refl _
  | cons w ws ih => rw [wt_cons, List.length_cons]; omega
theorem join_wt (y : Str) (hy : y.length = 1) (ws : Ws) : (Txt.join y ws).length ≤ wt ws := by
  rw [join_eq, len_tl, tl_join]
  induction ws with
  | nil => simp [joinL]
  | cons a r ih =>
    rw [wt_cons]
    cases r with
    | nil =>
      show (tl a).length ≤ _
      rw [len_tl]
      omega
    | cons b r =>
      show (tl a ++ (tl y ++ joinL (tl y) ((b :: r).map tl))).length ≤ _
      rw [List.length_append, List.length_append, ← len_tl a, ← len_tl y, hy]
      omega
theorem mod_at {α : Type} {l : List α} {c n : Int} (hn : n = l.length) (h : 0 < n) : ∃ j x, c % n = ((j : Nat) : Int) ∧ l[j]? = some x := by
  have h1 := Int.emod_nonneg c (show n ≠ 0 by omega)
  have h2 := Int.emod_lt_of_pos c h
  refine ⟨(c % n).toNat, l[(c % n).toNat]'(by omega), by omega, List.getElem?_eq_getElem _⟩
/-- words that are made: eaten by f, no blank or row end, no more than b signs -/
def WB (f : Ws → Option Ws) (b : Nat) (ws : Ws) : Prop := Eat f ws ∧ GWs ws ∧ wt ws ≤ b
def spMade (f : Ws → Option Ws) (b : Nat) (ok : List V → Hp → Prop) : Sp := fun vs H Q _ => ok vs H ∧ ∀ H' p v l ws, H' p = some (.tup [v, .ref l]) → H' l = some (.lst (ws.map V.str)) → WB f b ws → Same H H' → Q (.ref p) H'
abbrev E19 : Int := 10 ^ 19
def wordsL : Ws := ["a", "of", "add", "zzzzzzzz", "all", "pick", "not", "end", "key", "quo", "width", "sum"]
theorem wordsL_nm : ∀ x ∈ wordsL, isNm x = true ∧ x ≠ "." := by decide +kernel
theorem e18 : (10 : Int) ^ (18 : Int).toNat = 1000000000000000000 := by decide
theorem isNm_len {x : Str} (h : isNm x = true) : x.length ≤ 8 := by
  unfold isNm at h
  simp only [Bool.and_eq_true, decide_eq_true_eq] at h
  exact h.1.2
def arL : Ws := ["not", "add", "sub", "mul", "quo", "less", "same", "both", "any", "pick"]
theorem arL_iff (x : Str) : x ∈ arL ↔ (arity x).isSome = true := by
  unfold arity
  constructor
  · intro h
    repeat (rcases List.mem_cons.mp h with rfl | h; · decide +kernel)
    cases h
  · intro h
    repeat (split at h; · rename_i e; rw [e]; decide +kernel)
    cases h
theorem inV_strs (x : Str) : ∀ l : Ws, inV (.str x) (l.map V.str) = decide (x ∈ l) := fun l => by
  induction l with
  | nil => rfl
  | cons a l ih =>
    show ((a == x) || inV (.str x) (l.map V.str)) = _
    rw [ih]
    by_cases h : a = x
    · subst h
      simp
    · have h1 : (a == x) = false := beq_eq_false_iff_ne.mpr h
      have h2 : x ≠ a := fun z => h z.symm
      simp [h1, h2]
section
variable {P : Program} {w : World} {K : PySem.W.Frag} {mg : Str → Option Value} {base : Heap}
def sp_whole : Sp := fun vs H Q _ => ∃ n : Int, vs = [.int n] ∧ Q (.bl true) H
theorem sc__law_whole : FnScope ["_law_found"] ["_law_found"] (defScope (top 42)) := ⟨rfl, rfl, rfl, by decide +kernel, rfl, by decide +kernel, by decide +kernel⟩
theorem ok__law_whole (T : Txt K mg w) : FnOk P w K mg base CX0 1 T._law_whole.f T._law_whole.fd ["_law_found"] sp_whole := by
  refine T._law_whole.F.ok sc__law_whole (fun vs H Q E h => ?_) (fun cdv A outer s H vs Q E hr h => ?_)
  · obtain ⟨n, rfl, _⟩ := h
    rfl
  · obtain ⟨n, rfl, k⟩ := h
    refine ⟨_, (pss_one (ps_ret (pe_and (pe_callB call_isi (by rfl) T.n_isinstance (by decide +kernel) (pa_cons (pv 0) (pa_cons (pe_bltn (v := .ty "int") (u := .type "int") rfl T.n_int (by decide +kernel) rfl) pa_nil))) (pe_one (pe_not (pe_callB call_isi (by rfl) T.n_isinstance (by decide +kernel) (pa_cons (pv 0) (pa_cons (pe_bltn (v := .ty "bool") (u := .type "bool") rfl T.n_bool (by decide +kernel) rfl) pa_nil)))))))), ?_⟩
    exact ⟨_, rfl, ⟨_, _, _, _, true, rfl, .ty _, .base (.int _), kit_ty (by decide +kernel), _, rfl, iteT ⟨_, rfl, ⟨_, _, _, _, false, rfl, .ty _, .base (.int _), kit_ty (by decide +kernel), _, rfl, k⟩⟩⟩⟩
def sp_at (K : PySem.W.Frag) : Sp := fun vs H Q _ => ∃ (a : Addr) (ns : List Int) (k : Int), vs = [.ref a, .int k] ∧ SqL K H a (ns.map V.int) ∧ ns.length ≤ 63 ∧ 0 ≤ k ∧ k ≤ 1000 ∧ ∀ z, Q (.int z) H
theorem sc__law_at : FnScope ["_law_cells", "_law_k"] ["_law_cells", "_law_k"] (defScope (top 43)) := ⟨rfl, rfl, rfl, by decide +kernel, rfl, by decide +kernel, by decide +kernel⟩
theorem ok__law_at (T : Txt K mg w) : FnOk P w K mg base CX0 1 T._law_at.f T._law_at.fd ["_law_cells", "_law_k"] (sp_at K) := by
  refine T._law_at.F.ok sc__law_at (fun vs H Q E h => ?_) (fun cdv A outer s H vs Q E hr h => ?_)
  · obtain ⟨a, ns, k, rfl, _⟩ := h
    rfl
  · obtain ⟨a, ns, k, rfl, ha, hn, h0, h1, kk⟩ := h
    refine ⟨_, (pss_cons (ps_if (pt_cmpR op_eq (pe_callB call_len_seq (by rfl) T.n_len (by decide +kernel) (pa_cons (pv 0) pa_nil)) pe_int (nomark _)) (pss_one (ps_ret (pe_op op_add (pe_op op_mul (pv 1) (pv 1)) (pe_op op_mul pe_int (pv 1))))) pss_nil)
      (pss_one (ps_ret (pe_op op_add (pe_op op_fdiv (pe_ix ix_list (pv 0) (pe_op op_mod (pv 1) (pe_callB call_len_seq (by rfl) T.n_len (by decide +kernel) (pa_cons (pv 0) pa_nil))) (fun _ _ => rfl)) (pe_op op_add pe_int (pe_op op_fdiv (pv 1) (pe_callB call_len_seq (by rfl) T.n_len (by decide +kernel) (pa_cons (pv 0) pa_nil))))) (pe_op op_mul (pv 1) (pv 1)))))), ?_⟩
    refine ⟨_, rfl, a, _, rfl, .inl ha, rfl, _, rfl, ?_⟩
    cases ns with
    | nil =>
      rw [decide_eq_true (show V.int (((([] : List Int).map V.int).length : Nat) : Int) = V.int 0 from rfl)]
      exact iteT ⟨_, rfl, _, rfl, _, _, rfl, rfl, .inl ⟨by omega, by omega⟩, _, rfl, _, _, rfl, rfl, .inl ⟨by decide, by decide⟩, _, _, rfl, rfl, kk _⟩
    | cons z zs =>
      rw [decide_eq_false (by intro z; injection z with z; simp at z; omega)]
      have hl : (((z :: zs).map V.int).length : Int) = ((z :: zs).map V.int).length := rfl
      have hpos : (0 : Int) < (((z :: zs).map V.int).length : Nat) := by simp
      have h63 : (((z :: zs).map V.int).length : Nat) ≤ 63 := by rw [List.length_map]; exact hn
      obtain ⟨j, x, ej, hx⟩ := mod_at (l := (z :: zs).map V.int) (c := k) hl hpos
      have hx2 : ∃ m, x = .int m := by
        have := List.mem_of_getElem? hx
        obtain ⟨m, _, e⟩ := List.mem_map.mp this
        exact ⟨m, e.symm⟩
      obtain ⟨m, rfl⟩ := hx2
      refine iteF ⟨_, rfl, _, rfl, _, rfl, a, _, rfl, .inl ha, _, _, rfl, rfl, hpos, a, _, _, .int m, rfl, rfl, ha, at_of ej hx, _, rfl, _, rfl, a, _, rfl, .inl ha, _, _, rfl, rfl, ⟨hpos, by omega⟩, _, _, rfl, rfl, _, _, rfl, rfl, ⟨?_, ?_⟩, _, rfl, _, rfl, _, _, rfl, rfl, .inl ⟨by omega, by omega⟩, _, _, rfl, rfl, kk _⟩
      · have := Int.ediv_nonneg h0 (show (0 : Int) ≤ (((z :: zs).map V.int).length : Nat) by omega)
        omega
      · have := Int.ediv_le_self (((z :: zs).map V.int).length : Nat) h0
        omega
def sp_big : Sp := fun vs H Q _ => ∃ c : Int, vs = [.int c] ∧ ∀ n H', -E19 < n → n < E19 → Same H H' → Q (.int n) H'
theorem sc__law_big : FnScope ["_law_cell"] ["_law_cell"] (defScope (top 44)) := ⟨rfl, rfl, rfl, by decide +kernel, rfl, by decide +kernel, by decide +kernel⟩
theorem ok__law_big (T : Txt K mg w) : FnOk P w K mg base CX0 1 T._law_big.f T._law_big.fd ["_law_cell"] sp_big := by
  refine T._law_big.F.ok sc__law_big (fun vs H Q E h => ?_) (fun cdv A outer s H vs Q E hr h => ?_)
  · obtain ⟨c, rfl, _⟩ := h
    rfl
  · obtain ⟨c, rfl, k⟩ := h
    refine ⟨_, (pss_cons (ps_if (pt_cmpR op_eq (pe_op op_mod (pv 0) pe_int) pe_int (nomark _)) (pss_one (ps_ret (pe_ix ix_list (pe_lst (pa_cons pe_int (pa_cons (pe_op op_pow pe_int pe_int) (pa_cons (pe_un un_neg (pe_op op_pow pe_int pe_int)) (pa_cons (pe_un un_neg pe_int) (pa_cons pe_int (pa_cons pe_int (pa_cons (pe_un un_neg pe_int) pa_nil)))))))) (pe_op op_mod (pe_op op_fdiv (pv 0) pe_int) pe_int) (fun _ _ => rfl)))) pss_nil)
      (pss_cons (ps_if (pt_cmpR op_eq (pe_op op_mod (pv 0) pe_int) pe_int (nomark _)) (pss_one (ps_ret (pe_op op_sub (pe_op op_mod (pe_op op_fdiv (pv 0) pe_int) (pe_op op_add (pe_op op_mul pe_int (pe_op op_pow pe_int pe_int)) pe_int)) (pe_op op_pow pe_int pe_int)))) pss_nil)
      (pss_one (ps_ret (pe_op op_sub (pe_op op_mod (pe_op op_fdiv (pv 0) pe_int) pe_int) pe_int))))), ?_⟩
    refine ⟨_, rfl, _, _, rfl, rfl, by walk_at "p", rfl, _, rfl, ?_⟩
    refine ite2 (fun _ => ?_) (fun _ => ?_)
    · refine ⟨_, _, rfl, rfl, ⟨by decide, by decide, by decide⟩, _, _, rfl, rfl, ⟨by decide, by decide, by decide⟩, _, rfl, _, rfl, _, rfl, sz1000 (by decide), fun l hl => ?_⟩
      refine ⟨_, rfl, _, _, rfl, rfl, ⟨by decide, by decide⟩, _, _, rfl, rfl, by walk_at "p", ?_⟩
      obtain ⟨j, x, ej, hx⟩ := mod_at (l := [V.int 0, .int (10 ^ (18 : Int).toNat), .int (-(10 ^ (18 : Int).toNat)), .int (-1), .int 7, .int 9999999999999999999, .int (-9999999999999999999)]) (c := c / 4) (n := 7) rfl (by decide)
      have hx2 : ∃ m, x = .int m ∧ -E19 < m ∧ m < E19 := by
        have := List.mem_of_getElem? hx
        simp only [List.mem_cons, List.not_mem_nil, or_false] at this
        rcases this with h | h | h | h | h | h | h <;> exact ⟨_, h, by decide, by decide⟩
      obtain ⟨m, rfl, b1, b2⟩ := hx2
      exact ⟨l, _, _, .int m, rfl, rfl, SqL.of upd_same, at_of ej hx, k m _ b1 b2 (Same.laid hl)⟩
    refine ⟨_, rfl, _, _, rfl, rfl, by walk_at "p", rfl, _, rfl, ?_⟩
    refine ite2 (fun _ => ?_) (fun _ => ?_)
    · refine ⟨_, rfl, _, _, rfl, rfl, ⟨by decide, by decide⟩, _, _, rfl, rfl, ⟨by decide, by decide, by decide⟩, _, _, rfl, rfl, .inl ⟨by decide, by decide⟩, _, _, rfl, rfl, _, _, rfl, rfl, by walk_at "p", _, _, rfl, rfl, ⟨by decide, by decide, by decide⟩, _, _, rfl, rfl, ?_⟩
      rw [e18]
      have h1 := Int.emod_nonneg (c / 4) (show (2 * 1000000000000000000 + 1 : Int) ≠ 0 by decide)
      have h2 := Int.emod_lt_of_pos (c / 4) (show (0 : Int) < 2 * 1000000000000000000 + 1 by decide)
      exact k _ _ (by unfold E19; omega) (by unfold E19; omega) (fun _ _ e => e)
    · refine ⟨_, rfl, _, _, rfl, rfl, ⟨by decide, by decide⟩, _, _, rfl, rfl, by walk_at "p", _, _, rfl, rfl, ?_⟩
      exact k _ _ (by unfold E19; omega) (by unfold E19; omega) (fun _ _ e => e)
def sp_wordof : Sp := fun vs H Q _ => ∃ c : Int, vs = [.int c] ∧ ∀ x H', x ∈ wordsL → Same H H' → Q (.str x) H'
theorem sc__law_word_of : FnScope ["_law_cell", "_law_some"] ["_law_cell"] (defScope (top 45)) := ⟨rfl, rfl, rfl, by decide +kernel, rfl, by decide +kernel, by decide +kernel⟩
theorem ok__law_word_of (T : Txt K mg w) : FnOk P w K mg base CX0 1 T._law_word_of.f T._law_word_of.fd ["_law_cell"] sp_wordof := by
  refine T._law_word_of.F.ok sc__law_word_of (fun vs H Q E h => ?_) (fun cdv A outer s H vs Q E hr h => ?_)
  · obtain ⟨c, rfl, _⟩ := h
    rfl
  · obtain ⟨c, rfl, k⟩ := h
    refine ⟨_, (pss_cons (ps_set (i := 1) sc__law_word_of.nd rfl (Or.inl rfl) (pe_lst (pa_strs (by rfl))))
      (pss_one (ps_ret (pe_ix ix_list (pv 1) (pe_op op_mod (pv 0) pe_int) (fun _ _ => rfl))))), ?_⟩
    refine ⟨(sz1000 (by decide) : (wordsL.map V.str).length ≤ sizeLine), fun l hl => ?_⟩
    obtain ⟨j, x, ej, hx⟩ := mod_at (l := wordsL.map V.str) (c := c) (n := 12) rfl (by decide)
    obtain ⟨y, hy, rfl⟩ := List.mem_map.mp (List.mem_of_getElem? hx)
    exact ⟨_, rfl, _, rfl, _, _, rfl, rfl, by walk_at "p", l, wordsL.map V.str, _, .str y, rfl, rfl, SqL.of upd_same, at_of ej hx, k y _ hy (Same.laid hl)⟩
end
end BD
/-! W19: leaves and terms made. -/
namespace BD
open PySem PySem.Spec L2 TL
open PyProof.Rows hiding St
local macro_rules | `(tactic| walk_at "p") => `(tactic| (show (0 : Int) < _; decide))
theorem cat_ll {H1 : Hp} {l b : Addr} {pre ws : Ws} {Q : VK} (hl : H1 l = some (.lst (pre.map V.str))) (hb : H1 b = some (.lst (ws.map V.str))) (hz : pre.length + ws.length ≤ 16000000) (q : ∀ H3 p, H1 p = none → Same H1 H3 → H3 p = some (.lst ((pre ++ ws).map V.str)) → Q (.ref p) H3) :
    rCat (.ref l) (.ref b) H1 Q := ⟨l, b, _, _, rfl, rfl, hl, hb, by rw [List.length_map, List.length_map, show sizeLine = 16777216 from rfl]; omega, fun p hp => q _ p hp (Same.laid hp) (by rw [upd_same, List.map_append])⟩
theorem quotedL : ∀ x ∈ wordsL, x ∈ arL → (tl (("'" : Str) ++ x)).take 1 = [39] ∧ (arity (tailW (("'" : Str) ++ x))).isSome = true ∧ arity (("'" : Str) ++ x) = none ∧ ("'" : Str) ++ x ≠ "." ∧ 32 ∉ tl (("'" : Str) ++ x) ∧ 10 ∉ tl (("'" : Str) ++ x) ∧ (("'" : Str) ++ x).length ≤ 9 := by decide +kernel
def opL : Ws := ["add", "sub", "mul", "quo", "less", "same", "both", "any"]
theorem opL_ok : ∀ x ∈ opL, arity x = some 2 ∧ x ≠ "." ∧ 32 ∉ tl x ∧ 10 ∉ tl x ∧ x.length ≤ 4 := by decide +kernel
theorem gws_one {x : Str} (h : GW x) : GWs [x] := gws_cons h gws_nil
theorem wt_one (x : Str) : wt [x] = x.length + 1 := by rw [wt_cons, wt_nil]
theorem strI_5 : strI (5 : Int) = "5" := by decide +kernel
theorem dot_gw : GW (("." : Str)) := by unfold GW; decide +kernel
theorem not_gw : GW (("not" : Str)) := by unfold GW; decide +kernel
theorem pick_gw : GW (("pick" : Str)) := by unfold GW; decide +kernel
theorem five_gw : GW (("5" : Str)) := by unfold GW; decide +kernel
theorem E19_lg {n : Int} (h1 : -E19 < n) (h2 : n < E19) : n.natAbs.log2 < 1920 := lg_small (by unfold E19 at h1 h2; omega)
theorem WB.len {f : Ws → Option Ws} {b : Nat} {ws : Ws} (h : WB f b ws) : ws.length ≤ b := Nat.le_trans (wt_len ws) h.2.2
section
variable {P : Program} {w : World} {K : PySem.W.Frag} {mg : Str → Option Value} {base : Heap}
abbrev okI : List V → Hp → Prop := fun vs _ => ∃ c : Int, vs = [.int c]
theorem sc__law_leaf_by : FnScope ["_law_cell", "_law_way", "_law_name"] ["_law_cell"] (defScope (top 46)) := ⟨rfl, rfl, rfl, by decide +kernel, rfl, by decide +kernel, by decide +kernel⟩
theorem ok__law_leaf_by (T : Txt K mg w) : FnOk P w K mg base CX0 2 T._law_leaf_by.f T._law_leaf_by.fd ["_law_cell"] (spMade (termP 1) 24 okI) := by
  refine T._law_leaf_by.F.ok sc__law_leaf_by (fun vs H Q E h => ?_) (fun cdv A outer s H vs Q E hr h => ?_)
  · obtain ⟨⟨c, rfl⟩, _⟩ := h
    rfl
  · obtain ⟨⟨c, rfl⟩, k⟩ := h
    refine ⟨_, (pss_cons (ps_set (i := 1) sc__law_leaf_by.nd rfl (Or.inl rfl) (pe_op op_mod (pv 0) pe_int))
      (pss_cons (ps_if (pt_cmpR op_eq (pv 1) pe_int (nomark _)) (pss_one (ps_ret (pe_tup (pa_cons (pe_tup (pa_cons pe_str (pa_cons (pe_op op_mod (pe_op op_fdiv (pv 0) pe_int) pe_int) pa_nil))) (pa_cons (pe_lst (pa_cons pe_str (pa_cons (pe_callTy call_str_int (by rfl) T.n_str (by decide +kernel) (pa_cons (pe_op op_mod (pe_op op_fdiv (pv 0) pe_int) pe_int) pa_nil)) pa_nil))) pa_nil))))) pss_nil)
      (pss_cons (ps_if (pt_cmpR op_eq (pv 1) pe_int (nomark _)) (pss_cons (ps_set (i := 2) sc__law_leaf_by.nd rfl (Or.inl rfl) (pe_call (ok__law_word_of T) (hr.mono (by first | decide | omega)) rfl T._law_word_of.g T._law_word_of.F.kp T._law_word_of.b .nil pass0 (pa_cons (pe_op op_fdiv (pv 0) pe_int) pa_nil)))
      (pss_cons (ps_if (pt_cmpR op_in_seq (pv 2) (pe_tup (pa_strs (by rfl))) rfl) (pss_one (ps_ret (pe_tup (pa_cons (pe_tup (pa_cons pe_str (pa_cons (pv 2) pa_nil))) (pa_cons (pe_lst (pa_cons (pe_op op_add_str pe_str (pv 2)) pa_nil)) pa_nil))))) pss_nil)
      (pss_one (ps_ret (pe_tup (pa_cons (pe_tup (pa_cons pe_str (pa_cons (pv 2) pa_nil))) (pa_cons (pe_lst (pa_cons (pv 2) pa_nil)) pa_nil))))))) pss_nil)
      (pss_one (ps_ret (pe_tup (pa_cons (pe_tup (pa_cons pe_str (pa_cons (pe_call (ok__law_big T) (hr.mono (by first | decide | omega)) rfl T._law_big.g T._law_big.F.kp T._law_big.b .nil pass0 (pa_cons (pe_op op_fdiv (pv 0) pe_int) pa_nil)) pa_nil))) (pa_cons (pe_lst (pa_cons (pe_callTy call_str_int (by rfl) T.n_str (by decide +kernel) (pa_cons (pe_call (ok__law_big T) (hr.mono (by first | decide | omega)) rfl T._law_big.g T._law_big.F.kp T._law_big.b .nil pass0 (pa_cons (pe_op op_fdiv (pv 0) pe_int) pa_nil)) pa_nil)) pa_nil)) pa_nil)))))))), ?_⟩
    refine ⟨_, rfl, _, _, rfl, rfl, by walk_at "p", ?_⟩
    refine ⟨_, rfl, rfl, _, rfl, ?_⟩
    refine ite2 (fun _ => ?_) (fun _ => ?_)
    · have b1 := Int.emod_nonneg (c / 3) (show (12 : Int) ≠ 0 by decide)
      have b2 := Int.emod_lt_of_pos (c / 3) (show (0 : Int) < 12 by decide)
      have c1 : -E19 < c / 3 % 12 := by unfold E19; omega
      have c2 : c / 3 % 12 < E19 := by unfold E19; omega
      refine ⟨_, rfl, _, _, rfl, rfl, ⟨by decide, by decide⟩, _, _, rfl, rfl, by walk_at "p", sz2, fun t ht => ?_⟩
      refine ⟨_, rfl, _, _, rfl, rfl, ⟨by decide, by decide⟩, _, _, rfl, rfl, by walk_at "p", _, rfl, E19_lg c1 c2, sz2, fun l hl => ⟨sz2, fun p hp => ?_⟩⟩
      refine k _ p _ l [(("." : Str)), strI (c / 3 % 12)] upd_same (Same.laid hp _ _ upd_same) ⟨eat_field b1 c2, gws_cons dot_gw (gws_one (gw_strI c1 c2)), ?_⟩ (Same.trans' (Same.trans' (Same.laid ht) (Same.laid hl)) (Same.laid hp))
      rw [wt_cons, wt_one]
      have := strI_len c1 c2
      have e1 : (("." : Str)).length = 1 := by decide +kernel
      omega
    refine ⟨_, rfl, rfl, _, rfl, ?_⟩
    refine ite2 (fun _ => ?_) (fun _ => ?_)
    · refine ⟨_, rfl, _, _, rfl, rfl, ⟨by decide, by decide⟩, _, rfl, fun x H1 hx S1 => ?_⟩
      refine ⟨_, rfl, (sz1000 (by decide) : (arL.map V.str).length ≤ sizeLine), fun q hq => ⟨q, arL.map V.str, rfl, .inr (SqT.of upd_same), rfl, rfl, _, rfl, ?_⟩⟩
      have s2 : Same H (upd H1 q (.tup (arL.map V.str))) := Same.trans' S1 (Same.laid hq)
      show if inV (.str x) (arL.map V.str) = true then _ else _
      rw [inV_strs]
      refine ite2 (fun h => ?_) (fun h => ?_)
      · obtain ⟨q1, q2, q3, q4, q5, q6, q7⟩ := quotedL x hx (of_decide_eq_true h)
        have := isNm_len (wordsL_nm x hx).1
        refine ⟨_, rfl, sz2, fun t ht => ⟨_, rfl, _, _, rfl, rfl, sz1000 ?_, sz1, fun l hl => ⟨sz2, fun p hp => ?_⟩⟩⟩
        · have e1 : ("'" : Str).length = 1 := by decide +kernel
          rw [e1]
          omega
        refine k _ p _ l [("'" : Str) ++ x] upd_same (Same.laid hp _ _ upd_same) ⟨eat_quoted q1 q2 q3 q4, gws_one ⟨q5, q6⟩, ?_⟩ (Same.trans' (Same.trans' (Same.trans' s2 (Same.laid ht)) (Same.laid hl)) (Same.laid hp))
        rw [wt_one]
        omega
      · have h1 : x ∉ arL := of_decide_eq_false (by simpa using h)
        have ha : arity x = none := by
          cases e : arity x with
          | none => rfl
          | some k => exact absurd ((arL_iff x).mpr (by rw [e]; rfl)) h1
        have hn := wordsL_nm x hx
        have := isNm_len hn.1
        refine ⟨_, rfl, sz2, fun t ht => ⟨_, rfl, sz1, fun l hl => ⟨sz2, fun p hp => ?_⟩⟩⟩
        refine k _ p _ l [x] upd_same (Same.laid hp _ _ upd_same) ⟨eat_name hn.1 ha hn.2, gws_one (gw_nm hn.1), ?_⟩ (Same.trans' (Same.trans' (Same.trans' s2 (Same.laid ht)) (Same.laid hl)) (Same.laid hp))
        rw [wt_one]
        omega
    · refine ⟨_, rfl, _, _, rfl, rfl, ⟨by decide, by decide⟩, _, rfl, fun n0 H1 _ _ S1 => ⟨sz2, fun t ht => ?_⟩⟩
      refine ⟨_, rfl, _, _, rfl, rfl, ⟨by decide, by decide⟩, _, rfl, fun n H2 c1 c2 S2 => ⟨n, rfl, E19_lg c1 c2, sz1, fun l hl => ⟨sz2, fun p hp => ?_⟩⟩⟩
      refine k _ p _ l [strI n] upd_same (Same.laid hp _ _ upd_same) ⟨eat_num c1 c2, gws_one (gw_strI c1 c2), ?_⟩ (Same.trans' (Same.trans' (Same.trans' (Same.trans' S1 (Same.laid ht)) S2) (Same.laid hl)) (Same.laid hp))
      rw [wt_one]
      have := strI_len c1 c2
      omega
theorem sc__law_term_by : FnScope ["_law_cell", "_law_one", "_law_words", "_law_way", "_law_two", "_law_more", "_law_op", "_law_k"] ["_law_cell"] (defScope (top 47)) := ⟨rfl, rfl, rfl, by decide +kernel, rfl, by decide +kernel, by decide +kernel⟩
theorem ok__law_term_by (T : Txt K mg w) : FnOk P w K mg base CX0 3 T._law_term_by.f T._law_term_by.fd ["_law_cell"] (spMade (termP 14) 130 okI) := by
  refine T._law_term_by.F.ok sc__law_term_by (fun vs H Q E h => ?_) (fun cdv A outer s H vs Q E hr h => ?_)
  · obtain ⟨⟨c, rfl⟩, _⟩ := h
    rfl
  · obtain ⟨⟨c, rfl⟩, k⟩ := h
    refine ⟨_, (pss_cons (ps_set (i := 0) sc__law_term_by.nd rfl (Or.inl rfl) (pe_op op_mod (pv 0) (pe_op op_pow pe_int pe_int)))
      (pss_cons (ps_asg (pe_call (ok__law_leaf_by T) (hr.mono (by first | decide | omega)) rfl T._law_leaf_by.g T._law_leaf_by.F.kp T._law_leaf_by.b .nil pass0 (pa_cons (pe_op op_fdiv (pv 0) pe_int) pa_nil)) (pg_tup rfl (pgs_cons (pg_name (i := 1) sc__law_term_by.nd rfl (Or.inl rfl)) (pgs_cons (pg_name (i := 2) sc__law_term_by.nd rfl (Or.inl rfl)) pgs_nil))))
      (pss_cons (ps_set (i := 3) sc__law_term_by.nd rfl (Or.inl rfl) (pe_op op_mod (pv 0) pe_int))
      (C8.pss_cut (ps_if (pt_cmpR op_gt (pv 3) pe_int (nomark _)) (pss_cons (ps_asg (pe_call (ok__law_leaf_by T) (hr.mono (by first | decide | omega)) rfl T._law_leaf_by.g T._law_leaf_by.F.kp T._law_leaf_by.b .nil pass0 (pa_cons (pe_op op_fdiv (pv 0) pe_int) pa_nil)) (pg_tup rfl (pgs_cons (pg_name (i := 4) sc__law_term_by.nd rfl (Or.inl rfl)) (pgs_cons (pg_name (i := 5) sc__law_term_by.nd rfl (Or.inl rfl)) pgs_nil))))
      (pss_cons (ps_set (i := 6) sc__law_term_by.nd rfl (Or.inl rfl) (pe_ix ix_list (pe_lst (pa_strs (by rfl))) (pe_op op_mod (pe_op op_fdiv (pv 0) pe_int) pe_int) (fun _ _ => rfl)))
      (pss_cons (ps_set (i := 1) sc__law_term_by.nd rfl (Or.inl rfl) (pe_tup (pa_cons (pv 6) (pa_cons (pv 1) (pa_cons (pv 4) pa_nil)))))
      (pss_one (ps_set (i := 2) sc__law_term_by.nd rfl (Or.inl rfl) (pe_op op_cat (pe_op op_cat (pe_lst (pa_cons (pv 6) pa_nil)) (pv 2)) (pv 5))))))) pss_nil)
      (C8.pss_cut (ps_if (pt_cmpR op_eq (pv 3) pe_int (nomark _)) (pss_cons (ps_asg (pe_call (ok__law_leaf_by T) (hr.mono (by first | decide | omega)) rfl T._law_leaf_by.g T._law_leaf_by.F.kp T._law_leaf_by.b .nil pass0 (pa_cons (pe_op op_fdiv (pv 0) pe_int) pa_nil)) (pg_tup rfl (pgs_cons (pg_name (i := 4) sc__law_term_by.nd rfl (Or.inl rfl)) (pgs_cons (pg_name (i := 5) sc__law_term_by.nd rfl (Or.inl rfl)) pgs_nil))))
      (pss_cons (ps_set (i := 1) sc__law_term_by.nd rfl (Or.inl rfl) (pe_tup (pa_cons pe_str (pa_cons (pv 4) (pa_cons (pv 1) (pa_cons (pe_tup (pa_cons pe_str (pa_cons pe_int pa_nil))) pa_nil))))))
      (pss_one (ps_set (i := 2) sc__law_term_by.nd rfl (Or.inl rfl) (pe_op op_cat (pe_op op_cat (pe_op op_cat (pe_lst (pa_cons pe_str pa_nil)) (pv 5)) (pv 2)) (pe_lst (pa_cons pe_str pa_nil))))))) pss_nil)
      (pss_cons (ps_for PassesOwn.never rfl (pi_range1 rfl T.n_range (pa_cons (pe_ix ix_list (pe_lst (pa_cons pe_int (pa_cons pe_int (pa_cons pe_int (pa_cons pe_int (pa_cons pe_int (pa_cons pe_int pa_nil))))))) (pe_op op_mod (pe_op op_fdiv (pv 0) pe_int) pe_int) (fun _ _ => rfl)) pa_nil)) (pg_name (i := 7) sc__law_term_by.nd rfl (Or.inl rfl)) (pss_cons (ps_set (i := 1) sc__law_term_by.nd rfl (Or.inl rfl) (pe_tup (pa_cons pe_str (pa_cons (pv 1) pa_nil))))
      (pss_one (ps_set (i := 2) sc__law_term_by.nd rfl (Or.inl rfl) (pe_op op_cat (pe_lst (pa_cons pe_str pa_nil)) (pv 2))))))
      (pss_one (ps_ret (pe_tup (pa_cons (pv 1) (pa_cons (pv 2) pa_nil))))))))))), ?_⟩
    refine ⟨_, rfl, _, _, rfl, rfl, ⟨by decide, by decide, by decide⟩, _, _, rfl, rfl, by walk_at "p", ?_⟩
    refine ⟨_, rfl, _, _, rfl, rfl, ⟨by decide, by decide⟩, ⟨_, rfl⟩, fun H1 p v l ws hp hl hW S1 => ⟨p, _, rfl, SqT.of hp, rfl, _, _, rfl, _, _, rfl, rfl, ?_⟩⟩
    refine ⟨_, rfl, _, _, rfl, rfl, by walk_at "p", ?_⟩
    obtain ⟨c2, hc2⟩ : ∃ c2 : Int, c2 = c % 10 ^ (24 : Int).toNat := ⟨_, rfl⟩
    obtain ⟨way, hway⟩ : ∃ way : Int, way = c2 % 7 := ⟨_, rfl⟩
    refine ⟨fun σ' H' => ∃ v l ws o4 o5 o6, σ' = [some (.int c2), some v, some (.ref l), some (.int way), o4, o5, o6, none] ∧ H' l = some (.lst (ws.map V.str)) ∧ WB (termP 2) 54 ws ∧ Same H H', ?_, ?_⟩
    · show tIfS _ _ _ _ [some (.int (c % 10 ^ (24 : Int).toNat)), some v, some (.ref l), some (.int (c % 10 ^ (24 : Int).toNat % 7)), none, none, none, none] H1
      rw [← hc2, ← hway]
      refine ⟨_, rfl, _, _, rfl, rfl, _, rfl, ?_⟩
      refine ite2 (fun _ => ?_) (fun _ => ?_)
      · refine ⟨_, rfl, _, _, rfl, rfl, ⟨by decide, by decide⟩, ⟨_, rfl⟩, fun H2 p2 v2 l2 ws2 hp2 hl2 hW2 S2 => ⟨p2, _, rfl, SqT.of hp2, rfl, _, _, rfl, _, _, rfl, rfl, ?_⟩⟩
        refine ⟨(sz1000 (by decide) : (opL.map V.str).length ≤ sizeLine), fun t ht => ?_⟩
        obtain ⟨j, x, ej, hx⟩ := mod_at (l := opL.map V.str) (c := c2 / 5) (n := 8) rfl (by decide)
        obtain ⟨y, hy, rfl⟩ := List.mem_map.mp (List.mem_of_getElem? hx)
        obtain ⟨y1, y2, y3, y4, y5⟩ := opL_ok y hy
        refine ⟨_, rfl, _, _, rfl, rfl, ⟨by decide, by decide⟩, _, _, rfl, rfl, by walk_at "p", t, opL.map V.str, _, .str y, rfl, rfl, SqL.of upd_same, at_of ej hx, ?_⟩
        have s3 := Same.trans' (Same.trans' S1 S2) (Same.laid (o := .lst (opL.map V.str)) ht)
        refine ⟨_, rfl, _, rfl, _, rfl, sz3, fun q hq => ?_⟩
        have s4 := Same.trans' s3 (Same.laid (o := .tup [.str y, v, v2]) hq)
        refine ⟨_, rfl, sz1, fun a ha => ?_⟩
        have hl4 := Same.laid (o := .lst [.str y]) ha _ _ (Same.laid (o := .tup [.str y, v, v2]) hq _ _ (Same.laid (o := .lst (opL.map V.str)) ht _ _ (S2 _ _ hl)))
        have hl24 := Same.laid (o := .lst [.str y]) ha _ _ (Same.laid (o := .tup [.str y, v, v2]) hq _ _ (Same.laid (o := .lst (opL.map V.str)) ht _ _ hl2))
        refine ⟨_, rfl, cat_ll (pre := [y]) upd_same hl4 (by have := hW.len; simp only [List.length_cons, List.length_nil]; omega) fun H5 b hb S5 e5 => ⟨_, rfl, cat_ll e5 (S5 _ _ hl24) (by have := hW.len; have := hW2.len; simp only [List.length_append, List.length_cons, List.length_nil]; omega) fun H6 d hd S6 e6 => ?_⟩⟩
        refine ⟨.ref q, d, _, some v2, some (.ref l2), some (.str y), rfl, e6, ⟨?_, ?_, ?_⟩, Same.trans' (Same.trans' (Same.trans' s4 (Same.laid ha)) S5) S6⟩
        · exact eat_op2 y2 y1 hW.1 hW2.1
        · exact gws_app (gws_app (gws_one ⟨y3, y4⟩) hW.2.1) hW2.2.1
        · rw [wt_app, wt_app, wt_one]
          have := hW.2.2
          have := hW2.2.2
          omega
      · exact ⟨v, l, ws, none, none, none, rfl, hl, ⟨fun r => termP_mono _ _ _ (hW.1 r), hW.2.1, by have := hW.2.2; omega⟩, S1⟩
    rintro σ' H2 ⟨v, l, ws, o4, o5, o6, rfl, hl, hW, S2⟩
    refine ⟨fun σ' H' => ∃ v l ws o4 o5 o6, σ' = [some (.int c2), some v, some (.ref l), some (.int way), o4, o5, o6, none] ∧ H' l = some (.lst (ws.map V.str)) ∧ WB (termP 3) 85 ws ∧ Same H H', ?_, ?_⟩
    · refine ⟨_, rfl, rfl, _, rfl, ?_⟩
      refine ite2 (fun _ => ?_) (fun _ => ?_)
      · refine ⟨_, rfl, _, _, rfl, rfl, ⟨by decide, by decide⟩, ⟨_, rfl⟩, fun H3 p2 v2 l2 ws2 hp2 hl2 hW2 S3 => ⟨p2, _, rfl, SqT.of hp2, rfl, _, _, rfl, _, _, rfl, rfl, ?_⟩⟩
        refine ⟨_, rfl, _, rfl, sz2, fun t ht => ⟨sz4, fun q hq => ⟨sz1, fun a ha => ?_⟩⟩⟩
        have s4 := Same.trans' (Same.trans' S2 S3) (Same.trans' (Same.laid (o := .tup [.str "num", .int 5]) ht) (Same.laid (o := .tup [.str "pick", v2, v, .ref t]) hq))
        have hl4 := Same.laid (o := .lst [.str "pick"]) ha _ _ (Same.laid (o := .tup [.str "pick", v2, v, .ref t]) hq _ _ (Same.laid (o := .tup [.str "num", .int 5]) ht _ _ (S3 _ _ hl)))
        have hl24 := Same.laid (o := .lst [.str "pick"]) ha _ _ (Same.laid (o := .tup [.str "pick", v2, v, .ref t]) hq _ _ (Same.laid (o := .tup [.str "num", .int 5]) ht _ _ hl2))
        have l1 := hW.len
        have l2' := hW2.len
        refine ⟨_, rfl, cat_ll (pre := [("pick" : Str)]) upd_same hl24 (by simp only [List.length_cons, List.length_nil]; omega) fun H5 b hb S5 e5 => ⟨_, rfl, cat_ll e5 (S5 _ _ hl4) (by simp only [List.length_append, List.length_cons, List.length_nil]; omega) fun H6 d hd S6 e6 => ⟨sz1, fun e he => cat_ll (ws := [("5" : Str)]) (Same.laid he _ _ e6) upd_same (by simp only [List.length_append, List.length_cons, List.length_nil]; omega) fun H7 f hf S7 e7 => ?_⟩⟩⟩
        refine ⟨.ref q, f, _, some v2, some (.ref l2), o6, rfl, e7, ⟨?_, ?_, ?_⟩, Same.trans' (Same.trans' (Same.trans' (Same.trans' s4 (Same.laid ha)) S5) S6) (Same.trans' (Same.laid he) S7)⟩
        · have h5 : Eat (termP 2) [("5" : Str)] := by rw [← strI_5]; exact eat_num (by decide) (by decide)
          have := eat_op3 (d := 2) (w := "pick") (by decide +kernel) (by decide +kernel) (eat_mono hW2.1) hW.1 h5
          simpa [List.append_assoc] using this
        · exact gws_app (gws_app (gws_app (gws_one pick_gw) hW2.2.1) hW.2.1) (gws_one five_gw)
        · rw [wt_app, wt_app, wt_app, wt_one, wt_one]
          have := hW.2.2
          have := hW2.2.2
          have e4 : ("pick" : Str).length = 4 := by decide +kernel
          have e1 : ("5" : Str).length = 1 := by decide +kernel
          omega
      · exact ⟨v, l, ws, o4, o5, o6, rfl, hl, ⟨fun r => termP_mono _ _ _ (hW.1 r), hW.2.1, by have := hW.2.2; omega⟩, S2⟩
    rintro σ' H3 ⟨v, l, ws, o4, o5, o6, rfl, hl, hW, S3⟩
    refine ⟨sz1000 (by decide), fun t ht => ?_⟩
    obtain ⟨j, x, ej, hx⟩ := mod_at (l := [V.int 0, .int 0, .int 0, .int 1, .int 2, .int 11]) (c := c2 / 11) (n := 6) rfl (by decide)
    have hx2 : ∃ m : Nat, x = .int m ∧ m ≤ 11 := by
      have := List.mem_of_getElem? hx
      simp only [List.mem_cons, List.not_mem_nil, or_false] at this
      rcases this with h | h | h | h | h | h
      · exact ⟨0, h, by decide⟩
      · exact ⟨0, h, by decide⟩
      · exact ⟨0, h, by decide⟩
      · exact ⟨1, h, by decide⟩
      · exact ⟨2, h, by decide⟩
      · exact ⟨11, h, by decide⟩
    obtain ⟨m, rfl, hm⟩ := hx2
    refine ⟨_, rfl, _, _, rfl, rfl, ⟨by decide, by decide⟩, _, _, rfl, rfl, by walk_at "p", t, _, _, .int m, rfl, rfl, SqL.of upd_same, at_of ej hx, _, rfl, by omega, by omega, ?_⟩
    refine for_range (lo := 0) (n := m) (fun i σ' H' => ∃ v l ws o7, σ' = [some (.int c2), some v, some (.ref l), some (.int way), o4, o5, o6, o7] ∧ H' l = some (.lst (ws.map V.str)) ∧ WB (termP (3 + i)) (85 + 4 * i) ws ∧ Same H H') ?_ ?_ ?_
    · exact ⟨v, l, ws, none, rfl, Same.laid ht _ _ hl, hW, Same.trans' S3 (Same.laid ht)⟩
    · rintro i σ H4 hi ⟨v, l, ws, o7, rfl, hl, hW, S4⟩
      have := hW.len
      refine ⟨_, rfl, sz2, fun q hq => ⟨sz1, fun a ha => ⟨_, rfl, cat_ll (pre := [("not" : Str)]) upd_same (Same.laid ha _ _ (Same.laid hq _ _ hl)) (by simp only [List.length_cons, List.length_nil]; omega) fun H5 b hb S5 e5 => ?_⟩⟩⟩
      refine ⟨.ref q, b, _, _, rfl, e5, ⟨?_, gws_app (gws_one not_gw) hW.2.1, ?_⟩, Same.trans' (Same.trans' (Same.trans' S4 (Same.laid hq)) (Same.laid ha)) S5⟩
      · exact eat_op1 (d := 3 + i) (w := "not") (by decide +kernel) (by decide +kernel) hW.1
      · rw [wt_app, wt_one]
        have := hW.2.2
        have e3 : ("not" : Str).length = 3 := by decide +kernel
        omega
    · rintro σ H4 ⟨v, l, ws, o7, rfl, hl, hW, S4⟩
      refine ⟨_, rfl, _, rfl, sz2, fun q hq => ?_⟩
      exact k _ q v l ws upd_same (Same.laid hq _ _ hl) ⟨eat_mono_le hW.1 (by omega), hW.2.1, by have := hW.2.2; omega⟩ (Same.trans' S4 (Same.laid hq))
end
end BD
/-! W20: lists and pairs made. -/
namespace BD
open PySem PySem.Spec L2 TL
open PyProof.Rows hiding St
local macro_rules | `(tactic| walk_at "p") => `(tactic| (show (0 : Int) < _; decide))
theorem digit_len {n : Int} (h0 : 0 ≤ n) (h1 : n < 10) : (strI n).length = 1 := by
  have key : ∀ m : Fin 10, (strI ((m.val : Nat) : Int)).length = 1 := by decide +kernel
  obtain ⟨m, rfl⟩ : ∃ m : Nat, n = (m : Int) := ⟨n.toNat, by omega⟩
  exact key ⟨m, by omega⟩
theorem acc_cons {f : Ws → Option Ws} {k : Nat} {x ws : Ws} (hx : Eat f x) (h : Acc f k ws) : Acc f (k + 1) (x ++ ws) := fun m r => by
  rw [show k + 1 + m = (k + m) + 1 by omega, List.append_assoc]
  simp only [times, hx (ws ++ r)]
  exact h m r
theorem e10_lt {n : Int} (h0 : -E19 < n) (h1 : n < E19) : -(10 ^ 19 : Int) < n ∧ n < 10 ^ 19 := ⟨h0, h1⟩
theorem acc_nums : ∀ (ns : List Int), (∀ n ∈ ns, -E19 < n ∧ n < E19) → Acc numR ns.length (ns.map strI)
  | [], _ => acc_nil
  | n :: ns, h => by
    have := acc_cons (f := numR) (x := [strI n]) (eat_numR (h n (by simp)).1 (h n (by simp)).2) (acc_nums ns fun m hm => h m (List.mem_cons_of_mem _ hm))
    exact this
theorem gws_nums (ns : List Int) (h : ∀ n ∈ ns, -E19 < n ∧ n < E19) : GWs (ns.map strI) := fun x hx => by
  obtain ⟨n, hn, rfl⟩ := List.mem_map.mp hx
  exact gw_strI (h n hn).1 (h n hn).2
theorem wt_nums : ∀ (ns : List Int), (∀ n ∈ ns, -E19 < n ∧ n < E19) → wt (ns.map strI) ≤ 21 * ns.length
  | [], _ => Nat.le_refl _
  | n :: ns, h => by
    rw [List.map_cons, wt_cons, List.length_cons]
    have := wt_nums ns fun m hm => h m (List.mem_cons_of_mem _ hm)
    have := strI_len (h n (by simp)).1 (h n (by simp)).2
    omega
theorem nums_at2 {H : Hp} : ∀ (ns : List Int), (∀ n ∈ ns, -E19 < n ∧ n < E19) → All2 (NumAt H) (ns.map V.int) ((ns.map strI).map fun x => [x])
  | [], _ => .nil
  | n :: ns, h => .cons ⟨n, _, rfl, rfl, numP_strI (h n (by simp)).1 (h n (by simp)).2⟩ (nums_at2 ns fun m hm => h m (List.mem_cons_of_mem _ hm))
theorem i_eq {a b : Int} {H : Hp} {Q : Bool → Hp → Prop} (h : a = b) (q : Q true H) : rEq (.int a) (.int b) H (fun x H' => ∃ k, x = .bl k ∧ Q k H') := ⟨rfl, _, rfl, by rw [decide_eq_true (by rw [h])]; exact q⟩
theorem i_ne {a b : Int} {H : Hp} {Q : Bool → Hp → Prop} (h : a ≠ b) (q : Q false H) : rEq (.int a) (.int b) H (fun x H' => ∃ k, x = .bl k ∧ Q k H') := ⟨rfl, _, rfl, by rw [decide_eq_false (fun z => h (by injection z))]; exact q⟩
section
variable {P : Program} {w : World} {K : PySem.W.Frag} {mg : Str → Option Value} {base : Heap}
abbrev okL : List V → Hp → Prop := fun vs H => ∃ (c : Int) (v : V) (l : Addr) (ws : Ws), vs = [.int c, v, .ref l] ∧ H l = some (.lst (ws.map V.str)) ∧ WB (termP 14) 130 ws
theorem sc__law_lists_by : FnScope ["_law_cell", "_law_term", "_law_words", "_law_many", "_law_wide", "_law_lists", "_law_told", "_law_k", "_law_some", "_law_j", "_law_one", "_law_more"] ["_law_cell", "_law_term", "_law_words"] (defScope (top 48)) := ⟨rfl, rfl, rfl, by decide +kernel, rfl, by decide +kernel, by decide +kernel⟩
theorem ok__law_lists_by (T : Txt K mg w) : FnOk P w K mg base CX0 1 T._law_lists_by.f T._law_lists_by.fd ["_law_cell", "_law_term", "_law_words"] (spMade listsP 340 okL) := by
  refine T._law_lists_by.F.ok sc__law_lists_by (fun vs H Q E h => ?_) (fun cdv A outer s H vs Q E hr h => ?_)
  · obtain ⟨⟨c, v, l, ws, rfl, _⟩, _⟩ := h
    rfl
  · obtain ⟨⟨c, v, l, ws, rfl, hl, hW⟩, k⟩ := h
    refine ⟨_, (pss_cons (ps_set (i := 3) sc__law_lists_by.nd rfl (Or.inl rfl) (pe_op op_add pe_int (pe_op op_mod (pv 0) pe_int)))
      (pss_cons (ps_set (i := 4) sc__law_lists_by.nd rfl (Or.inl rfl) (pe_op op_add pe_int (pe_op op_mod (pe_op op_fdiv (pv 0) pe_int) pe_int)))
      (pss_cons (ps_set (i := 5) sc__law_lists_by.nd rfl (Or.inl rfl) (pe_tup pa_nil))
      (pss_cons (ps_set (i := 6) sc__law_lists_by.nd rfl (Or.inl rfl) (pe_lst (pa_cons (pe_callTy call_str_int (by rfl) T.n_str (by decide +kernel) (pa_cons (pv 3) pa_nil)) (pa_cons (pe_callTy call_str_int (by rfl) T.n_str (by decide +kernel) (pa_cons (pv 4) pa_nil)) pa_nil))))
      (pss_cons (ps_for PassesOwn.never rfl (pi_range1 rfl T.n_range (pa_cons (pv 3) pa_nil)) (pg_name (i := 7) sc__law_lists_by.nd rfl (Or.inl rfl)) (pss_cons (ps_set (i := 8) sc__law_lists_by.nd rfl (Or.inl rfl) (pe_tup pa_nil))
      (pss_cons (ps_for PassesOwn.never rfl (pi_range1 rfl T.n_range (pa_cons (pv 4) pa_nil)) (pg_name (i := 9) sc__law_lists_by.nd rfl (Or.inl rfl)) (pss_cons (ps_set (i := 10) sc__law_lists_by.nd rfl (Or.inl rfl) (pe_tup (pa_cons pe_str (pa_cons (pe_op op_mod (pe_op op_add (pv 7) (pv 9)) pe_int) pa_nil))))
      (pss_cons (ps_set (i := 11) sc__law_lists_by.nd rfl (Or.inl rfl) (pe_lst (pa_cons (pe_callTy call_str_int (by rfl) T.n_str (by decide +kernel) (pa_cons (pe_op op_mod (pe_op op_add (pv 7) (pv 9)) pe_int) pa_nil)) pa_nil)))
      (pss_cons (ps_if (PW.pt (pw_and (pt_cmpR op_eq (pv 7) (pe_op op_mod (pe_op op_fdiv (pv 0) pe_int) (pv 3)) (nomark _)) (pw_and1 (pt_cmpR op_eq (pv 9) (pe_op op_mod (pe_op op_fdiv (pv 0) pe_int) (pv 4)) (nomark _))))) (pss_cons (ps_set (i := 10) sc__law_lists_by.nd rfl (Or.inl rfl) (pv 1))
      (pss_one (ps_set (i := 11) sc__law_lists_by.nd rfl (Or.inl rfl) (pv 2)))) pss_nil)
      (pss_cons (ps_set (i := 8) sc__law_lists_by.nd rfl (Or.inl rfl) (pe_op op_catA (pv 8) (pe_tup (pa_cons (pv 10) pa_nil))))
      (pss_one (ps_set (i := 6) sc__law_lists_by.nd rfl (Or.inl rfl) (pe_op op_cat (pv 6) (pv 11)))))))))
      (pss_one (ps_set (i := 5) sc__law_lists_by.nd rfl (Or.inl rfl) (pe_op op_catA (pv 5) (pe_tup (pa_cons (pv 8) pa_nil))))))))
      (pss_one (ps_ret (pe_tup (pa_cons (pv 5) (pa_cons (pv 6) pa_nil)))))))))), ?_⟩
    obtain ⟨m, hm, m1, m9⟩ : ∃ m : Nat, 1 + c % 9 = (m : Int) ∧ 1 ≤ m ∧ m ≤ 9 := ⟨(1 + c % 9).toNat, by omega, by omega, by omega⟩
    obtain ⟨n, hn, n1, n9⟩ : ∃ m : Nat, 1 + c / 9 % 9 = (m : Int) ∧ 1 ≤ m ∧ m ≤ 9 := ⟨(1 + c / 9 % 9).toNat, by omega, by omega, by omega⟩
    refine ⟨_, rfl, _, _, rfl, rfl, by walk_at "p", _, _, rfl, rfl, ?_⟩
    refine ⟨_, rfl, _, _, rfl, rfl, ⟨by decide, by decide⟩, _, _, rfl, rfl, by walk_at "p", _, _, rfl, rfl, ?_⟩
    refine ⟨Nat.zero_le _, fun e0 he0 => ?_⟩
    show tSeq _ _ _ [some (.int c), some v, some (.ref l), some (.int (1 + c % 9)), some (.int (1 + c / 9 % 9)), some (.ref e0), none, none, none, none, none, none] (upd H e0 (.tup []))
    rw [hm, hn]
    have mb : -E19 < (m : Int) ∧ (m : Int) < E19 := by unfold E19; omega
    have nb : -E19 < (n : Int) ∧ (n : Int) < E19 := by unfold E19; omega
    refine ⟨_, rfl, _, rfl, E19_lg mb.1 mb.2, _, rfl, _, rfl, E19_lg nb.1 nb.2, sz2, fun t ht => ?_⟩
    have s1 := Same.trans' (Same.laid (o := .tup []) he0) (Same.laid (o := .lst [.str (strI m), .str (strI n)]) ht)
    have wtm : wt [strI m, strI n] ≤ 42 := by
      rw [wt_cons, wt_one]
      have := strI_len mb.1 mb.2
      have := strI_len nb.1 nb.2
      omega
    obtain ⟨K0, hK0⟩ : ∃ z : Int, z = c / 81 % m := ⟨_, rfl⟩
    obtain ⟨J0, hJ0⟩ : ∃ z : Int, z = c / 7 % n := ⟨_, rfl⟩
    refine ⟨_, rfl, _, rfl, by omega, by omega, ?_⟩
    refine for_range (lo := 0) (n := m) (fun i σ' H' => ∃ (a b : Addr) (xs : List V) (acc : Ws) (o7 o8 o9 o10 o11 : Option V), σ' = [some (.int c), some v, some (.ref l), some (.int m), some (.int n), some (.ref a), some (.ref b), o7, o8, o9, o10, o11] ∧ H' a = some (.tup xs) ∧ xs.length = i ∧ H' b = some (.lst ((strI m :: strI n :: acc).map V.str)) ∧
      Acc (times (termP 14) n) i acc ∧ GWs acc ∧ wt acc ≤ 2 * (9 * i) + 130 ∧ (¬ K0 < i → wt acc ≤ 2 * (9 * i)) ∧ Same H H') ?_ ?_ ?_
    · exact ⟨e0, t, [], [], none, none, none, none, none, rfl, Same.laid ht _ _ upd_same, rfl, upd_same, acc_nil, gws_nil, by rw [wt_nil]; omega, fun _ => by rw [wt_nil]; omega, s1⟩
    · rintro i σ H1 hi ⟨a, b, xs, acc, o7, o8, o9, o10, o11, rfl, ha, hxs, hb, hacc, hg, hwt, hwt2, S1⟩
      refine ⟨Nat.zero_le _, fun e1 he1 => ?_⟩
      refine ⟨_, rfl, _, rfl, by omega, by omega, ?_⟩
      have ha1 := Same.laid (o := .tup []) he1 _ _ ha
      refine for_range (lo := 0) (n := n) (fun j σ' H' => ∃ (p d : Addr) (ys : List V) (acc2 : Ws) (o9 o10 o11 : Option V), σ' = [some (.int c), some v, some (.ref l), some (.int m), some (.int n), some (.ref a), some (.ref d), some (.int (0 + (i : Int))), some (.ref p), o9, o10, o11] ∧ H' p = some (.tup ys) ∧ ys.length = j ∧
        H' d = some (.lst ((strI m :: strI n :: (acc ++ acc2)).map V.str)) ∧ Acc (termP 14) j acc2 ∧ GWs acc2 ∧ wt (acc ++ acc2) ≤ 2 * (9 * i + j) + 130 ∧ (¬ (K0 < i ∨ (K0 = i ∧ J0 < j)) → wt (acc ++ acc2) ≤ 2 * (9 * i + j)) ∧ Same H1 H') ?_ ?_ ?_
      · refine ⟨e1, b, [], [], o9, o10, o11, rfl, upd_same, rfl, by rw [List.append_nil]; exact Same.laid he1 _ _ hb, acc_nil, gws_nil, by rw [List.append_nil]; omega, fun h => ?_, Same.laid he1⟩
        rw [List.append_nil]
        have := hwt2 (fun z => h (.inl z))
        omega
      · rintro j σ H2 hj ⟨p, d, ys, acc2, o9, o10, o11, rfl, hp, hys, hd, hacc2, hg2, hwt3, hwt4, S2⟩
        have b0 := Int.emod_nonneg (0 + (i : Int) + (0 + (j : Int))) (show (10 : Int) ≠ 0 by decide)
        have b1 := Int.emod_lt_of_pos (0 + (i : Int) + (0 + (j : Int))) (show (0 : Int) < 10 by decide)
        obtain ⟨x, hx⟩ : ∃ x : Int, x = (0 + (i : Int) + (0 + (j : Int))) % 10 := ⟨_, rfl⟩
        rw [← hx] at b0 b1
        have xb : -E19 < x ∧ x < E19 := by unfold E19; omega
        have hx1 := digit_len b0 b1
        refine ⟨_, rfl, _, rfl, _, _, rfl, rfl, _, _, rfl, rfl, by walk_at "p", sz2, fun q hq => ?_⟩
        refine ⟨_, rfl, _, rfl, _, _, rfl, rfl, _, _, rfl, rfl, by walk_at "p", _, rfl, ?_, sz1, fun u hu => ?_⟩
        · rw [← hx]
          exact E19_lg xb.1 xb.2
        have Snew := Same.trans' (Same.laid (o := .tup [.str "num", .int ((0 + (i : Int) + (0 + (j : Int))) % 10)]) hq) (Same.laid (o := .lst [.str (strI ((0 + (i : Int) + (0 + (j : Int))) % 10))]) hu)
        -- the rest of a turn, once what and its words are told
        have rest : ∀ (one : V) (more : Addr) (mw : Ws) (H3 : Hp), Same H2 H3 → H3 more = some (.lst (mw.map V.str)) → WB (termP 14) 130 mw → wt (acc ++ (acc2 ++ mw)) ≤ 2 * (9 * i + (j + 1)) + 130 → (¬ (K0 < i ∨ (K0 = i ∧ J0 < (j + 1 : Nat))) → wt (acc ++ (acc2 ++ mw)) ≤ 2 * (9 * i + (j + 1))) →
            ∀ D : Ends, (∀ σ' H', (∃ (p d : Addr) (ys : List V) (acc2 : Ws) (o9 o10 o11 : Option V), σ' = [some (.int c), some v, some (.ref l), some (.int m), some (.int n), some (.ref a), some (.ref d), some (.int (0 + (i : Int))), some (.ref p), o9, o10, o11] ∧ H' p = some (.tup ys) ∧ ys.length = j + 1 ∧
              H' d = some (.lst ((strI m :: strI n :: (acc ++ acc2)).map V.str)) ∧ Acc (termP 14) (j + 1) acc2 ∧ GWs acc2 ∧ wt (acc ++ acc2) ≤ 2 * (9 * i + (j + 1)) + 130 ∧ (¬ (K0 < i ∨ (K0 = i ∧ J0 < (j + 1 : Nat))) → wt (acc ++ acc2) ≤ 2 * (9 * i + (j + 1))) ∧ Same H1 H') → D.nx σ' H') →
            tSeq (tAsg (tOp (rCatA K) (tVar 8) (tTup (tCons (tVar 10) tNil))) (gName 8)) (tAsg (tOp rCat (tVar 6) (tVar 11)) (gName 6)) D [some (.int c), some v, some (.ref l), some (.int m), some (.int n), some (.ref a), some (.ref d), some (.int (0 + (i : Int))), some (.ref p), some (.int (0 + (j : Int))), some one, some (.ref more)] H3 := fun one more mw H3 S3 hmore hmw w1 w2 D q => by
          refine ⟨_, rfl, _, rfl, sz1, fun r hr3 => ?_⟩
          have hp3 := S3 _ _ hp
          have fin : ∀ (p2 : Addr) (ys2 : List V) (H4 : Hp), Same H3 H4 → H4 p2 = some (.tup ys2) → ys2.length = j + 1 → tAsg (tOp rCat (tVar 6) (tVar 11)) (gName 6) D [some (.int c), some v, some (.ref l), some (.int m), some (.int n), some (.ref a), some (.ref d), some (.int (0 + (i : Int))), some (.ref p2), some (.int (0 + (j : Int))), some one, some (.ref more)] H4 := fun p2 ys2 H4 S4 hp2 hy2 => by
            have l1 := hmw.len
            have l2 := wt_len (acc ++ acc2)
            refine ⟨_, rfl, _, rfl, cat_ll (S4 _ _ (S3 _ _ hd)) (S4 _ _ hmore) (by simp only [List.length_cons]; omega) fun H5 z hz S5 e5 => ?_⟩
            refine q _ _ ⟨p2, z, ys2, acc2 ++ mw, _, _, _, rfl, S5 _ _ hp2, hy2, by rw [e5]; simp, acc_snoc hacc2 hmw.1, gws_app hg2 hmw.2.1, w1, w2, Same.trans' (Same.trans' S2 S3) (Same.trans' S4 S5)⟩
          refine ⟨p, r, ys, [one], rfl, rfl, SqT.of (Same.laid hr3 _ _ hp3), SqT.of upd_same, sz1000 (by rw [hys]; simp only [List.length_cons, List.length_nil]; omega), fun z => ?_, fun _ z => (nomatch z), fun _ _ f hf => ?_⟩
          · exact fin r [one] _ (Same.laid hr3) upd_same (by rw [z] at hys; simp at hys ⊢; omega)
          · exact fin f (ys ++ [one]) _ (Same.trans' (Same.laid hr3) (Same.laid hf)) upd_same (by rw [List.length_append, hys]; rfl)
        have r0 : wt (acc ++ (acc2 ++ [strI x])) = wt (acc ++ acc2) + 2 := by
          rw [← List.append_assoc, wt_app _ [strI x], wt_one, hx1]
        have hWx : WB (termP 14) 130 [strI x] := ⟨eat_num xb.1 xb.2, gws_one (gw_strI xb.1 xb.2), by rw [wt_one, hx1]; decide⟩
        have hm0 : (0 : Int) < m := by omega
        have hn0 : (0 : Int) < n := by omega
        have w9 : wt (acc ++ (acc2 ++ [strI x])) ≤ 2 * (9 * i + (j + 1)) + 130 := by rw [r0]; omega
        by_cases hk : K0 = (i : Int)
        · refine ⟨_, rfl, _, rfl, _, _, rfl, rfl, ⟨by decide, by decide⟩, _, rfl, _, _, rfl, rfl, hm0, i_eq (by rw [← hK0]; omega) ?_⟩
          by_cases hj0 : J0 = (j : Int)
          · refine iteT ⟨_, rfl, _, rfl, _, _, rfl, rfl, ⟨by decide, by decide⟩, _, rfl, _, _, rfl, rfl, hn0, i_eq (by rw [← hJ0]; omega) ?_⟩
            refine iteT ⟨_, rfl, _, rfl, ?_⟩
            have := hwt4 (by omega)
            have := hW.2.2
            refine rest v l ws _ Snew (Snew _ _ (S2 _ _ (S1 _ _ hl))) hW ?_ (fun h => absurd (.inr ⟨hk, by omega⟩) h) _ (fun σ' H' h => h)
            rw [← List.append_assoc, wt_app _ ws]
            omega
          · refine iteT ⟨_, rfl, _, rfl, _, _, rfl, rfl, ⟨by decide, by decide⟩, _, rfl, _, _, rfl, rfl, hn0, i_ne (by rw [← hJ0]; omega) ?_⟩
            exact iteF (rest (.ref q) u [strI x] _ Snew (by rw [upd_same, ← hx]; rfl) hWx w9 (fun h => by rw [r0]; have := hwt4 (by omega); omega) _ (fun σ' H' h => h))
        · refine ⟨_, rfl, _, rfl, _, _, rfl, rfl, ⟨by decide, by decide⟩, _, rfl, _, _, rfl, rfl, hm0, i_ne (by rw [← hK0]; omega) ?_⟩
          exact iteF (iteF (rest (.ref q) u [strI x] _ Snew (by rw [upd_same, ← hx]; rfl) hWx w9 (fun h => by rw [r0]; have := hwt4 (by omega); omega) _ (fun σ' H' h => h)))
      · rintro σ H2 ⟨p, d, ys, acc2, o9, o10, o11, rfl, hp, hys, hd, hacc2, hg2, hwt3, hwt4, S2⟩
        refine ⟨_, rfl, _, rfl, sz1, fun r hr3 => ?_⟩
        have S3 := Same.trans' S1 S2
        have ha2 := S2 _ _ ha
        have w1 : wt (acc ++ acc2) ≤ 2 * (9 * (i + 1)) + 130 := by omega
        have w2 : ¬ K0 < ((i + 1 : Nat) : Int) → wt (acc ++ acc2) ≤ 2 * (9 * (i + 1)) := fun h => by
          have := hwt4 (by omega)
          omega
        refine ⟨a, r, xs, [.ref p], rfl, rfl, SqT.of (Same.laid hr3 _ _ ha2), SqT.of upd_same, sz1000 (by rw [hxs]; simp only [List.length_cons, List.length_nil]; omega), fun z => ?_, fun _ z => (nomatch z), fun _ _ f hf => ?_⟩
        · exact ⟨r, d, [.ref p], acc ++ acc2, _, _, _, _, _, rfl, upd_same, by rw [z] at hxs; simp at hxs ⊢; omega, Same.laid hr3 _ _ hd, acc_snoc hacc (acc_done hacc2), gws_app hg hg2, w1, w2, Same.trans' S3 (Same.laid hr3)⟩
        · exact ⟨f, d, xs ++ [.ref p], acc ++ acc2, _, _, _, _, _, rfl, upd_same, by rw [List.length_append, hxs]; rfl, Same.laid hf _ _ (Same.laid hr3 _ _ hd), acc_snoc hacc (acc_done hacc2), gws_app hg hg2, w1, w2, Same.trans' S3 (Same.trans' (Same.laid hr3) (Same.laid hf))⟩
    · rintro σ H1 ⟨a, b, xs, acc, o7, o8, o9, o10, o11, rfl, ha, hxs, hb, hacc, hg, hwt, hwt2, S1⟩
      refine ⟨_, rfl, _, rfl, sz2, fun q hq => ?_⟩
      refine k _ q _ b (strI m :: strI n :: acc) upd_same (Same.laid hq _ _ hb) ⟨eat_lists m1 m9 n1 n9 hacc, gws_cons (gw_strI mb.1 mb.2) (gws_cons (gw_strI nb.1 nb.2) hg), ?_⟩ (Same.trans' S1 (Same.laid hq))
      have := wtm
      rw [wt_cons, wt_one] at this
      rw [wt_cons, wt_cons]
      omega
end
end BD
/-! W21: pairs made. -/
namespace BD
open PySem PySem.Spec L2 TL
open PyProof.Rows hiding St
local macro_rules | `(tactic| walk_at "p") => `(tactic| (show (0 : Int) < _; decide))
section
variable {P : Program} {w : World} {K : PySem.W.Frag} {mg : Str → Option Value} {base : Heap}
theorem sc__law_pairs_by : FnScope ["_law_cell", "_law_many", "_law_wide", "_law_pairs", "_law_told", "_law_k", "_law_row", "_law_j", "_law_n"] ["_law_cell"] (defScope (top 49)) := ⟨rfl, rfl, rfl, by decide +kernel, rfl, by decide +kernel, by decide +kernel⟩
theorem ok__law_pairs_by (T : Txt K mg w) : FnOk P w K mg base CX0 2 T._law_pairs_by.f T._law_pairs_by.fd ["_law_cell"] (spMade pairsP 1940 okI) := by
  refine T._law_pairs_by.F.ok sc__law_pairs_by (fun vs H Q E h => ?_) (fun cdv A outer s H vs Q E hr h => ?_)
  · obtain ⟨⟨c, rfl⟩, _⟩ := h
    rfl
  · obtain ⟨⟨c, rfl⟩, k⟩ := h
    refine ⟨_, (pss_cons (ps_set (i := 1) sc__law_pairs_by.nd rfl (Or.inl rfl) (pe_op op_mod (pv 0) pe_int))
      (pss_cons (ps_set (i := 2) sc__law_pairs_by.nd rfl (Or.inl rfl) (pe_op op_add pe_int (pe_op op_mod (pe_op op_fdiv (pv 0) pe_int) pe_int)))
      (pss_cons (ps_set (i := 3) sc__law_pairs_by.nd rfl (Or.inl rfl) (pe_tup pa_nil))
      (pss_cons (ps_set (i := 4) sc__law_pairs_by.nd rfl (Or.inl rfl) (pe_lst (pa_cons (pe_callTy call_str_int (by rfl) T.n_str (by decide +kernel) (pa_cons (pv 1) pa_nil)) (pa_cons (pe_callTy call_str_int (by rfl) T.n_str (by decide +kernel) (pa_cons (pe_op op_mul (pv 2) (pe_callB (call_min2 rfl) (by rfl) T.n_min (by decide +kernel) (pa_cons pe_int (pa_cons (pv 1) pa_nil)))) pa_nil)) pa_nil))))
      (pss_cons (ps_for PassesOwn.never rfl (pi_range1 rfl T.n_range (pa_cons (pv 1) pa_nil)) (pg_name (i := 5) sc__law_pairs_by.nd rfl (Or.inr rfl)) (pss_cons (ps_set (i := 6) sc__law_pairs_by.nd rfl (Or.inl rfl) (pe_callTy call_tuple_of (by rfl) T.n_tuple (by decide +kernel) (pa_cons (pe_op op_cat (pe_lst (pa_cons (pe_call (ok__law_big T) (hr.mono (by first | decide | omega)) rfl T._law_big.g T._law_big.F.kp T._law_big.b .nil pass0 (pa_cons (pe_op op_fdiv (pv 0) (pe_op op_add pe_int (pv 5))) pa_nil)) pa_nil)) (pe_lc (own := [("_law_j", 7)]) (g := gName 7) (tt := tYes) rfl sc__law_pairs_by.nd (pi_range2 rfl T.n_range (pa_cons pe_int (pa_cons (pv 2) pa_nil))) (blkOk_by (own := [("_law_j", 7)]) (N := ["_law_cell", "_law_many", "_law_wide", "_law_pairs", "_law_told", "_law_k", "_law_row", "_law_j", "_law_n"]) (sc := defScope (top 49)) (by decide +kernel)) (fun _ _ _ _ _ => pg_name (i := 7) sc__law_pairs_by.nd rfl (Or.inl rfl)) (fun _ _ _ _ _ => pts_nil) (fun _ _ _ _ _ => (pe_op op_sub (pe_op op_mod (pe_op op_mul (pv 5) (pv 7)) pe_int) pe_int)))) pa_nil)))
      (pss_cons (ps_set (i := 3) sc__law_pairs_by.nd rfl (Or.inl rfl) (pe_op op_catA (pv 3) (pe_tup (pa_cons (pe_tup (pa_cons (pe_op op_sub (pe_op op_mul (pv 5) (pv 5)) pe_int) (pa_cons (pv 6) pa_nil))) pa_nil))))
      (pss_one (ps_set (i := 4) sc__law_pairs_by.nd rfl (Or.inl rfl) (pe_op op_cat (pe_op op_cat (pv 4) (pe_lst (pa_cons (pe_callTy call_str_int (by rfl) T.n_str (by decide +kernel) (pa_cons (pe_op op_sub (pe_op op_mul (pv 5) (pv 5)) pe_int) pa_nil)) pa_nil))) (pe_lc (own := [("_law_n", 8)]) (g := gName 8) (tt := tYes) rfl sc__law_pairs_by.nd (pi_tup (pv 6)) (blkOk_by (own := [("_law_n", 8)]) (N := ["_law_cell", "_law_many", "_law_wide", "_law_pairs", "_law_told", "_law_k", "_law_row", "_law_j", "_law_n"]) (sc := defScope (top 49)) (by decide +kernel)) (fun _ _ _ _ _ => pg_name (i := 8) sc__law_pairs_by.nd rfl (Or.inl rfl)) (fun _ _ _ _ _ => pts_nil) (fun _ _ _ _ _ => (pe_callTy call_str_int (by rfl) T.n_str (by decide +kernel) (pa_cons (pv 8) pa_nil))))))))))
      (pss_one (ps_ret (pe_tup (pa_cons (pv 3) (pa_cons (pv 4) pa_nil)))))))))), ?_⟩
    obtain ⟨m, hm, m9⟩ : ∃ m : Nat, c % 10 = (m : Int) ∧ m ≤ 9 := ⟨(c % 10).toNat, by omega, by omega⟩
    obtain ⟨n, hn, n1, n9⟩ : ∃ m : Nat, 1 + c / 10 % 9 = (m : Int) ∧ 1 ≤ m ∧ m ≤ 9 := ⟨(1 + c / 10 % 9).toNat, by omega, by omega, by omega⟩
    refine ⟨_, rfl, _, _, rfl, rfl, by walk_at "p", ?_⟩
    refine ⟨_, rfl, _, _, rfl, rfl, ⟨by decide, by decide⟩, _, _, rfl, rfl, by walk_at "p", _, _, rfl, rfl, ?_⟩
    refine ⟨Nat.zero_le _, fun e0 he0 => ?_⟩
    show tSeq _ _ _ [some (.int c), some (.int (c % 10)), some (.int (1 + c / 10 % 9)), some (.ref e0), none, none, none, none, none] (upd H e0 (.tup []))
    rw [hm, hn]
    have mb : -E19 < (m : Int) ∧ (m : Int) < E19 := by unfold E19; omega
    obtain ⟨n', hn', n9', n1', nm⟩ : ∃ n' : Nat, (n : Int) * (if (m : Int) < 1 then (m : Int) else 1) = (n' : Int) ∧ n' ≤ 9 * min m 1 ∧ min m 1 ≤ n' ∧ (1 ≤ m → n' = n) := by
      by_cases h : m = 0
      · subst h
        exact ⟨0, by simp, by omega, by omega, by omega⟩
      · refine ⟨n, ?_, by omega, by omega, fun _ => rfl⟩
        rw [if_neg (by omega)]
        omega
    have nb : -E19 < (n' : Int) ∧ (n' : Int) < E19 := by unfold E19; omega
    refine ⟨_, rfl, _, rfl, E19_lg mb.1 mb.2, _, rfl, _, rfl, _, _, rfl, _, _, rfl, rfl, .inl ⟨by omega, by omega⟩, _, rfl, ?_, sz2, fun t ht => ?_⟩
    · rw [hn']
      exact E19_lg nb.1 nb.2
    show tSeq _ _ _ [some (.int c), some (.int m), some (.int n), some (.ref e0), some (.ref t), none, none, none, none] (upd (upd H e0 (.tup [])) t (.lst [.str (strI m), .str (strI ((n : Int) * (if (m : Int) < 1 then (m : Int) else 1)))]))
    rw [hn']
    have s1 := Same.trans' (Same.laid (o := .tup []) he0) (Same.laid (o := .lst [.str (strI m), .str (strI n')]) ht)
    have wtm : wt [strI m, strI n'] ≤ 42 := by
      rw [wt_cons, wt_one]
      have := strI_len mb.1 mb.2
      have := strI_len nb.1 nb.2
      omega
    refine ⟨_, rfl, _, rfl, by omega, by omega, ?_⟩
    refine for_range (lo := 0) (n := m) (fun i σ' H' => ∃ (a b : Addr) (xs : List V) (acc : Ws) (o5 o6 o7 o8 : Option V), σ' = [some (.int c), some (.int m), some (.int n), some (.ref a), some (.ref b), o5, o6, o7, o8] ∧ H' a = some (.tup xs) ∧ xs.length = i ∧ H' b = some (.lst ((strI m :: strI n' :: acc).map V.str)) ∧
      Acc (pairP n) i acc ∧ GWs acc ∧ wt acc ≤ 210 * i ∧ Same H H') ?_ ?_ ?_
    · exact ⟨e0, t, [], [], none, none, none, none, rfl, Same.laid ht _ _ upd_same, rfl, upd_same, acc_nil, gws_nil, by rw [wt_nil]; omega, s1⟩
    · rintro i σ H1 hi ⟨a, b, xs, acc, o5, o6, o7, o8, rfl, ha, hxs, hb, hacc, hg, hwt, S1⟩
      refine ⟨_, rfl, _, rfl, _, _, rfl, rfl, _, _, rfl, rfl, ⟨by omega, by omega⟩, _, rfl, fun n0 H2 c1 c2 S2 => ⟨sz1, fun a1 ha1 => ?_⟩⟩
      refine ⟨_, rfl, _, _, rfl, ⟨by decide, by decide, by omega, by omega⟩, fun D hD => ?_⟩
      have s2 := Same.trans' S2 (Same.laid (o := .lst [.int n0]) ha1)
      refine lc_range (lo := 1) (n := ((n : Int) - 1).toNat) (fun j H' => ∃ ms : List Int, H' D = some (.lst (ms.map V.int)) ∧ ms.length = j ∧ (∀ m ∈ ms, -E19 < m ∧ m < E19) ∧ SB D (upd H2 a1 (.lst [.int n0])) H') ?_ ?_ ?_
      · exact ⟨[], upd_same, rfl, fun m hm => (nomatch hm), SB.of_same (Same.laid hD)⟩
      · rintro j H3 hj ⟨ms, hD3, hms, hmb, S3⟩
        refine ⟨rfl, ?_⟩
        simp only [tYes, if_true]
        have i9 : (i : Int) ≤ 9 := by omega
        have j9 : (j : Int) ≤ 9 := by omega
        refine ⟨_, rfl, _, rfl, _, _, rfl, rfl, .inl ⟨by omega, by omega⟩, _, _, rfl, rfl, by walk_at "p", _, _, rfl, rfl, ms.map V.int, hD3, ?_, ms ++ [(0 + (i : Int)) * (1 + (j : Int)) % 7 - 3], ?_, ?_, ?_, ?_⟩
        · rw [List.length_map, hms]
          exact small1000 (by omega)
        · rw [upd_same, List.map_append]
          rfl
        · rw [List.length_append, hms]
          rfl
        · intro q hq
          rcases List.mem_append.mp hq with hq | hq
          · exact hmb q hq
          · cases List.mem_singleton.mp hq
            have h1 := Int.emod_nonneg ((0 + (i : Int)) * (1 + (j : Int))) (show (7 : Int) ≠ 0 by decide)
            have h2 := Int.emod_lt_of_pos ((0 + (i : Int)) * (1 + (j : Int))) (show (0 : Int) < 7 by decide)
            unfold E19
            omega
        · exact fun d o nd e => by rw [upd_ne nd]; exact S3 d o nd e
      · rintro H3 ⟨ms, hD3, hms, hmb, S3⟩
        have s3 : Same H1 H3 := fun d o e => S3 d o (ne_of_none (s2 d o e) hD) (s2 d o e)
        have ha13 : H3 a1 = some (.lst [.int n0]) := S3 _ _ (ne_of_none (show upd H2 a1 (.lst [.int n0]) a1 = some (.lst [.int n0]) from upd_same) hD) upd_same
        have hall : ∀ z ∈ n0 :: ms, -E19 < z ∧ z < E19 := fun z hz => by
          rcases List.mem_cons.mp hz with rfl | hz
          · exact ⟨c1, c2⟩
          · exact hmb z hz
        have hlen : (n0 :: ms).length = n := by rw [List.length_cons, hms]; omega
        refine ⟨a1, D, _, _, rfl, rfl, ha13, hD3, by rw [List.length_map]; exact sz1000 (by simp only [List.length_cons, List.length_nil]; omega), fun p hp => ?_⟩
        refine ⟨p, _, rfl, .inl ⟨SqL.of upd_same, fun r hr4 => ?_⟩⟩
        have s5 := Same.trans' s3 (Same.trans' (Same.laid (o := .lst ([.int n0] ++ ms.map V.int)) hp) (Same.laid (o := .tup ([.int n0] ++ ms.map V.int)) hr4))
        obtain ⟨H5, e5⟩ : ∃ H5, H5 = upd (upd H3 p (.lst ([.int n0] ++ ms.map V.int))) r (.tup ([.int n0] ++ ms.map V.int)) := ⟨_, rfl⟩
        rw [← e5] at s5
        have hr5 : H5 r = some (.tup ((n0 :: ms).map V.int)) := by rw [e5]; exact upd_same
        show tSeq _ _ _ [some (.int c), some (.int m), some (.int n), some (.ref a), some (.ref b), some (.int (0 + (i : Int))), some (.ref r), o7, o8] (upd (upd H3 p (.lst ([.int n0] ++ ms.map V.int))) r (.tup ([.int n0] ++ ms.map V.int)))
        rw [← e5]
        have i9 : (i : Int) ≤ 9 := by omega
        have i2 : (0 + (i : Int)) * (0 + (i : Int)) ≤ 81 := by
          have := Int.mul_le_mul (show 0 + (i : Int) ≤ 9 by omega) (show 0 + (i : Int) ≤ 9 by omega) (by omega) (by omega)
          omega
        have i0 : 0 ≤ (0 + (i : Int)) * (0 + (i : Int)) := Int.mul_nonneg (by omega) (by omega)
        obtain ⟨y, hy⟩ : ∃ y : Int, y = (0 + (i : Int)) * (0 + (i : Int)) - 4 := ⟨_, rfl⟩
        have yb : -E19 < y ∧ y < E19 := by unfold E19; omega
        -- the rest of a turn
        have fin : ∀ (p2 : Addr) (xs2 : List V) (H6 : Hp), Same H5 H6 → H6 p2 = some (.tup xs2) → xs2.length = i + 1 → ∀ (D2 : Ends), (∀ σ' H', (∃ (a b : Addr) (xs : List V) (acc : Ws) (o5 o6 o7 o8 : Option V), σ' = [some (.int c), some (.int m), some (.int n), some (.ref a), some (.ref b), o5, o6, o7, o8] ∧ H' a = some (.tup xs) ∧ xs.length = i + 1 ∧ H' b = some (.lst ((strI m :: strI n' :: acc).map V.str)) ∧
            Acc (pairP n) (i + 1) acc ∧ GWs acc ∧ wt acc ≤ 210 * (i + 1) ∧ Same H H') → D2.nx σ' H') →
            tAsg (tOp rCat (tOp rCat (tVar 4) (tLst (tCons (tCB (fun xs H Q => ∃ i, xs = [V.int i] ∧ i.natAbs.log2 < 1920 ∧ Q (V.str (Str.ofString (toString i))) H) (tCons (tOp (rI0 fun i j => .int (i - j)) (tOp (rI CMul fun i j => .int (i * j)) (tVar 5) (tVar 5)) (tC (.int 4))) tNil)) tNil)))
              (tLc (iTup K (tVar 6)) (gName 8) tYes (tCB (fun xs H Q => ∃ i, xs = [V.int i] ∧ i.natAbs.log2 < 1920 ∧ Q (V.str (Str.ofString (toString i))) H) (tCons (tVar 8) tNil)) [8])) (gName 4) D2
              [some (.int c), some (.int m), some (.int n), some (.ref p2), some (.ref b), some (.int (0 + (i : Int))), some (.ref r), o7, o8] H6 := fun p2 xs2 H6 S6 hp2 hx2 D2 q => by
          refine ⟨_, rfl, _, rfl, _, rfl, _, _, rfl, rfl, .inl ⟨by omega, by omega⟩, _, _, rfl, rfl, _, rfl, ?_, sz1, fun u hu => ?_⟩
          · rw [← hy]
            exact E19_lg yb.1 yb.2
          have l1 := wt_len acc
          refine cat_ll (ws := [strI y]) (Same.laid hu _ _ (S6 _ _ (s5 _ _ hb))) (by rw [upd_same, hy]; rfl) (by simp only [List.length_cons, List.length_nil]; omega) fun H7 z hz7 S7 e7 => ?_
          have s7 := Same.trans' S6 (Same.trans' (Same.laid (o := .lst [.str (strI ((0 + (i : Int)) * (0 + (i : Int)) - 4))]) hu) S7)
          refine ⟨_, rfl, r, rfl, ⟨_, SqT.of (s7 _ _ hr5)⟩, fun D hD => ?_⟩
          refine lc_strs (nums_at2 (n0 :: ms) hall) (s7 _ _ hr5) hD (by rw [List.length_map, hlen]; omega) ?_ (fun z2 x2 H2 Q1 hz1 q => ?_) (fun H8 S8 hD8 => ?_)
          · exact fun v => rfl
          · refine ⟨_, rfl, z2, rfl, numP_lg hz1, ?_⟩
            rw [numP_val hz1]
            exact q
          · rw [nums_flat] at hD8
            refine cat_ll (S8 _ _ e7) hD8 (by simp only [List.length_cons, List.length_append, List.length_nil, List.length_map]; rw [List.length_cons] at hlen; omega) fun H9 z9 hz9 S9 e9 => ?_
            refine q _ _ ⟨p2, z9, xs2, acc ++ (strI y :: (n0 :: ms).map strI), _, _, _, _, rfl, S9 _ _ (S8 _ _ (Same.trans' (Same.laid hu) S7 _ _ hp2)), hx2, by rw [e9]; simp, acc_snoc hacc ?_, gws_app hg (gws_cons (gw_strI yb.1 yb.2) (gws_nums _ hall)), ?_, Same.trans' S1 (Same.trans' s5 (Same.trans' s7 (Same.trans' S8 S9)))⟩
            · exact eat_pair yb.1 yb.2 (by rw [← hlen]; exact acc_nums _ hall)
            · rw [wt_app, wt_cons]
              have := wt_nums _ hall
              have := strI_len yb.1 yb.2
              omega
        refine ⟨_, rfl, _, rfl, _, rfl, _, _, rfl, rfl, .inl ⟨by omega, by omega⟩, _, _, rfl, rfl, _, rfl, sz2, fun u hu => ⟨sz1, fun v hv => ?_⟩⟩
        have ha5 := Same.laid (o := .tup [.ref u]) hv _ _ (Same.laid (o := .tup [.int ((0 + (i : Int)) * (0 + (i : Int)) - 4), .ref r]) hu _ _ (s5 _ _ ha))
        refine ⟨a, v, xs, [.ref u], rfl, rfl, SqT.of ha5, SqT.of upd_same, sz1000 (by rw [hxs]; simp only [List.length_cons, List.length_nil]; omega), fun z => ?_, fun _ z => (nomatch z), fun _ _ f hf => ?_⟩
        · refine fin v [.ref u] _ ?_ upd_same ?_ _ ?_
          · exact Same.trans' (Same.laid hu) (Same.laid hv)
          · rw [z] at hxs
            simp at hxs ⊢
            omega
          · exact fun _ _ h => h
        · refine fin f (xs ++ [.ref u]) _ ?_ upd_same ?_ _ ?_
          · exact Same.trans' (Same.laid hu) (Same.trans' (Same.laid hv) (Same.laid hf))
          · rw [List.length_append, hxs]
            rfl
          · exact fun _ _ h => h
    · rintro σ H1 ⟨a, b, xs, acc, o5, o6, o7, o8, rfl, ha, hxs, hb, hacc, hg, hwt, S1⟩
      refine ⟨_, rfl, _, rfl, sz2, fun q hq => ?_⟩
      refine k _ q _ b (strI m :: strI n' :: acc) upd_same (Same.laid hq _ _ hb) ⟨eat_pairs m9 n1' n9' ?_, gws_cons (gw_strI mb.1 mb.2) (gws_cons (gw_strI nb.1 nb.2) hg), ?_⟩ (Same.trans' S1 (Same.laid hq))
      · by_cases h : m = 0
        · subst h
          have : acc = [] := by
            have := wt_len acc
            cases acc with
            | nil => rfl
            | cons x r => simp only [List.length_cons] at this; omega
          rw [this]
          exact acc_nil
        · rw [nm (by omega)]
          exact hacc
      · have := wtm
        rw [wt_cons, wt_one] at this
        rw [wt_cons, wt_cons]
        omega
end
end BD
/-! W22: views made. -/
namespace BD
open PySem PySem.Spec L2 TL
open PyProof.Rows hiding St
local macro_rules | `(tactic| walk_at "p") => `(tactic| (show (0 : Int) < _; decide))
theorem di_eq {a b : Int} (h : a = b) : decide (V.int a = V.int b) = true := decide_eq_true (by rw [h])
theorem di_ne {a b : Int} (h : a ≠ b) : decide (V.int a = V.int b) = false := decide_eq_false fun z => h (by injection z)
theorem or_i2 {i : Nat} {a b c : Int} {σ : L2.St} {H : Hp} {Q : Bool → Hp → Prop} (hσ : σ[i]? = some (some (.int a))) (h1 : a = b ∨ a = c → Q true H) (h2 : ¬ (a = b ∨ a = c) → Q false H) :
    tOr (tTest (tOp rEq (tVar i) (tC (.int b)))) (tTest (tOp rEq (tVar i) (tC (.int c)))) σ H Q := by
  refine ⟨_, hσ, rfl, _, rfl, ?_⟩
  by_cases e1 : a = b
  · rw [di_eq e1]
    exact iteT (h1 (.inl e1))
  · rw [di_ne e1]
    refine iteF ⟨_, hσ, rfl, _, rfl, ?_⟩
    by_cases e2 : a = c
    · rw [di_eq e2]
      exact h1 (.inr e2)
    · rw [di_ne e2]
      exact h2 fun z => z.elim e1 e2
theorem or_i0 {i j : Nat} {a b : Int} {σ : L2.St} {H : Hp} {Q : Bool → Hp → Prop} (hσ : σ[i]? = some (some (.int a))) (hσ2 : σ[j]? = some (some (.int b))) (h1 : a = 0 ∨ b < 2 → Q true H) (h2 : ¬ (a = 0 ∨ b < 2) → Q false H) :
    tOr (tTest (tOp rEq (tVar i) (tC (.int 0)))) (tTest (tOp (rI0 fun i j => .bl (decide (i < j))) (tVar j) (tC (.int 2)))) σ H Q := by
  refine ⟨_, hσ, rfl, _, rfl, ?_⟩
  by_cases e1 : a = 0
  · rw [di_eq e1]
    exact iteT (h1 (.inl e1))
  · rw [di_ne e1]
    refine iteF ⟨_, hσ2, _, _, rfl, rfl, _, rfl, ?_⟩
    by_cases e2 : b < 2
    · rw [decide_eq_true e2]
      exact h1 (.inr e2)
    · rw [decide_eq_false e2]
      exact h2 fun z => z.elim e1 e2
theorem viewW_gw : GW (("all" : Str)) ∧ GW (("unlike" : Str)) ∧ GW (("keep" : Str)) ∧ GW (("rows" : Str)) ∧ GW (("cap" : Str)) ∧ GW (("both" : Str)) ∧ GW (("match" : Str)) := by unfold GW; decide +kernel
theorem viewW_len : ("all" : Str).length = 3 ∧ ("unlike" : Str).length = 6 ∧ ("keep" : Str).length = 4 ∧ ("rows" : Str).length = 4 ∧ ("cap" : Str).length = 3 ∧ ("both" : Str).length = 4 ∧ ("match" : Str).length = 5 := by decide +kernel
section
variable {P : Program} {w : World} {K : PySem.W.Frag} {mg : Str → Option Value} {base : Heap}
abbrev okV (d : Nat) : List V → Hp → Prop := fun vs _ => ∃ c : Int, vs = [.int c, .int d]
abbrev okR (d : Nat) : List V → Hp → Prop := fun vs _ => 0 < d ∧ ∃ c : Int, vs = [.int c, .int ((d : Int) - 1)]
theorem sc__law_view_by : FnScope ["_law_cell", "_law_deep", "_law_way", "_law_view", "_law_words", "_law_k", "_law_term", "_law_more", "_law_lists", "_law_told", "_law_many", "_law_pairs"] ["_law_cell", "_law_deep"] (defScope (top 50)) := ⟨rfl, rfl, rfl, by decide +kernel, rfl, by decide +kernel, by decide +kernel⟩
theorem ok_view_step (T : Txt K mg w) (d : Nat) (hd2 : d ≤ 2) (R : FnOk P w K mg base CX0 (d + 3) T._law_view_by.f T._law_view_by.fd ["_law_cell", "_law_deep"] (spMade (viewP (d + 5)) (40 + 2080 * (d - 1)) (okR d))) :
    FnOk P w K mg base CX0 (d + 4) T._law_view_by.f T._law_view_by.fd ["_law_cell", "_law_deep"] (spMade (viewP (d + 6)) (40 + 2080 * d) (okV d)) := by
  refine T._law_view_by.F.ok sc__law_view_by (fun vs H Q E h => ?_) (fun cdv A outer s H vs Q E hr h => ?_)
  · obtain ⟨⟨c, rfl⟩, _⟩ := h
    rfl
  · obtain ⟨⟨c, rfl⟩, k⟩ := h
    refine ⟨_, (pss_cons (ps_set (i := 0) sc__law_view_by.nd rfl (Or.inl rfl) (pe_op op_mod (pv 0) (pe_op op_pow pe_int pe_int)))
      (pss_cons (ps_set (i := 2) sc__law_view_by.nd rfl (Or.inl rfl) (pe_op op_mod (pv 0) pe_int))
      (pss_cons (ps_if (PW.pt (pw_or (pt_cmpR op_eq (pv 1) pe_int (nomark _)) (pw_or1 (pt_cmpR op_lt (pv 2) pe_int (nomark _))))) (pss_cons (ps_set (i := 3) sc__law_view_by.nd rfl (Or.inl rfl) (pe_tup (pa_cons pe_str pa_nil)))
      (pss_cons (ps_set (i := 4) sc__law_view_by.nd rfl (Or.inl rfl) (pe_lst (pa_cons pe_str pa_nil)))
      (pss_cons (ps_for PassesOwn.never rfl (pi_range1 rfl T.n_range (pa_cons (pe_ix ix_list (pe_lst (pa_cons pe_int (pa_cons pe_int (pa_cons pe_int (pa_cons pe_int pa_nil))))) (pe_op op_mod (pe_op op_fdiv (pv 0) pe_int) pe_int) (fun _ _ => rfl)) pa_nil)) (pg_name (i := 5) sc__law_view_by.nd rfl (Or.inl rfl)) (pss_cons (ps_set (i := 3) sc__law_view_by.nd rfl (Or.inl rfl) (pe_tup (pa_cons pe_str (pa_cons (pv 3) pa_nil))))
      (pss_one (ps_set (i := 4) sc__law_view_by.nd rfl (Or.inl rfl) (pe_op op_cat (pe_lst (pa_cons pe_str pa_nil)) (pv 4))))))
      (pss_one (ps_ret (pe_tup (pa_cons (pv 3) (pa_cons (pv 4) pa_nil)))))))) pss_nil)
      (pss_cons (ps_asg (pe_call (R) (hr.mono (by first | decide | omega)) rfl T._law_view_by.g T._law_view_by.F.kp T._law_view_by.b .nil pass0 (pa_cons (pe_op op_fdiv (pv 0) pe_int) (pa_cons (pe_op op_sub (pv 1) pe_int) pa_nil))) (pg_tup rfl (pgs_cons (pg_name (i := 3) sc__law_view_by.nd rfl (Or.inl rfl)) (pgs_cons (pg_name (i := 4) sc__law_view_by.nd rfl (Or.inl rfl)) pgs_nil))))
      (pss_cons (ps_asg (pe_call (ok__law_term_by T) (hr.mono (by first | decide | omega)) rfl T._law_term_by.g T._law_term_by.F.kp T._law_term_by.b .nil pass0 (pa_cons (pe_op op_fdiv (pv 0) pe_int) pa_nil)) (pg_tup rfl (pgs_cons (pg_name (i := 6) sc__law_view_by.nd rfl (Or.inl rfl)) (pgs_cons (pg_name (i := 7) sc__law_view_by.nd rfl (Or.inl rfl)) pgs_nil))))
      (pss_cons (ps_if (PW.pt (pw_or (pt_cmpR op_eq (pv 2) pe_int (nomark _)) (pw_or1 (pt_cmpR op_eq (pv 2) pe_int (nomark _))))) (pss_one (ps_ret (pe_tup (pa_cons (pe_tup (pa_cons pe_str (pa_cons (pv 6) (pa_cons (pv 3) pa_nil)))) (pa_cons (pe_op op_cat (pe_op op_cat (pe_lst (pa_cons pe_str pa_nil)) (pv 7)) (pv 4)) pa_nil))))) pss_nil)
      (pss_cons (ps_if (pt_cmpR op_eq (pv 2) pe_int (nomark _)) (pss_cons (ps_asg (pe_call (ok__law_lists_by T) (hr.mono (by first | decide | omega)) rfl T._law_lists_by.g T._law_lists_by.F.kp T._law_lists_by.b .nil pass0 (pa_cons (pe_op op_fdiv (pv 0) pe_int) (pa_cons (pv 6) (pa_cons (pv 7) pa_nil)))) (pg_tup rfl (pgs_cons (pg_name (i := 8) sc__law_view_by.nd rfl (Or.inl rfl)) (pgs_cons (pg_name (i := 9) sc__law_view_by.nd rfl (Or.inl rfl)) pgs_nil))))
      (pss_one (ps_ret (pe_tup (pa_cons (pe_tup (pa_cons pe_str (pa_cons (pv 8) (pa_cons (pv 3) pa_nil)))) (pa_cons (pe_op op_cat (pe_op op_cat (pe_lst (pa_cons pe_str pa_nil)) (pv 9)) (pv 4)) pa_nil)))))) pss_nil)
      (pss_cons (ps_if (pt_cmpR op_eq (pv 2) pe_int (nomark _)) (pss_cons (ps_set (i := 10) sc__law_view_by.nd rfl (Or.inl rfl) (pe_call (ok__law_big T) (hr.mono (by first | decide | omega)) rfl T._law_big.g T._law_big.F.kp T._law_big.b .nil pass0 (pa_cons (pe_op op_fdiv (pv 0) pe_int) pa_nil)))
      (pss_one (ps_ret (pe_tup (pa_cons (pe_tup (pa_cons pe_str (pa_cons (pv 6) (pa_cons (pv 10) (pa_cons (pv 3) pa_nil))))) (pa_cons (pe_op op_cat (pe_op op_cat (pe_lst (pa_cons pe_str (pa_cons (pe_callTy call_str_int (by rfl) T.n_str (by decide +kernel) (pa_cons (pv 10) pa_nil)) pa_nil))) (pv 7)) (pv 4)) pa_nil)))))) pss_nil)
      (pss_cons (ps_if (pt_cmpR op_eq (pv 2) pe_int (nomark _)) (pss_one (ps_ret (pe_tup (pa_cons (pe_tup (pa_cons pe_str (pa_cons (pe_tup (pa_cons pe_str pa_nil)) (pa_cons (pv 3) pa_nil)))) (pa_cons (pe_op op_cat (pe_lst (pa_cons pe_str (pa_cons pe_str pa_nil))) (pv 4)) pa_nil))))) pss_nil)
      (pss_cons (ps_asg (pe_call (ok__law_pairs_by T) (hr.mono (by first | decide | omega)) rfl T._law_pairs_by.g T._law_pairs_by.F.kp T._law_pairs_by.b .nil pass0 (pa_cons (pe_op op_fdiv (pv 0) pe_int) pa_nil)) (pg_tup rfl (pgs_cons (pg_name (i := 11) sc__law_view_by.nd rfl (Or.inl rfl)) (pgs_cons (pg_name (i := 9) sc__law_view_by.nd rfl (Or.inl rfl)) pgs_nil))))
      (pss_one (ps_ret (pe_tup (pa_cons (pe_tup (pa_cons pe_str (pa_cons (pv 11) (pa_cons (pv 6) (pa_cons (pv 3) pa_nil))))) (pa_cons (pe_op op_cat (pe_op op_cat (pe_op op_cat (pe_lst (pa_cons pe_str pa_nil)) (pv 9)) (pv 7)) (pv 4)) pa_nil))))))))))))))), ?_⟩
    obtain ⟨g1, g2, g3, g4, g5, g6, g7⟩ := viewW_gw
    obtain ⟨n1, n2, n3, n4, n5, n6, n7⟩ := viewW_len
    refine ⟨_, rfl, _, _, rfl, rfl, ⟨by decide, by decide, by decide⟩, _, _, rfl, rfl, by walk_at "p", ?_⟩
    refine ⟨_, rfl, _, _, rfl, rfl, by walk_at "p", ?_⟩
    obtain ⟨c2, hc2⟩ : ∃ c2 : Int, c2 = c % 10 ^ (24 : Int).toNat := ⟨_, rfl⟩
    obtain ⟨way, hway⟩ : ∃ way : Int, way = c2 % 8 := ⟨_, rfl⟩
    show tSeq _ _ _ [some (.int (c % 10 ^ (24 : Int).toNat)), some (.int d), some (.int (c % 10 ^ (24 : Int).toNat % 8)), none, none, none, none, none, none, none, none, none] H
    rw [← hc2, ← hway]
    refine or_i0 rfl rfl (fun _ => ?_) (fun hno => ?_)
    · refine iteT ⟨sz1, fun t ht => ⟨sz1, fun a ha => ⟨sz1000 (by decide), fun u hu => ?_⟩⟩⟩
      obtain ⟨j, x, ej, hx⟩ := mod_at (l := [V.int 0, .int 0, .int 0, .int 5]) (c := c2 / 8) (n := 4) rfl (by decide)
      have hx2 : ∃ m : Nat, x = .int m ∧ m ≤ 5 := by
        have := List.mem_of_getElem? hx
        simp only [List.mem_cons, List.not_mem_nil, or_false] at this
        rcases this with h | h | h | h
        · exact ⟨0, h, by decide⟩
        · exact ⟨0, h, by decide⟩
        · exact ⟨0, h, by decide⟩
        · exact ⟨5, h, by decide⟩
      obtain ⟨m, rfl, hm⟩ := hx2
      refine ⟨_, rfl, _, _, rfl, rfl, ⟨by decide, by decide⟩, _, _, rfl, rfl, by walk_at "p", u, _, _, .int m, rfl, rfl, SqL.of upd_same, at_of ej hx, _, rfl, by omega, by omega, ?_⟩
      refine for_range (lo := 0) (n := m) (fun i σ' H' => ∃ (v : V) (l : Addr) (ws : Ws) (o5 : Option V), σ' = [some (.int c2), some (.int d), some (.int way), some v, some (.ref l), o5, none, none, none, none, none, none] ∧ H' l = some (.lst (ws.map V.str)) ∧ WB (viewP (1 + i)) (4 + 7 * i) ws ∧ Same H H') ?_ ?_ ?_
      · exact ⟨.ref t, a, [("all" : Str)], none, rfl, Same.laid hu _ _ upd_same, ⟨eat_all, gws_one g1, by rw [wt_one, n1]; decide⟩, Same.trans' (Same.laid ht) (Same.trans' (Same.laid ha) (Same.laid hu))⟩
      · rintro i σ H4 hi ⟨v, l, ws, o5, rfl, hl, hW, S4⟩
        have := hW.len
        refine ⟨_, rfl, sz2, fun q hq => ⟨sz1, fun b hb => ⟨_, rfl, cat_ll (pre := [("unlike" : Str)]) upd_same (Same.laid hb _ _ (Same.laid hq _ _ hl)) (by simp only [List.length_cons, List.length_nil]; omega) fun H5 e he S5 e5 => ?_⟩⟩⟩
        refine ⟨.ref q, e, _, _, rfl, e5, ⟨?_, gws_app (gws_one g2) hW.2.1, ?_⟩, Same.trans' (Same.trans' (Same.trans' S4 (Same.laid hq)) (Same.laid hb)) S5⟩
        · have := eat_unlike hW.1
          rw [show 1 + (i + 1) = 1 + i + 1 by omega]
          exact this
        · rw [wt_app, wt_one, n2]
          have := hW.2.2
          omega
      · rintro σ H4 ⟨v, l, ws, o5, rfl, hl, hW, S4⟩
        refine ⟨_, rfl, _, rfl, sz2, fun q hq => ?_⟩
        exact k _ q v l ws upd_same (Same.laid hq _ _ hl) ⟨eatV_mono_le hW.1 (by omega), hW.2.1, by have := hW.2.2; omega⟩ (Same.trans' S4 (Same.laid hq))
    · have hd0 : 0 < d := by
        rcases Nat.eq_zero_or_pos d with h | h
        · exact absurd (.inl (by omega)) hno
        · exact h
      refine iteF ⟨_, rfl, _, _, rfl, rfl, ⟨by decide, by decide⟩, _, rfl, _, _, rfl, rfl, ⟨hd0, _, rfl⟩, fun H1 p v l ws hp hl hW S1 => ⟨p, _, rfl, SqT.of hp, rfl, _, _, rfl, _, _, rfl, rfl, ?_⟩⟩
      refine ⟨_, rfl, _, _, rfl, rfl, ⟨by decide, by decide⟩, ⟨_, rfl⟩, fun H2 p2 v2 l2 ws2 hp2 hl2 hW2 S2 => ⟨p2, _, rfl, SqT.of hp2, rfl, _, _, rfl, _, _, rfl, rfl, ?_⟩⟩
      have s2 := Same.trans' S1 S2
      have hl' := S2 _ _ hl
      have len1 := hW.len
      have len2 := hW2.len
      have w1 := hW.2.2
      have w2 := hW2.2.2
      have e56 : d + 5 + 1 = d + 6 := rfl
      have bnd : 40 + 2080 * (d - 1) + 2080 ≤ 40 + 2080 * d := by omega
      refine or_i2 rfl (fun _ => ?_) (fun _ => ?_)
      · refine iteT ⟨_, rfl, _, rfl, sz3, fun q hq => ⟨sz1, fun a ha => ?_⟩⟩
        have s3 := Same.trans' (Same.laid (o := .tup [.str "keep", v2, v]) hq) (Same.laid (o := .lst [.str "keep"]) ha)
        refine ⟨_, rfl, cat_ll (pre := [("keep" : Str)]) upd_same (s3 _ _ hl2) (by simp only [List.length_cons, List.length_nil]; omega) fun H5 e he S5 e5 => ⟨_, rfl, cat_ll e5 (S5 _ _ (s3 _ _ hl')) (by simp only [List.length_append, List.length_cons, List.length_nil]; omega) fun H6 f hf S6 e6 => ⟨sz2, fun z hz => ?_⟩⟩⟩
        refine k _ z _ f _ upd_same (Same.laid hz _ _ e6) ⟨?_, gws_app (gws_app (gws_one g3) hW2.2.1) hW.2.1, ?_⟩ (Same.trans' (Same.trans' s2 s3) (Same.trans' (Same.trans' S5 S6) (Same.laid hz)))
        · have := eat_keep hW2.1 hW.1
          simpa [List.append_assoc] using this
        · rw [wt_app, wt_app, wt_one, n3]
          omega
      refine iteF ⟨_, rfl, rfl, _, rfl, ?_⟩
      refine ite2 (fun _ => ?_) (fun _ => ?_)
      · refine ⟨_, rfl, _, _, rfl, rfl, ⟨by decide, by decide⟩, _, rfl, _, rfl, ⟨_, v2, l2, ws2, rfl, hl2, hW2⟩, fun H3 p3 v3 l3 ws3 hp3 hl3 hW3 S3 => ⟨p3, _, rfl, SqT.of hp3, rfl, _, _, rfl, _, _, rfl, rfl, ?_⟩⟩
        have len3 := hW3.len
        have w3 := hW3.2.2
        refine ⟨_, rfl, _, rfl, sz3, fun q hq => ⟨sz1, fun a ha => ?_⟩⟩
        have s3 := Same.trans' (Same.laid (o := .tup [.str "rows", v3, v]) hq) (Same.laid (o := .lst [.str "rows"]) ha)
        refine ⟨_, rfl, cat_ll (pre := [("rows" : Str)]) upd_same (s3 _ _ hl3) (by simp only [List.length_cons, List.length_nil]; omega) fun H5 e he S5 e5 => ⟨_, rfl, cat_ll e5 (S5 _ _ (s3 _ _ (S3 _ _ hl'))) (by simp only [List.length_append, List.length_cons, List.length_nil]; omega) fun H6 f hf S6 e6 => ⟨sz2, fun z hz => ?_⟩⟩⟩
        refine k _ z _ f _ upd_same (Same.laid hz _ _ e6) ⟨?_, gws_app (gws_app (gws_one g4) hW3.2.1) hW.2.1, ?_⟩ (Same.trans' (Same.trans' s2 (Same.trans' S3 s3)) (Same.trans' (Same.trans' S5 S6) (Same.laid hz)))
        · have := eat_rows hW3.1 hW.1
          simpa [List.append_assoc] using this
        · rw [wt_app, wt_app, wt_one, n4]
          omega
      refine ⟨_, rfl, rfl, _, rfl, ?_⟩
      refine ite2 (fun _ => ?_) (fun _ => ?_)
      · refine ⟨_, rfl, _, _, rfl, rfl, ⟨by decide, by decide⟩, _, rfl, fun n H3 b1 b2 S3 => ?_⟩
        refine ⟨_, rfl, _, rfl, _, rfl, sz4, fun q hq => ⟨_, rfl, n, rfl, E19_lg b1 b2, sz2, fun a ha => ?_⟩⟩
        have s3 := Same.trans' (Same.laid (o := .tup [.str "cap", v2, .int n, v]) hq) (Same.laid (o := .lst [.str "cap", .str (strI n)]) ha)
        have h20 := strI_len b1 b2
        refine ⟨_, rfl, cat_ll (pre := [("cap" : Str), strI n]) upd_same (s3 _ _ (S3 _ _ hl2)) (by simp only [List.length_cons, List.length_nil]; omega) fun H5 e he S5 e5 => ⟨_, rfl, cat_ll e5 (S5 _ _ (s3 _ _ (S3 _ _ hl'))) (by simp only [List.length_append, List.length_cons, List.length_nil]; omega) fun H6 f hf S6 e6 => ⟨sz2, fun z hz => ?_⟩⟩⟩
        refine k _ z _ f _ upd_same (Same.laid hz _ _ e6) ⟨?_, gws_app (gws_app (gws_cons g5 (gws_one (gw_strI b1 b2))) hW2.2.1) hW.2.1, ?_⟩ (Same.trans' (Same.trans' s2 (Same.trans' S3 s3)) (Same.trans' (Same.trans' S5 S6) (Same.laid hz)))
        · have := eat_cap b1 b2 hW2.1 hW.1
          simpa [List.append_assoc] using this
        · rw [wt_app, wt_app, wt_cons, wt_one, n5]
          omega
      refine ⟨_, rfl, rfl, _, rfl, ?_⟩
      refine ite2 (fun _ => ?_) (fun _ => ?_)
      · refine ⟨sz1, fun t ht => ⟨_, rfl, sz3, fun q hq => ⟨sz2, fun a ha => ?_⟩⟩⟩
        have s3 := Same.trans' (Same.laid (o := .tup [.str "all"]) ht) (Same.trans' (Same.laid (o := .tup [.str "both", .ref t, v]) hq) (Same.laid (o := .lst [.str "both", .str "all"]) ha))
        refine ⟨_, rfl, cat_ll (pre := [("both" : Str), ("all" : Str)]) upd_same (s3 _ _ hl') (by simp only [List.length_cons, List.length_nil]; omega) fun H6 f hf S6 e6 => ⟨sz2, fun z hz => ?_⟩⟩
        refine k _ z _ f _ upd_same (Same.laid hz _ _ e6) ⟨?_, gws_app (gws_cons g6 (gws_one g1)) hW.2.1, ?_⟩ (Same.trans' (Same.trans' s2 s3) (Same.trans' S6 (Same.laid hz)))
        · have h1 : Eat (viewP (d + 5)) [("all" : Str)] := eat_all
          have := eat_both h1 hW.1
          simpa [List.append_assoc] using this
        · rw [wt_app, wt_cons, wt_one, n6, n1]
          omega
      refine ⟨_, rfl, _, _, rfl, rfl, ⟨by decide, by decide⟩, ⟨_, rfl⟩, fun H3 p3 v3 l3 ws3 hp3 hl3 hW3 S3 => ⟨p3, _, rfl, SqT.of hp3, rfl, _, _, rfl, _, _, rfl, rfl, ?_⟩⟩
      have len3 := hW3.len
      have w3 := hW3.2.2
      refine ⟨_, rfl, _, rfl, _, rfl, sz4, fun q hq => ⟨sz1, fun a ha => ?_⟩⟩
      have s3 := Same.trans' (Same.laid (o := .tup [.str "match", v3, v2, v]) hq) (Same.laid (o := .lst [.str "match"]) ha)
      refine ⟨_, rfl, cat_ll (pre := [("match" : Str)]) upd_same (s3 _ _ hl3) (by simp only [List.length_cons, List.length_nil]; omega) fun H5 e he S5 e5 => ⟨_, rfl, cat_ll e5 (S5 _ _ (s3 _ _ (S3 _ _ hl2))) (by simp only [List.length_append, List.length_cons, List.length_nil]; omega) fun H6 f hf S6 e6 => ⟨_, rfl, cat_ll e6 (S6 _ _ (S5 _ _ (s3 _ _ (S3 _ _ hl')))) (by simp only [List.length_append, List.length_cons, List.length_nil]; omega) fun H7 g hg S7 e7 => ⟨sz2, fun z hz => ?_⟩⟩⟩⟩
      refine k _ z _ g _ upd_same (Same.laid hz _ _ e7) ⟨?_, gws_app (gws_app (gws_app (gws_one g7) hW3.2.1) hW2.2.1) hW.2.1, ?_⟩ (Same.trans' (Same.trans' s2 (Same.trans' S3 s3)) (Same.trans' (Same.trans' (Same.trans' S5 S6) S7) (Same.laid hz)))
      · have := eat_match hW3.1 hW2.1 hW.1
        simpa [List.append_assoc] using this
      · rw [wt_app, wt_app, wt_app, wt_one, n7]
        omega
theorem ok_view0 (T : Txt K mg w) : FnOk P w K mg base CX0 4 T._law_view_by.f T._law_view_by.fd ["_law_cell", "_law_deep"] (spMade (viewP 6) 40 (okV 0)) :=
  ok_view_step T 0 (by decide) ((T._law_view_by.F.ok sc__law_view_by (sp := fun _ _ _ _ => False) (fun _ _ _ _ h => h.elim) (fun _ _ _ _ _ _ _ _ _ h => h.elim)).imp fun _ _ _ _ h => absurd h.1.1 (by decide))
theorem ok_view1 (T : Txt K mg w) : FnOk P w K mg base CX0 5 T._law_view_by.f T._law_view_by.fd ["_law_cell", "_law_deep"] (spMade (viewP 7) 2120 (okV 1)) :=
  ok_view_step T 1 (by decide) ((ok_view0 T).imp fun vs H Q E h => by
    obtain ⟨⟨_, c, e⟩, k⟩ := h
    exact ⟨⟨c, e⟩, k⟩)
theorem ok__law_view_by (T : Txt K mg w) : FnOk P w K mg base CX0 6 T._law_view_by.f T._law_view_by.fd ["_law_cell", "_law_deep"] (spMade (viewP 8) 4200 (okV 2)) :=
  ok_view_step T 2 (by decide) ((ok_view1 T).imp fun vs H Q E h => by
    obtain ⟨⟨_, c, e⟩, k⟩ := h
    exact ⟨⟨c, e⟩, k⟩)
end
end BD
/-! W23: sources and blocks made. -/
namespace BD
open PySem PySem.Spec L2 TL
open PyProof.Rows hiding St
local macro_rules | `(tactic| walk_at "p") => `(tactic| (show (0 : Int) < _; decide))
theorem srcW_gw : GW (("count" : Str)) ∧ GW (("of" : Str)) ∧ GW (("kinds" : Str)) ∧ GW (("sum" : Str)) ∧ GW (("if" : Str)) ∧ GW (("parts" : Str)) ∧ GW (("on" : Str)) ∧ GW (("draw" : Str)) := by unfold GW; decide +kernel
theorem srcW_len : ("count" : Str).length = 5 ∧ ("of" : Str).length = 2 ∧ ("kinds" : Str).length = 5 ∧ ("sum" : Str).length = 3 ∧ ("if" : Str).length = 2 ∧ ("parts" : Str).length = 5 ∧ ("on" : Str).length = 2 ∧ ("draw" : Str).length = 4 := by decide +kernel
/-- a line: a row of kind k, no row end, with its row end no more than b signs -/
def LB (k : RK) (b : Nat) (line : Str) : Prop := rowP line = some k ∧ 10 ∉ tl line ∧ line.length + 1 ≤ b
theorem wt_join (ws : Ws) (h : ws ≠ []) : (Txt.join sp1 ws).length + 1 ≤ wt ws := by
  have e1 : (tl sp1).length = 1 := by rw [tl_sp]; rfl
  rw [join_eq, len_tl, tl_join]
  induction ws with
  | nil => exact absurd rfl h
  | cons a r ih =>
    rw [wt_cons]
    cases r with
    | nil =>
      show (tl a).length + 1 ≤ _
      rw [len_tl]
      omega
    | cons b r =>
      have := ih (by simp)
      show (tl a ++ (tl sp1 ++ joinL (tl sp1) ((b :: r).map tl))).length + 1 ≤ _
      rw [List.length_append, List.length_append, ← len_tl a, e1]
      omega
theorem LB_of {k : RK} {b : Nat} {ws : Ws} (h : rowW ws = some k) (g : GWs ws) (hb : wt ws ≤ b) : LB k b (Txt.join sp1 ws) := by
  refine ⟨rowP_join g h, join_no_nl g, Nat.le_trans (wt_join ws fun z => ?_) hb⟩
  rw [z] at h
  cases h
theorem wt_sum (ws : Ws) : (ws.map (·.length)).sum + ws.length * 1 = wt ws := by
  induction ws with
  | nil => rfl
  | cons a r ih =>
    rw [wt_cons, List.map_cons, List.sum_cons, List.length_cons]
    omega
theorem join_ok {ws : Ws} {b : Nat} (h : wt ws ≤ b) (hb : b ≤ 16000000) : (ws.map (·.length)).sum + ws.length * sp1.length ≤ 16777216 := by
  have e1 : sp1.length = 1 := by decide +kernel
  rw [e1, wt_sum]
  omega
theorem eat_fin {f : Ws → Option Ws} {ws : Ws} {k : RK} (h : Eat f ws) : fin (f ws) k = some k := by
  have := h []
  rw [List.append_nil] at this
  rw [this]
  rfl
section
variable {P : Program} {w : World} {K : PySem.W.Frag} {mg : Str → Option Value} {base : Heap}
def sp_source : Sp := fun vs H Q _ => (∃ c : Int, vs = [.int c]) ∧ ∀ H' p src u m l ws, H' p = some (.tup [.ref src, .ref l]) → H' src = some (.tup [u, m]) → H' l = some (.lst (ws.map V.str)) → WB askedP 4400 ws → Same H H' → Q (.ref p) H'
theorem sc__law_source_by : FnScope ["_law_cell", "_law_view", "_law_words", "_law_term", "_law_more", "_law_low", "_law_high"] ["_law_cell"] (defScope (top 51)) := ⟨rfl, rfl, rfl, by decide +kernel, rfl, by decide +kernel, by decide +kernel⟩
theorem ok__law_source_by (T : Txt K mg w) : FnOk P w K mg base CX0 7 T._law_source_by.f T._law_source_by.fd ["_law_cell"] sp_source := by
  refine T._law_source_by.F.ok sc__law_source_by (fun vs H Q E h => ?_) (fun cdv A outer s H vs Q E hr h => ?_)
  · obtain ⟨⟨c, rfl⟩, _⟩ := h
    rfl
  · obtain ⟨⟨c, rfl⟩, k⟩ := h
    refine ⟨_, (pss_cons (ps_set (i := 0) sc__law_source_by.nd rfl (Or.inl rfl) (pe_op op_mod (pv 0) (pe_op op_pow pe_int pe_int)))
      (pss_cons (ps_asg (pe_call (ok__law_view_by T) (hr.mono (by first | decide | omega)) rfl T._law_view_by.g T._law_view_by.F.kp T._law_view_by.b .nil pass0 (pa_cons (pe_op op_fdiv (pv 0) pe_int) (pa_cons pe_int pa_nil))) (pg_tup rfl (pgs_cons (pg_name (i := 1) sc__law_source_by.nd rfl (Or.inl rfl)) (pgs_cons (pg_name (i := 2) sc__law_source_by.nd rfl (Or.inl rfl)) pgs_nil))))
      (pss_cons (ps_asg (pe_call (ok__law_term_by T) (hr.mono (by first | decide | omega)) rfl T._law_term_by.g T._law_term_by.F.kp T._law_term_by.b .nil pass0 (pa_cons (pe_op op_fdiv (pv 0) pe_int) pa_nil)) (pg_tup rfl (pgs_cons (pg_name (i := 3) sc__law_source_by.nd rfl (Or.inl rfl)) (pgs_cons (pg_name (i := 4) sc__law_source_by.nd rfl (Or.inl rfl)) pgs_nil))))
      (pss_cons (ps_if (pt_cmpR op_eq (pe_op op_mod (pv 0) pe_int) pe_int (nomark _)) (pss_one (ps_ret (pe_tup (pa_cons (pe_tup (pa_cons (pv 1) (pa_cons (pe_tup (pa_cons pe_str pa_nil)) pa_nil))) (pa_cons (pe_op op_cat (pe_lst (pa_cons pe_str (pa_cons pe_str pa_nil))) (pv 2)) pa_nil))))) pss_nil)
      (pss_cons (ps_if (pt_cmpR op_eq (pe_op op_mod (pv 0) pe_int) pe_int (nomark _)) (pss_one (ps_ret (pe_tup (pa_cons (pe_tup (pa_cons (pv 1) (pa_cons (pe_tup (pa_cons pe_str (pa_cons (pv 3) pa_nil))) pa_nil))) (pa_cons (pe_op op_cat (pe_op op_cat (pe_op op_cat (pe_lst (pa_cons pe_str pa_nil)) (pv 4)) (pe_lst (pa_cons pe_str pa_nil))) (pv 2)) pa_nil))))) pss_nil)
      (pss_cons (ps_set (i := 5) sc__law_source_by.nd rfl (Or.inl rfl) (pe_call (ok__law_big T) (hr.mono (by first | decide | omega)) rfl T._law_big.g T._law_big.F.kp T._law_big.b .nil pass0 (pa_cons (pe_op op_fdiv (pv 0) pe_int) pa_nil)))
      (pss_cons (ps_set (i := 6) sc__law_source_by.nd rfl (Or.inl rfl) (pe_call (ok__law_big T) (hr.mono (by first | decide | omega)) rfl T._law_big.g T._law_big.F.kp T._law_big.b .nil pass0 (pa_cons (pe_op op_fdiv (pv 0) pe_int) pa_nil)))
      (pss_one (ps_ret (pe_tup (pa_cons (pe_tup (pa_cons (pv 1) (pa_cons (pe_tup (pa_cons pe_str (pa_cons (pv 3) (pa_cons (pv 5) (pa_cons (pv 6) pa_nil))))) pa_nil))) (pa_cons (pe_op op_cat (pe_op op_cat (pe_op op_cat (pe_lst (pa_cons pe_str (pa_cons (pe_callTy call_str_int (by rfl) T.n_str (by decide +kernel) (pa_cons (pv 5) pa_nil)) (pa_cons (pe_callTy call_str_int (by rfl) T.n_str (by decide +kernel) (pa_cons (pv 6) pa_nil)) pa_nil)))) (pv 4)) (pe_lst (pa_cons pe_str pa_nil))) (pv 2)) pa_nil)))))))))))), ?_⟩
    obtain ⟨g1, g2, g3, g4, _⟩ := srcW_gw
    obtain ⟨n1, n2, n3, n4, _⟩ := srcW_len
    refine ⟨_, rfl, _, _, rfl, rfl, ⟨by decide, by decide, by decide⟩, _, _, rfl, rfl, by walk_at "p", ?_⟩
    refine ⟨_, rfl, _, _, rfl, rfl, ⟨by decide, by decide⟩, ⟨_, rfl⟩, fun H1 p v l ws hp hl hW S1 => ⟨p, _, rfl, SqT.of hp, rfl, _, _, rfl, _, _, rfl, rfl, ?_⟩⟩
    refine ⟨_, rfl, _, _, rfl, rfl, ⟨by decide, by decide⟩, ⟨_, rfl⟩, fun H2 p2 v2 l2 ws2 hp2 hl2 hW2 S2 => ⟨p2, _, rfl, SqT.of hp2, rfl, _, _, rfl, _, _, rfl, rfl, ?_⟩⟩
    have s2 := Same.trans' S1 S2
    have hl' := S2 _ _ hl
    have len1 := hW.len
    have len2 := hW2.len
    have w1 := hW.2.2
    have w2 := hW2.2.2
    refine ⟨_, rfl, _, _, rfl, rfl, by walk_at "p", rfl, _, rfl, ?_⟩
    refine ite2 (fun _ => ?_) (fun _ => ?_)
    · refine ⟨_, rfl, sz1, fun t ht => ⟨sz2, fun q hq => ⟨sz2, fun a ha => ?_⟩⟩⟩
      have s3 := Same.trans' (Same.laid (o := .tup [.str "count"]) ht) (Same.trans' (Same.laid (o := .tup [v, .ref t]) hq) (Same.laid (o := .lst [.str "count", .str "of"]) ha))
      have hq3 := Same.laid (o := .lst [.str "count", .str "of"]) ha _ _ (show (upd (upd H2 t (.tup [.str "count"])) q (.tup [v, .ref t])) q = some (.tup [v, .ref t]) from upd_same)
      refine ⟨_, rfl, cat_ll (pre := [("count" : Str), ("of" : Str)]) upd_same (s3 _ _ hl') (by simp only [List.length_cons, List.length_nil]; omega) fun H6 f hf S6 e6 => ⟨sz2, fun z hz => ?_⟩⟩
      refine k _ z q _ _ f _ upd_same (Same.laid hz _ _ (S6 _ _ hq3)) (Same.laid hz _ _ e6) ⟨?_, gws_app (gws_cons g1 (gws_one g2)) hW.2.1, ?_⟩ (Same.trans' (Same.trans' s2 s3) (Same.trans' S6 (Same.laid hz)))
      · have := eat_asked eat_count hW.1
        simpa [List.append_assoc] using this
      · rw [wt_app, wt_cons, wt_one, n1, n2]
        omega
    refine ⟨_, rfl, _, _, rfl, rfl, by walk_at "p", rfl, _, rfl, ?_⟩
    refine ite2 (fun _ => ?_) (fun _ => ?_)
    · refine ⟨_, rfl, _, rfl, sz2, fun t ht => ⟨sz2, fun q hq => ⟨sz1, fun a ha => ?_⟩⟩⟩
      have s3 := Same.trans' (Same.laid (o := .tup [.str "kinds", v2]) ht) (Same.trans' (Same.laid (o := .tup [v, .ref t]) hq) (Same.laid (o := .lst [.str "kinds"]) ha))
      have hq3 := Same.laid (o := .lst [.str "kinds"]) ha _ _ (show (upd (upd H2 t (.tup [.str "kinds", v2])) q (.tup [v, .ref t])) q = some (.tup [v, .ref t]) from upd_same)
      refine ⟨_, rfl, cat_ll (pre := [("kinds" : Str)]) upd_same (s3 _ _ hl2) (by simp only [List.length_cons, List.length_nil]; omega) fun H4 e he S4 e4 => ⟨sz1, fun b hb => cat_ll (ws := [("of" : Str)]) (Same.laid hb _ _ e4) upd_same (by simp only [List.length_append, List.length_cons, List.length_nil]; omega) fun H5 f hf S5 e5 => ⟨_, rfl, cat_ll e5 (S5 _ _ (Same.laid hb _ _ (S4 _ _ (s3 _ _ hl')))) (by simp only [List.length_append, List.length_cons, List.length_nil]; omega) fun H6 g hg S6 e6 => ⟨sz2, fun z hz => ?_⟩⟩⟩⟩
      have s6 := Same.trans' S4 (Same.trans' (Same.laid (o := .lst [.str "of"]) hb) (Same.trans' S5 S6))
      refine k _ z q _ _ g _ upd_same (Same.laid hz _ _ (s6 _ _ hq3)) (Same.laid hz _ _ e6) ⟨?_, gws_app (gws_app (gws_app (gws_one g3) hW2.2.1) (gws_one g2)) hW.2.1, ?_⟩ (Same.trans' (Same.trans' s2 s3) (Same.trans' s6 (Same.laid hz)))
      · have := eat_asked (eat_kinds hW2.1) hW.1
        simpa [List.append_assoc] using this
      · rw [wt_app, wt_app, wt_app, wt_one, wt_one, n3, n2]
        omega
    refine ⟨_, rfl, _, _, rfl, rfl, ⟨by decide, by decide⟩, _, rfl, fun lo H3 b1 b2 S3 => ?_⟩
    refine ⟨_, rfl, _, _, rfl, rfl, ⟨by decide, by decide⟩, _, rfl, fun hi H4 b3 b4 S4 => ?_⟩
    have h20 := strI_len b1 b2
    have h21 := strI_len b3 b4
    have s4 := Same.trans' S3 S4
    refine ⟨_, rfl, _, rfl, _, rfl, _, rfl, sz4, fun t ht => ⟨sz2, fun q hq => ⟨_, rfl, lo, rfl, E19_lg b1 b2, _, rfl, hi, rfl, E19_lg b3 b4, sz3, fun a ha => ?_⟩⟩⟩
    have s3 := Same.trans' s4 (Same.trans' (Same.laid (o := .tup [.str "sum", v2, .int lo, .int hi]) ht) (Same.trans' (Same.laid (o := .tup [v, .ref t]) hq) (Same.laid (o := .lst [.str "sum", .str (strI lo), .str (strI hi)]) ha)))
    have hq3 := Same.laid (o := .lst [.str "sum", .str (strI lo), .str (strI hi)]) ha _ _ (show (upd (upd H4 t (.tup [.str "sum", v2, .int lo, .int hi])) q (.tup [v, .ref t])) q = some (.tup [v, .ref t]) from upd_same)
    refine ⟨_, rfl, cat_ll (pre := [("sum" : Str), strI lo, strI hi]) upd_same (s3 _ _ hl2) (by simp only [List.length_cons, List.length_nil]; omega) fun H5 e he S5 e5 => ⟨sz1, fun b hb => cat_ll (ws := [("of" : Str)]) (Same.laid hb _ _ e5) upd_same (by simp only [List.length_append, List.length_cons, List.length_nil]; omega) fun H6 f hf S6 e6 => ⟨_, rfl, cat_ll e6 (S6 _ _ (Same.laid hb _ _ (S5 _ _ (s3 _ _ hl')))) (by simp only [List.length_append, List.length_cons, List.length_nil]; omega) fun H7 g hg S7 e7 => ⟨sz2, fun z hz => ?_⟩⟩⟩⟩
    have s6 := Same.trans' S5 (Same.trans' (Same.laid (o := .lst [.str "of"]) hb) (Same.trans' S6 S7))
    refine k _ z q _ _ g _ upd_same (Same.laid hz _ _ (s6 _ _ hq3)) (Same.laid hz _ _ e7) ⟨?_, gws_app (gws_app (gws_app (gws_cons g4 (gws_cons (gw_strI b1 b2) (gws_one (gw_strI b3 b4)))) hW2.2.1) (gws_one g2)) hW.2.1, ?_⟩ (Same.trans' (Same.trans' s2 s3) (Same.trans' s6 (Same.laid hz)))
    · have := eat_asked (eat_sum b1 b2 b3 b4 hW2.1) hW.1
      simpa [List.append_assoc] using this
    · rw [wt_app, wt_app, wt_app, wt_cons, wt_cons, wt_one, wt_one, n4, n2]
      omega
def sp_opened : Sp := fun vs H Q _ => (∃ c : Int, vs = [.int c]) ∧ ∀ H' p hd sh rv line b tl, H p = none → H sh = none → p ≠ sh → H' p = some (.lst [.ref hd, .ref sh, rv, .str line]) → H' hd = some (.tup (.str (hn (some b)) :: tl)) → tl.length ≤ 2 → H' sh = some (.lst []) → b ≠ .els → b ≠ .key →
  (b = .parts → rv = .non) → (b ≠ .parts → ∃ rw, rv = .ref rw ∧ H' rw = some (.lst []) ∧ H rw = none ∧ rw ≠ sh ∧ rw ≠ p) → LB (.opn b) 9000 line → Same H H' → Q (.ref p) H'
theorem sc__law_opened : FnScope ["_law_cell", "_law_way", "_law_term", "_law_words", "_law_a", "_law_b", "_law_view"] ["_law_cell"] (defScope (top 53)) := ⟨rfl, rfl, rfl, by decide +kernel, rfl, by decide +kernel, by decide +kernel⟩
theorem ok__law_opened (T : Txt K mg w) : FnOk P w K mg base CX0 7 T._law_opened.f T._law_opened.fd ["_law_cell"] sp_opened := by
  refine T._law_opened.F.ok sc__law_opened (fun vs H Q E h => ?_) (fun cdv A outer s H vs Q E hr h => ?_)
  · obtain ⟨⟨c, rfl⟩, _⟩ := h
    rfl
  · obtain ⟨⟨c, rfl⟩, k⟩ := h
    refine ⟨_, (pss_cons (ps_set (i := 1) sc__law_opened.nd rfl (Or.inl rfl) (pe_op op_mod (pv 0) pe_int))
      (pss_cons (ps_if (pt_cmpR op_eq (pv 1) pe_int (nomark _)) (pss_cons (ps_asg (pe_call (ok__law_term_by T) (hr.mono (by first | decide | omega)) rfl T._law_term_by.g T._law_term_by.F.kp T._law_term_by.b .nil pass0 (pa_cons (pe_op op_fdiv (pv 0) pe_int) pa_nil)) (pg_tup rfl (pgs_cons (pg_name (i := 2) sc__law_opened.nd rfl (Or.inl rfl)) (pgs_cons (pg_name (i := 3) sc__law_opened.nd rfl (Or.inl rfl)) pgs_nil))))
      (pss_one (ps_ret (pe_lst (pa_cons (pe_tup (pa_cons pe_str (pa_cons (pv 2) pa_nil))) (pa_cons (pe_lst pa_nil) (pa_cons (pe_lst pa_nil) (pa_cons (pe_join pe_str (pe_op op_cat (pe_lst (pa_cons pe_str pa_nil)) (pv 3))) pa_nil)))))))) pss_nil)
      (pss_cons (ps_if (pt_cmpR op_eq (pv 1) pe_int (nomark _)) (pss_cons (ps_asg (pe_call (ok__law_term_by T) (hr.mono (by first | decide | omega)) rfl T._law_term_by.g T._law_term_by.F.kp T._law_term_by.b .nil pass0 (pa_cons (pe_op op_fdiv (pv 0) pe_int) pa_nil)) (pg_tup rfl (pgs_cons (pg_name (i := 2) sc__law_opened.nd rfl (Or.inl rfl)) (pgs_cons (pg_name (i := 3) sc__law_opened.nd rfl (Or.inl rfl)) pgs_nil))))
      (pss_one (ps_ret (pe_lst (pa_cons (pe_tup (pa_cons pe_str (pa_cons (pv 2) pa_nil))) (pa_cons (pe_lst pa_nil) (pa_cons pe_non (pa_cons (pe_join pe_str (pe_op op_cat (pe_lst (pa_cons pe_str pa_nil)) (pv 3))) pa_nil)))))))) pss_nil)
      (pss_cons (ps_if (pt_cmpR op_eq (pv 1) pe_int (nomark _)) (pss_cons (ps_set (i := 4) sc__law_opened.nd rfl (Or.inl rfl) (pe_call (ok__law_big T) (hr.mono (by first | decide | omega)) rfl T._law_big.g T._law_big.F.kp T._law_big.b .nil pass0 (pa_cons (pe_op op_fdiv (pv 0) pe_int) pa_nil)))
      (pss_cons (ps_set (i := 5) sc__law_opened.nd rfl (Or.inl rfl) (pe_call (ok__law_big T) (hr.mono (by first | decide | omega)) rfl T._law_big.g T._law_big.F.kp T._law_big.b .nil pass0 (pa_cons (pe_op op_fdiv (pv 0) pe_int) pa_nil)))
      (pss_one (ps_ret (pe_lst (pa_cons (pe_tup (pa_cons pe_str (pa_cons (pv 4) (pa_cons (pv 5) pa_nil)))) (pa_cons (pe_lst pa_nil) (pa_cons (pe_lst pa_nil) (pa_cons (pe_op op_add_str (pe_op op_add_str (pe_op op_add_str pe_str (pe_callTy call_str_int (by rfl) T.n_str (by decide +kernel) (pa_cons (pv 4) pa_nil))) pe_str) (pe_callTy call_str_int (by rfl) T.n_str (by decide +kernel) (pa_cons (pv 5) pa_nil))) pa_nil))))))))) pss_nil)
      (pss_cons (ps_asg (pe_call (ok__law_view_by T) (hr.mono (by first | decide | omega)) rfl T._law_view_by.g T._law_view_by.F.kp T._law_view_by.b .nil pass0 (pa_cons (pe_op op_fdiv (pv 0) pe_int) (pa_cons pe_int pa_nil))) (pg_tup rfl (pgs_cons (pg_name (i := 6) sc__law_opened.nd rfl (Or.inl rfl)) (pgs_cons (pg_name (i := 3) sc__law_opened.nd rfl (Or.inl rfl)) pgs_nil))))
      (pss_one (ps_ret (pe_lst (pa_cons (pe_tup (pa_cons pe_str (pa_cons (pv 6) pa_nil))) (pa_cons (pe_lst pa_nil) (pa_cons (pe_lst pa_nil) (pa_cons (pe_join pe_str (pe_op op_cat (pe_lst (pa_cons pe_str pa_nil)) (pv 3))) pa_nil)))))))))))), ?_⟩
    obtain ⟨_, _, _, _, g5, g6, g7, g8⟩ := srcW_gw
    obtain ⟨_, _, _, _, n5, n6, n7, n8⟩ := srcW_len
    refine ⟨_, rfl, _, _, rfl, rfl, by walk_at "p", ?_⟩
    refine ⟨_, rfl, rfl, _, rfl, ?_⟩
    refine ite2 (fun _ => ?_) (fun _ => ?_)
    · refine ⟨_, rfl, _, _, rfl, rfl, ⟨by decide, by decide⟩, ⟨_, rfl⟩, fun H1 p v l ws hp hl hW S1 => ⟨p, _, rfl, SqT.of hp, rfl, _, _, rfl, _, _, rfl, rfl, ?_⟩⟩
      have len1 := hW.len
      have w1 := hW.2.2
      have hwt : wt ([("if" : Str)] ++ ws) ≤ 9000 := by rw [wt_app, wt_one, n5]; omega
      refine ⟨_, rfl, sz2, fun hd hhd => ⟨Nat.zero_le _, fun sh hsh => ⟨Nat.zero_le _, fun rw' hrw => ⟨⟨_, rfl⟩, sz1, fun a ha => ?_⟩⟩⟩⟩
      have s3 := Same.trans' (Same.laid (o := .tup [.str "if", v]) hhd) (Same.trans' (Same.laid (o := .lst []) hsh) (Same.trans' (Same.laid (o := .lst []) hrw) (Same.laid (o := .lst [.str "if"]) ha)))
      refine ⟨_, rfl, cat_ll (pre := [("if" : Str)]) upd_same (s3 _ _ hl) (by simp only [List.length_cons, List.length_nil]; omega) fun H5 e he S5 e5 => ⟨sp1, e, _, rfl, rfl, .inl (SqL.of e5), join_ok hwt (by decide), sz4, fun q hq => ?_⟩⟩
      have hhd5 : H5 hd = some (.tup [.str "if", v]) := S5 _ _ (Same.laid ha _ _ (Same.laid hrw _ _ (Same.laid hsh _ _ upd_same)))
      have hsh5 : H5 sh = some (.lst []) := S5 _ _ (Same.laid ha _ _ (Same.laid hrw _ _ upd_same))
      have hrw5 : H5 rw' = some (.lst []) := S5 _ _ (Same.laid ha _ _ upd_same)
      have f1 := fresh_of (Same.trans' S1 (Same.laid hhd)) hsh
      have f2 := fresh_of (Same.trans' (Same.trans' S1 (Same.laid hhd)) (Same.laid hsh)) hrw
      have f3 := fresh_of (Same.trans' (Same.trans' S1 s3) S5) hq
      refine k _ q hd sh (.ref rw') _ .iff [v] f3 f1 (ne_of_none hsh5 hq).symm upd_same (Same.laid hq _ _ hhd5) (by simp) (Same.laid hq _ _ hsh5) (by decide) (by decide) (fun z => (nomatch z)) (fun _ => ⟨rw', rfl, Same.laid hq _ _ hrw5, f2, ?_, ne_of_none hrw5 hq⟩) (LB_of ?_ (gws_app (gws_one g5) hW.2.1) hwt) (Same.trans' (Same.trans' (Same.trans' S1 s3) S5) (Same.laid hq))
      · exact fun z => by rw [z, upd_same] at hrw; cases hrw
      · show fin (termP 14 ws) _ = _
        exact eat_fin hW.1
    refine ⟨_, rfl, rfl, _, rfl, ?_⟩
    refine ite2 (fun _ => ?_) (fun _ => ?_)
    · refine ⟨_, rfl, _, _, rfl, rfl, ⟨by decide, by decide⟩, ⟨_, rfl⟩, fun H1 p v l ws hp hl hW S1 => ⟨p, _, rfl, SqT.of hp, rfl, _, _, rfl, _, _, rfl, rfl, ?_⟩⟩
      have len1 := hW.len
      have w1 := hW.2.2
      have hwt : wt ([("parts" : Str)] ++ ws) ≤ 9000 := by rw [wt_app, wt_one, n6]; omega
      refine ⟨_, rfl, sz2, fun hd hhd => ⟨Nat.zero_le _, fun sh hsh => ⟨⟨_, rfl⟩, sz1, fun a ha => ?_⟩⟩⟩
      have s3 := Same.trans' (Same.laid (o := .tup [.str "parts", v]) hhd) (Same.trans' (Same.laid (o := .lst []) hsh) (Same.laid (o := .lst [.str "parts"]) ha))
      refine ⟨_, rfl, cat_ll (pre := [("parts" : Str)]) upd_same (s3 _ _ hl) (by simp only [List.length_cons, List.length_nil]; omega) fun H5 e he S5 e5 => ⟨sp1, e, _, rfl, rfl, .inl (SqL.of e5), join_ok hwt (by decide), sz4, fun q hq => ?_⟩⟩
      have hhd5 : H5 hd = some (.tup [.str "parts", v]) := S5 _ _ (Same.laid ha _ _ (Same.laid hsh _ _ upd_same))
      have hsh5 : H5 sh = some (.lst []) := S5 _ _ (Same.laid ha _ _ upd_same)
      have f1 := fresh_of (Same.trans' S1 (Same.laid hhd)) hsh
      have f3 := fresh_of (Same.trans' (Same.trans' S1 s3) S5) hq
      refine k _ q hd sh .non _ .parts [v] f3 f1 (ne_of_none hsh5 hq).symm upd_same (Same.laid hq _ _ hhd5) (by simp) (Same.laid hq _ _ hsh5) (by decide) (by decide) (fun _ => rfl) (fun z => absurd rfl z) (LB_of ?_ (gws_app (gws_one g6) hW.2.1) hwt) (Same.trans' (Same.trans' (Same.trans' S1 s3) S5) (Same.laid hq))
      · show fin (termP 14 ws) _ = _
        exact eat_fin hW.1
    refine ⟨_, rfl, rfl, _, rfl, ?_⟩
    refine ite2 (fun _ => ?_) (fun _ => ?_)
    · refine ⟨_, rfl, _, _, rfl, rfl, ⟨by decide, by decide⟩, _, rfl, fun x H1 b1 b2 S1 => ?_⟩
      refine ⟨_, rfl, _, _, rfl, rfl, ⟨by decide, by decide⟩, _, rfl, fun y H2 b3 b4 S2 => ?_⟩
      have h20 := strI_len b1 b2
      have h21 := strI_len b3 b4
      have e5 : ("draw " : Str).length = 5 := by decide +kernel
      have e1 : (" " : Str).length = 1 := by decide +kernel
      have s2 := Same.trans' S1 S2
      have lx : (("draw " : Str) ++ strI x).length = 5 + (strI x).length := by rw [len_tl, tl_append, List.length_append, ← len_tl, ← len_tl, e5]
      have lxs : (("draw " : Str) ++ strI x ++ (" " : Str)).length = 5 + (strI x).length + 1 := by rw [len_tl, tl_append, List.length_append, ← len_tl, ← len_tl, lx, e1]
      refine ⟨_, rfl, _, rfl, sz3, fun hd hhd => ⟨Nat.zero_le _, fun sh hsh => ⟨Nat.zero_le _, fun rw' hrw => ⟨_, rfl, x, rfl, E19_lg b1 b2, _, _, rfl, rfl, sz1000 ?_, _, _, rfl, rfl, sz1000 ?_, _, rfl, y, rfl, E19_lg b3 b4, _, _, rfl, rfl, sz1000 ?_, sz4, fun q hq => ?_⟩⟩⟩⟩
      · show ("draw " : Str).length + (strI x).length ≤ 1000
        rw [e5]
        omega
      · show (("draw " : Str) ++ strI x).length + (" " : Str).length ≤ 1000
        rw [lx, e1]
        omega
      · show (("draw " : Str) ++ strI x ++ (" " : Str)).length + (strI y).length ≤ 1000
        rw [lxs]
        omega
      have s3 := Same.trans' (Same.laid (o := .tup [.str "draw", .int x, .int y]) hhd) (Same.trans' (Same.laid (o := .lst []) hsh) (Same.laid (o := .lst []) hrw))
      have hhd5 := Same.laid (o := .lst []) hrw _ _ (Same.laid (o := .lst []) hsh _ _ (show upd H2 hd (.tup [.str "draw", .int x, .int y]) hd = some (.tup [.str "draw", .int x, .int y]) from upd_same))
      have hsh5 := Same.laid (o := .lst []) hrw _ _ (show upd (upd H2 hd (.tup [.str "draw", .int x, .int y])) sh (.lst []) sh = some (.lst []) from upd_same)
      have f1 := fresh_of (Same.trans' s2 (Same.laid hhd)) hsh
      have f2 := fresh_of (Same.trans' (Same.trans' s2 (Same.laid hhd)) (Same.laid hsh)) hrw
      have f3 := fresh_of (Same.trans' s2 s3) hq
      have hj : ("draw " : Str) ++ strI x ++ (" " : Str) ++ strI y = Txt.join sp1 [("draw" : Str), strI x, strI y] := ext_tl (by
        rw [tl_join3, tl_append, tl_append, tl_append, tl_draw]
        show tl (("draw" : Str)) ++ [32] ++ tl (strI x) ++ tl sp1 ++ tl (strI y) = _
        rw [tl_sp]
        simp)
      refine k _ q hd sh (.ref rw') _ .draw [.int x, .int y] f3 f1 (ne_of_none hsh5 hq).symm upd_same (Same.laid hq _ _ hhd5) (by simp) (Same.laid hq _ _ hsh5) (by decide) (by decide) (fun z => (nomatch z)) (fun _ => ⟨rw', rfl, Same.laid hq _ _ upd_same, f2, ?_, fun z => by rw [z, upd_same] at hq; cases hq⟩) ?_ (Same.trans' (Same.trans' s2 s3) (Same.laid hq))
      · exact fun z => by rw [z, upd_same] at hrw; cases hrw
      · show LB _ _ (("draw " : Str) ++ strI x ++ (" " : Str) ++ strI y)
        rw [hj]
        refine LB_of ?_ (gws_cons g8 (gws_cons (gw_strI b1 b2) (gws_one (gw_strI b3 b4)))) (by rw [wt_cons, wt_cons, wt_one, n8]; omega)
        show fin (times numR 2 [strI x, strI y]) _ = _
        have := acc_done (acc_nums [x, y] (by
          intro z hz
          rcases List.mem_cons.mp hz with rfl | hz
          · exact ⟨b1, b2⟩
          · cases List.mem_singleton.mp hz
            exact ⟨b3, b4⟩))
        exact eat_fin this
    · refine ⟨_, rfl, _, _, rfl, rfl, ⟨by decide, by decide⟩, ⟨_, rfl⟩, fun H1 p v l ws hp hl hW S1 => ⟨p, _, rfl, SqT.of hp, rfl, _, _, rfl, _, _, rfl, rfl, ?_⟩⟩
      have len1 := hW.len
      have w1 := hW.2.2
      have hwt : wt ([("on" : Str)] ++ ws) ≤ 9000 := by rw [wt_app, wt_one, n7]; omega
      refine ⟨_, rfl, sz2, fun hd hhd => ⟨Nat.zero_le _, fun sh hsh => ⟨Nat.zero_le _, fun rw' hrw => ⟨⟨_, rfl⟩, sz1, fun a ha => ?_⟩⟩⟩⟩
      have s3 := Same.trans' (Same.laid (o := .tup [.str "on", v]) hhd) (Same.trans' (Same.laid (o := .lst []) hsh) (Same.trans' (Same.laid (o := .lst []) hrw) (Same.laid (o := .lst [.str "on"]) ha)))
      refine ⟨_, rfl, cat_ll (pre := [("on" : Str)]) upd_same (s3 _ _ hl) (by simp only [List.length_cons, List.length_nil]; omega) fun H5 e he S5 e5 => ⟨sp1, e, _, rfl, rfl, .inl (SqL.of e5), join_ok hwt (by decide), sz4, fun q hq => ?_⟩⟩
      have hhd5 : H5 hd = some (.tup [.str "on", v]) := S5 _ _ (Same.laid ha _ _ (Same.laid hrw _ _ (Same.laid hsh _ _ upd_same)))
      have hsh5 : H5 sh = some (.lst []) := S5 _ _ (Same.laid ha _ _ (Same.laid hrw _ _ upd_same))
      have hrw5 : H5 rw' = some (.lst []) := S5 _ _ (Same.laid ha _ _ upd_same)
      have f1 := fresh_of (Same.trans' S1 (Same.laid hhd)) hsh
      have f2 := fresh_of (Same.trans' (Same.trans' S1 (Same.laid hhd)) (Same.laid hsh)) hrw
      have f3 := fresh_of (Same.trans' (Same.trans' S1 s3) S5) hq
      refine k _ q hd sh (.ref rw') _ .on [v] f3 f1 (ne_of_none hsh5 hq).symm upd_same (Same.laid hq _ _ hhd5) (by simp) (Same.laid hq _ _ hsh5) (by decide) (by decide) (fun z => (nomatch z)) (fun _ => ⟨rw', rfl, Same.laid hq _ _ hrw5, f2, ?_, ne_of_none hrw5 hq⟩) (LB_of ?_ (gws_app (gws_one g7) hW.2.1) hwt) (Same.trans' (Same.trans' (Same.trans' S1 s3) S5) (Same.laid hq))
      · exact fun z => by rw [z, upd_same] at hrw; cases hrw
      · show fin (viewP 8 ws) _ = _
        exact eat_fin hW.1
end
end BD
/-! W24: askings made. -/
namespace BD
open PySem PySem.Spec L2 TL
open PyProof.Rows hiding St
local macro_rules | `(tactic| walk_at "p") => `(tactic| (show (0 : Int) < _; decide))
theorem flatL : ∀ x ∈ wordsL, rowP (("flat " : Str) ++ x ++ (" 0 1 2 count of all" : Str)) = some .ask ∧ 10 ∉ tl (("flat " : Str) ++ x ++ (" 0 1 2 count of all" : Str)) ∧ (("flat " : Str) ++ x ++ (" 0 1 2 count of all" : Str)).length + 1 ≤ 9000 ∧
    ("flat " : Str).length + x.length ≤ 1000 ∧ (("flat " : Str) ++ x).length + (" 0 1 2 count of all" : Str).length ≤ 1000 := by decide +kernel
theorem cut3 {a b c d : V} : cutV [a, b, c, d] none (some 3) = [a, b, c] := rfl
theorem cut3_whole {a b c d : V} : ¬ (HT.sIx [a, b, c, d].length 0 none = 0 ∧ HT.sIx [a, b, c, d].length [a, b, c, d].length (some 3) = [a, b, c, d].length) := fun h => by
  have h2 := h.2
  have e : HT.sIx [a, b, c, d].length [a, b, c, d].length (some 3) = 3 := rfl
  rw [e] at h2
  simp at h2
theorem askW_gw : GW (("ask" : Str)) ∧ GW (("flat" : Str)) ∧ GW (("all" : Str)) ∧ GW (("count" : Str)) ∧ GW (("of" : Str)) := by unfold GW; decide +kernel
theorem askW_len : ("ask" : Str).length = 3 ∧ ("flat" : Str).length = 4 ∧ ("pick" : Str).length = 4 ∧ wt [("count" : Str), "of", "all"] = 13 := by decide +kernel
theorem eat_coa : Eat askedP [("count" : Str), "of", "all"] := by
  have h1 : Eat (viewP 8) [("all" : Str)] := eat_all
  exact eat_asked eat_count h1
theorem nums_eat {ns : List Int} {k : Nat} (h : ∀ n ∈ ns, -E19 < n ∧ n < E19) (hk : ns.length = k) : Eat (times numR k) (ns.map strI) := by
  subst hk
  exact acc_done (acc_nums ns h)
theorem row_ask {nm : Str} {ns : List Int} {ws : Ws} (hn : isNm nm = true) (h : ∀ n ∈ ns, -E19 < n ∧ n < E19) (hk : ns.length = 4) (hw : Eat askedP ws) : rowW (("ask" : Str) :: nm :: (ns.map strI ++ ws)) = some .ask := by
  match ns, hk with
  | [a, b, c, d], _ =>
    have e1 : Eat (times numR 3) ([a, b, c].map strI) := nums_eat (fun n hm => h n (by simp at hm ⊢; rcases hm with h | h | h <;> simp [h])) rfl
    have e2 := eat_numR (h d (by simp)).1 (h d (by simp)).2
    have e3 := eat_then e1 (eat_then e2 hw)
    show fin (askingP "ask" (nm :: ([a, b, c, d].map strI ++ ws))) .ask = _
    have e4 : askingP "ask" (nm :: ([a, b, c, d].map strI ++ ws)) = thenP (times numR 3) (thenP numR askedP) ([a, b, c, d].map strI ++ ws) := by
      have n1 : ("ask" : Str) ≠ "pick" := by decide +kernel
      simp only [askingP, if_pos hn, if_neg n1, if_true]
    rw [e4]
    have e5 := eat_fin (k := .ask) e3
    simpa [List.append_assoc] using e5
theorem row_flat {nm : Str} {ns : List Int} {ws : Ws} (hn : isNm nm = true) (h : ∀ n ∈ ns, -E19 < n ∧ n < E19) (hk : ns.length = 3) (hw : Eat askedP ws) : rowW (("flat" : Str) :: nm :: (ns.map strI ++ ws)) = some .ask := by
  have e3 := eat_then (nums_eat h hk) hw
  show fin (askingP "flat" (nm :: (ns.map strI ++ ws))) .ask = _
  have e4 : askingP "flat" (nm :: (ns.map strI ++ ws)) = thenP (times numR 3) askedP (ns.map strI ++ ws) := by
    have n1 : ("flat" : Str) ≠ "pick" := by decide +kernel
    have n2 : ("flat" : Str) ≠ "ask" := by decide +kernel
    simp only [askingP, if_pos hn, if_neg n1, if_neg n2]
  rw [e4]
  exact eat_fin (k := .ask) e3
theorem row_pick {nm : Str} {ns : List Int} {m : Nat} {ws : Ws} (hn : isNm nm = true) (h : ∀ n ∈ ns, -E19 < n ∧ n < E19) (hk : ns.length = 3) (hm : m ≤ 9) (hw : Acc askedP m ws) : rowW (("pick" : Str) :: nm :: (ns.map strI ++ (strI m :: ws))) = some .ask := by
  have e0 : Eat manyP (strI m :: ws) := fun r => by
    show manyP (strI m :: (ws ++ r)) = _
    unfold manyP
    rw [within_ok (by omega) (by omega) (by omega) (by omega), bindS_some]
    exact acc_done hw r
  have e3 := eat_then (nums_eat h hk) e0
  show fin (askingP "pick" (nm :: (ns.map strI ++ (strI m :: ws)))) .ask = _
  have e4 : askingP "pick" (nm :: (ns.map strI ++ (strI m :: ws))) = thenP (times numR 3) manyP (ns.map strI ++ (strI m :: ws)) := by
    simp only [askingP, if_pos hn, if_true]
  rw [e4]
  exact eat_fin (k := .ask) e3
section
variable {P : Program} {w : World} {K : PySem.W.Frag} {mg : Str → Option Value} {base : Heap}
def sp_askby : Sp := fun vs H Q _ => (∃ (c : Int) (b : Bool), vs = [.int c, .bl b]) ∧ ∀ H' p v line, H' p = some (.tup [v, .str line]) → LB .ask 9000 line → Same H H' → Q (.ref p) H'
theorem sc__law_asking_by : FnScope ["_law_cell", "_law_small", "_law_name", "_law_numbers", "_law_source", "_law_words", "_law_made", "_law_choices", "_law_told", "_law_k", "_law_n"] ["_law_cell", "_law_small"] (defScope (top 52)) := ⟨rfl, rfl, rfl, by decide +kernel, rfl, by decide +kernel, by decide +kernel⟩
theorem ok__law_asking_by (T : Txt K mg w) : FnOk P w K mg base CX0 8 T._law_asking_by.f T._law_asking_by.fd ["_law_cell", "_law_small"] sp_askby := by
  refine T._law_asking_by.F.ok sc__law_asking_by (fun vs H Q E h => ?_) (fun cdv A outer s H vs Q E hr h => ?_)
  · obtain ⟨⟨c, b, rfl⟩, _⟩ := h
    rfl
  · obtain ⟨⟨c, b, rfl⟩, k⟩ := h
    refine ⟨_, (pss_cons (ps_set (i := 2) sc__law_asking_by.nd rfl (Or.inl rfl) (pe_call (ok__law_word_of T) (hr.mono (by first | decide | omega)) rfl T._law_word_of.g T._law_word_of.F.kp T._law_word_of.b .nil pass0 (pa_cons (pe_op op_fdiv (pv 0) pe_int) pa_nil)))
      (pss_cons (ps_if (pt_val (pv 1)) (pss_one (ps_ret (pe_tup (pa_cons (pe_tup (pa_cons pe_str (pa_cons (pv 2) (pa_cons (pe_tup (pa_cons pe_str pa_nil)) (pa_cons (pe_tup (pa_cons pe_str pa_nil)) (pa_cons pe_int (pa_cons pe_int (pa_cons pe_int pa_nil)))))))) (pa_cons (pe_op op_add_str (pe_op op_add_str pe_str (pv 2)) pe_str) pa_nil))))) pss_nil)
      (pss_cons (ps_set (i := 3) sc__law_asking_by.nd rfl (Or.inl rfl) (pe_tup (pa_cons (pe_call (ok__law_big T) (hr.mono (by first | decide | omega)) rfl T._law_big.g T._law_big.F.kp T._law_big.b .nil pass0 (pa_cons (pe_op op_fdiv (pv 0) pe_int) pa_nil)) (pa_cons (pe_call (ok__law_big T) (hr.mono (by first | decide | omega)) rfl T._law_big.g T._law_big.F.kp T._law_big.b .nil pass0 (pa_cons (pe_op op_fdiv (pv 0) pe_int) pa_nil)) (pa_cons (pe_call (ok__law_big T) (hr.mono (by first | decide | omega)) rfl T._law_big.g T._law_big.F.kp T._law_big.b .nil pass0 (pa_cons (pe_op op_fdiv (pv 0) pe_int) pa_nil)) (pa_cons (pe_call (ok__law_big T) (hr.mono (by first | decide | omega)) rfl T._law_big.g T._law_big.F.kp T._law_big.b .nil pass0 (pa_cons (pe_op op_fdiv (pv 0) pe_int) pa_nil)) pa_nil))))))
      (pss_cons (ps_asg (pe_call (ok__law_source_by T) (hr.mono (by first | decide | omega)) rfl T._law_source_by.g T._law_source_by.F.kp T._law_source_by.b .nil pass0 (pa_cons (pe_op op_fdiv (pv 0) pe_int) pa_nil)) (pg_tup rfl (pgs_cons (pg_name (i := 4) sc__law_asking_by.nd rfl (Or.inl rfl)) (pgs_cons (pg_name (i := 5) sc__law_asking_by.nd rfl (Or.inl rfl)) pgs_nil))))
      (pss_cons (ps_if (pt_cmpR op_eq (pe_op op_mod (pv 0) pe_int) pe_int (nomark _)) (pss_cons (ps_set (i := 6) sc__law_asking_by.nd rfl (Or.inl rfl) (pe_op op_catT (pe_op op_catT (pe_tup (pa_cons pe_str (pa_cons (pv 2) pa_nil))) (pv 4)) (pv 3)))
      (pss_one (ps_ret (pe_tup (pa_cons (pv 6) (pa_cons (pe_join pe_str (pe_op op_cat (pe_op op_cat (pe_lst (pa_cons pe_str (pa_cons (pv 2) pa_nil))) (pe_lc (own := [("_law_n", 10)]) (g := gName 10) (tt := tYes) rfl sc__law_asking_by.nd (pi_tup (pv 3)) (blkOk_by (own := [("_law_n", 10)]) (N := ["_law_cell", "_law_small", "_law_name", "_law_numbers", "_law_source", "_law_words", "_law_made", "_law_choices", "_law_told", "_law_k", "_law_n"]) (sc := defScope (top 52)) (by decide +kernel)) (fun _ _ _ _ _ => pg_name (i := 10) sc__law_asking_by.nd rfl (Or.inl rfl)) (fun _ _ _ _ _ => pts_nil) (fun _ _ _ _ _ => (pe_callTy call_str_int (by rfl) T.n_str (by decide +kernel) (pa_cons (pv 10) pa_nil))))) (pv 5))) pa_nil)))))) pss_nil)
      (pss_cons (ps_if (pt_cmpR op_eq (pe_op op_mod (pv 0) pe_int) pe_int (nomark _)) (pss_cons (ps_set (i := 6) sc__law_asking_by.nd rfl (Or.inl rfl) (pe_op op_catT (pe_op op_catT (pe_tup (pa_cons pe_str (pa_cons (pv 2) pa_nil))) (pv 4)) (pe_slice sl_tup (pv 3) po_none (po_some pe_int))))
      (pss_one (ps_ret (pe_tup (pa_cons (pv 6) (pa_cons (pe_join pe_str (pe_op op_cat (pe_op op_cat (pe_lst (pa_cons pe_str (pa_cons (pv 2) pa_nil))) (pe_lc (own := [("_law_n", 10)]) (g := gName 10) (tt := tYes) rfl sc__law_asking_by.nd (pi_tup (pe_slice sl_tup (pv 3) po_none (po_some pe_int))) (blkOk_by (own := [("_law_n", 10)]) (N := ["_law_cell", "_law_small", "_law_name", "_law_numbers", "_law_source", "_law_words", "_law_made", "_law_choices", "_law_told", "_law_k", "_law_n"]) (sc := defScope (top 52)) (by decide +kernel)) (fun _ _ _ _ _ => pg_name (i := 10) sc__law_asking_by.nd rfl (Or.inl rfl)) (fun _ _ _ _ _ => pts_nil) (fun _ _ _ _ _ => (pe_callTy call_str_int (by rfl) T.n_str (by decide +kernel) (pa_cons (pv 10) pa_nil))))) (pv 5))) pa_nil)))))) pss_nil)
      (pss_cons (ps_set (i := 7) sc__law_asking_by.nd rfl (Or.inl rfl) (pe_tup pa_nil))
      (pss_cons (ps_set (i := 8) sc__law_asking_by.nd rfl (Or.inl rfl) (pe_lst pa_nil))
      (pss_cons (ps_for PassesOwn.never rfl (pi_range1 rfl T.n_range (pa_cons (pe_op op_mod (pe_op op_fdiv (pv 0) pe_int) pe_int) pa_nil)) (pg_name (i := 9) sc__law_asking_by.nd rfl (Or.inl rfl)) (pss_cons (ps_asg (pe_call (ok__law_source_by T) (hr.mono (by first | decide | omega)) rfl T._law_source_by.g T._law_source_by.F.kp T._law_source_by.b .nil pass0 (pa_cons (pe_op op_add (pe_op op_fdiv (pv 0) (pe_op op_add pe_int (pe_op op_mul pe_int (pv 9)))) (pv 9)) pa_nil)) (pg_tup rfl (pgs_cons (pg_name (i := 4) sc__law_asking_by.nd rfl (Or.inl rfl)) (pgs_cons (pg_name (i := 5) sc__law_asking_by.nd rfl (Or.inl rfl)) pgs_nil))))
      (pss_cons (ps_set (i := 7) sc__law_asking_by.nd rfl (Or.inl rfl) (pe_op op_catA (pv 7) (pe_tup (pa_cons (pv 4) pa_nil))))
      (pss_one (ps_set (i := 8) sc__law_asking_by.nd rfl (Or.inl rfl) (pe_op op_cat (pv 8) (pv 5)))))))
      (pss_cons (ps_for PassesOwn.never rfl (pi_range1 rfl T.n_range (pa_cons (pe_op op_mod (pe_op op_fdiv (pv 0) pe_int) pe_int) pa_nil)) (pg_name (i := 9) sc__law_asking_by.nd rfl (Or.inl rfl)) (pss_cons (ps_set (i := 7) sc__law_asking_by.nd rfl (Or.inl rfl) (pe_op op_catA (pv 7) (pe_tup (pa_cons (pe_tup (pa_cons (pe_tup (pa_cons pe_str pa_nil)) (pa_cons (pe_tup (pa_cons pe_str pa_nil)) pa_nil))) pa_nil))))
      (pss_one (ps_set (i := 8) sc__law_asking_by.nd rfl (Or.inl rfl) (pe_op op_cat (pv 8) (pe_lst (pa_cons pe_str (pa_cons pe_str (pa_cons pe_str pa_nil)))))))))
      (pss_cons (ps_set (i := 5) sc__law_asking_by.nd rfl (Or.inl rfl) (pe_op op_cat (pe_op op_cat (pe_op op_cat (pe_lst (pa_cons pe_str (pa_cons (pv 2) pa_nil))) (pe_lc (own := [("_law_n", 10)]) (g := gName 10) (tt := tYes) rfl sc__law_asking_by.nd (pi_tup (pe_slice sl_tup (pv 3) po_none (po_some pe_int))) (blkOk_by (own := [("_law_n", 10)]) (N := ["_law_cell", "_law_small", "_law_name", "_law_numbers", "_law_source", "_law_words", "_law_made", "_law_choices", "_law_told", "_law_k", "_law_n"]) (sc := defScope (top 52)) (by decide +kernel)) (fun _ _ _ _ _ => pg_name (i := 10) sc__law_asking_by.nd rfl (Or.inl rfl)) (fun _ _ _ _ _ => pts_nil) (fun _ _ _ _ _ => (pe_callTy call_str_int (by rfl) T.n_str (by decide +kernel) (pa_cons (pv 10) pa_nil))))) (pe_lst (pa_cons (pe_callTy call_str_int (by rfl) T.n_str (by decide +kernel) (pa_cons (pe_callB call_len_seq (by rfl) T.n_len (by decide +kernel) (pa_cons (pv 7) pa_nil)) pa_nil)) pa_nil))) (pv 8)))
      (pss_one (ps_ret (pe_tup (pa_cons (pe_op op_catT (pe_tup (pa_cons pe_str (pa_cons (pv 2) (pa_cons (pv 7) pa_nil)))) (pe_slice sl_tup (pv 3) po_none (po_some pe_int))) (pa_cons (pe_join pe_str (pv 5)) pa_nil)))))))))))))))), ?_⟩
    obtain ⟨g1, g2, g3, g4, g5⟩ := askW_gw
    obtain ⟨m1, m2, m3, m4⟩ := askW_len
    refine ⟨_, rfl, _, _, rfl, rfl, ⟨by decide, by decide⟩, _, rfl, fun nm H1 hnm S1 => ?_⟩
    obtain ⟨q1, q2, q3, q4, q5⟩ := flatL nm hnm
    have hn := (wordsL_nm nm hnm).1
    have hn8 := isNm_len hn
    refine ⟨_, rfl, _, rfl, ?_⟩
    cases b with
    | true =>
      refine iteT ⟨_, rfl, sz1, fun t ht => ⟨sz1, fun u hu => ⟨sz1000 (by simp), fun q hq => ⟨_, rfl, _, _, rfl, rfl, sz1000 q4, _, _, rfl, rfl, sz1000 q5, sz2, fun p hp => ?_⟩⟩⟩⟩
      exact k _ p _ _ upd_same ⟨q1, q2, q3⟩ (Same.trans' (Same.trans' S1 (Same.laid ht)) (Same.trans' (Same.laid hu) (Same.trans' (Same.laid hq) (Same.laid hp))))
    | false =>
      refine iteF ⟨_, rfl, _, _, rfl, rfl, ⟨by decide, by decide⟩, _, rfl, fun x1 H2 a1 b1 S2 => ⟨_, rfl, _, _, rfl, rfl, ⟨by decide, by decide⟩, _, rfl, fun x2 H3 a2 b2 S3 => ⟨_, rfl, _, _, rfl, rfl, ⟨by decide, by decide⟩, _, rfl, fun x3 H4 a3 b3 S4 => ⟨_, rfl, _, _, rfl, rfl, ⟨by decide, by decide⟩, _, rfl, fun x4 H5 a4 b4 S5 => ⟨sz4, fun nt hnt => ?_⟩⟩⟩⟩⟩
      have s5 := Same.trans' (Same.trans' S1 (Same.trans' S2 S3)) (Same.trans' (Same.trans' S4 S5) (Same.laid (o := .tup [.int x1, .int x2, .int x3, .int x4]) hnt))
      have h3 : ∀ n ∈ [x1, x2, x3], -E19 < n ∧ n < E19 := fun n hm => by
        simp only [List.mem_cons, List.not_mem_nil, or_false] at hm
        rcases hm with rfl | rfl | rfl
        · exact ⟨a1, b1⟩
        · exact ⟨a2, b2⟩
        · exact ⟨a3, b3⟩
      have h4 : ∀ n ∈ [x1, x2, x3, x4], -E19 < n ∧ n < E19 := fun n hm => by
        simp only [List.mem_cons, List.not_mem_nil, or_false] at hm
        rcases hm with rfl | rfl | rfl | rfl
        · exact ⟨a1, b1⟩
        · exact ⟨a2, b2⟩
        · exact ⟨a3, b3⟩
        · exact ⟨a4, b4⟩
      refine ⟨_, rfl, _, _, rfl, rfl, ⟨by decide, by decide⟩, ⟨_, rfl⟩, fun H6 p src u m l ws hp hsrc hl hW S6 => ⟨p, _, rfl, SqT.of hp, rfl, _, _, rfl, _, _, rfl, rfl, ?_⟩⟩
      have hnt6 := S6 nt _ upd_same
      have s6 := Same.trans' s5 S6
      have len1 := hW.len
      have w1 := hW.2.2
      refine ⟨_, rfl, _, _, rfl, rfl, by walk_at "p", rfl, _, rfl, ?_⟩
      refine ite2 (fun _ => ?_) (fun _ => ?_)
      · -- ask
        refine ⟨_, rfl, sz2, fun t ht => ⟨_, rfl, t, src, _, _, rfl, rfl, SqT.of upd_same, SqT.of (Same.laid ht _ _ hsrc), by simp, sz1000 (by simp), fun z => (nomatch z), fun _ t2 ht2 => ⟨_, rfl, t2, nt, _, _, rfl, rfl, SqT.of upd_same, SqT.of (Same.laid ht2 _ _ (Same.laid ht _ _ hnt6)), by simp, sz1000 (by simp), fun z => (nomatch z), fun _ t3 ht3 => ?_⟩⟩⟩
        have s7 := Same.trans' (Same.laid (o := .tup [.str "ask", .str nm]) ht) (Same.trans' (Same.laid (o := .tup ([.str "ask", .str nm] ++ [u, m])) ht2) (Same.laid (o := .tup (([.str "ask", .str nm] ++ [u, m]) ++ [.int x1, .int x2, .int x3, .int x4])) ht3))
        refine ⟨_, rfl, ⟨_, rfl⟩, _, rfl, sz2, fun a ha => ?_⟩
        have hnt8 := Same.laid (o := .lst [.str "ask", .str nm]) ha _ _ (s7 _ _ hnt6)
        refine ⟨_, rfl, nt, rfl, ⟨_, SqT.of hnt8⟩, fun D hD => ?_⟩
        refine lc_strs (nums_at2 [x1, x2, x3, x4] h4) hnt8 hD (by simp) ?_ (fun z x H2 Q1 hz1 q => ?_) (fun H8 S8 hD8 => ?_)
        · exact fun v => rfl
        · refine ⟨_, rfl, z, rfl, numP_lg hz1, ?_⟩
          rw [numP_val hz1]
          exact q
        rw [nums_flat] at hD8
        refine cat_ll (pre := [("ask" : Str), nm]) (S8 _ _ upd_same) hD8 (by simp) fun H9 e he S9 e9 => ⟨_, rfl, cat_ll e9 (S9 _ _ (S8 _ _ (Same.laid ha _ _ (s7 _ _ hl)))) (by simp only [List.length_append, List.length_cons, List.length_nil, List.length_map]; omega) fun H10 f hf S10 e10 => ?_⟩
        have hwt : wt ([("ask" : Str), nm] ++ [x1, x2, x3, x4].map strI ++ ws) ≤ 9000 := by
          rw [wt_app, wt_app, wt_cons, wt_one, m1]
          have := wt_nums _ h4
          simp only [List.length_cons, List.length_nil] at this
          omega
        refine ⟨sp1, f, _, rfl, rfl, .inl (SqL.of e10), join_ok hwt (by decide), sz2, fun z hz => ?_⟩
        have s8 := Same.trans' (Same.laid (o := .lst [.str "ask", .str nm]) ha) (Same.trans' S8 (Same.trans' S9 S10))
        refine k _ z _ _ upd_same (LB_of ?_ (gws_app (gws_app (gws_cons g1 (gws_one (gw_nm hn))) (gws_nums _ h4)) hW.2.1) hwt) (Same.trans' (Same.trans' s6 s7) (Same.trans' s8 (Same.laid hz)))
        have := row_ask hn h4 rfl hW.1
        simpa [List.append_assoc] using this
      refine ⟨_, rfl, _, _, rfl, rfl, by walk_at "p", rfl, _, rfl, ?_⟩
      refine ite2 (fun _ => ?_) (fun _ => ?_)
      · -- flat
        refine ⟨_, rfl, sz2, fun t ht => ⟨_, rfl, t, src, _, _, rfl, rfl, SqT.of upd_same, SqT.of (Same.laid ht _ _ hsrc), by simp, sz1000 (by simp), fun z => (nomatch z), fun _ t2 ht2 => ⟨_, rfl, _, rfl, nt, _, rfl, SqT.of (Same.laid ht2 _ _ (Same.laid ht _ _ hnt6)), cut3_whole, fun t4 ht4 => ?_⟩⟩⟩
        rw [cut3]
        refine ⟨t2, t4, _, _, rfl, rfl, SqT.of (Same.laid ht4 _ _ upd_same), SqT.of upd_same, by simp, sz1000 (by simp), fun z => (nomatch z), fun _ t3 ht3 => ?_⟩
        have s7 := Same.trans' (Same.trans' (Same.laid (o := .tup [.str "flat", .str nm]) ht) (Same.laid (o := .tup ([.str "flat", .str nm] ++ [u, m])) ht2)) (Same.trans' (Same.laid (o := .tup [.int x1, .int x2, .int x3]) ht4) (Same.laid (o := .tup (([.str "flat", .str nm] ++ [u, m]) ++ [.int x1, .int x2, .int x3])) ht3))
        refine ⟨_, rfl, ⟨_, rfl⟩, _, rfl, sz2, fun a ha => ?_⟩
        have hnt8 := Same.laid (o := .lst [.str "flat", .str nm]) ha _ _ (s7 _ _ hnt6)
        refine ⟨_, rfl, _, rfl, nt, _, rfl, SqT.of hnt8, cut3_whole, fun t5 ht5 => ?_⟩
        rw [cut3]
        refine ⟨t5, rfl, ⟨_, SqT.of upd_same⟩, fun D hD => ?_⟩
        refine lc_strs (nums_at2 [x1, x2, x3] h3) upd_same hD (by simp) ?_ (fun z x H2 Q1 hz1 q => ?_) (fun H8 S8 hD8 => ?_)
        · exact fun v => rfl
        · refine ⟨_, rfl, z, rfl, numP_lg hz1, ?_⟩
          rw [numP_val hz1]
          exact q
        rw [nums_flat] at hD8
        refine cat_ll (pre := [("flat" : Str), nm]) (S8 _ _ (Same.laid ht5 _ _ upd_same)) hD8 (by simp) fun H9 e he S9 e9 => ⟨_, rfl, cat_ll e9 (S9 _ _ (S8 _ _ (Same.laid ht5 _ _ (Same.laid ha _ _ (s7 _ _ hl))))) (by simp only [List.length_append, List.length_cons, List.length_nil, List.length_map]; omega) fun H10 f hf S10 e10 => ?_⟩
        have hwt : wt ([("flat" : Str), nm] ++ [x1, x2, x3].map strI ++ ws) ≤ 9000 := by
          rw [wt_app, wt_app, wt_cons, wt_one, m2]
          have := wt_nums _ h3
          simp only [List.length_cons, List.length_nil] at this
          omega
        refine ⟨sp1, f, _, rfl, rfl, .inl (SqL.of e10), join_ok hwt (by decide), sz2, fun z hz => ?_⟩
        have s8 := Same.trans' (Same.trans' (Same.laid (o := .lst [.str "flat", .str nm]) ha) (Same.laid (o := .tup [.int x1, .int x2, .int x3]) ht5)) (Same.trans' S8 (Same.trans' S9 S10))
        refine k _ z _ _ upd_same (LB_of ?_ (gws_app (gws_app (gws_cons g2 (gws_one (gw_nm hn))) (gws_nums _ h3)) hW.2.1) hwt) (Same.trans' (Same.trans' s6 s7) (Same.trans' s8 (Same.laid hz)))
        have := row_flat hn h3 rfl hW.1
        simpa [List.append_assoc] using this
      -- pick
      refine ⟨Nat.zero_le _, fun c0 hc0 => ⟨Nat.zero_le _, fun t0 ht0 => ?_⟩⟩
      have s7 := Same.trans' s6 (Same.trans' (Same.laid (o := .tup []) hc0) (Same.laid (o := .lst []) ht0))
      have hnt7 := Same.laid (o := .lst []) ht0 _ _ (Same.laid (o := .tup []) hc0 _ _ hnt6)
      obtain ⟨i1, hi1, i12⟩ : ∃ m : Nat, c / 3 % 3 = (m : Int) ∧ m ≤ 2 := ⟨(c / 3 % 3).toNat, by omega, by omega⟩
      obtain ⟨i2, hi2, i26⟩ : ∃ m : Nat, c / 12 % 7 = (m : Int) ∧ m ≤ 6 := ⟨(c / 12 % 7).toNat, by omega, by omega⟩
      refine ⟨_, rfl, _, _, rfl, rfl, ⟨by decide, by decide⟩, _, _, rfl, rfl, by walk_at "p", _, rfl, by omega, by omega, ?_⟩
      rw [show (c / 3 % 3).toNat = i1 by omega]
      refine for_range (lo := 0) (n := i1) (fun i σ' H' => ∃ (a d : Addr) (xs : List V) (acc : Ws) (o4 o5 o9 : Option V), σ' = [some (.int c), some (.bl false), some (.str nm), some (.ref nt), o4, o5, none, some (.ref a), some (.ref d), o9, none] ∧ H' a = some (.tup xs) ∧ xs.length = i ∧ H' d = some (.lst (acc.map V.str)) ∧
        Acc askedP i acc ∧ GWs acc ∧ wt acc ≤ 4400 * i ∧ H' nt = some (.tup [.int x1, .int x2, .int x3, .int x4]) ∧ Same H H') ?_ ?_ ?_
      · exact ⟨c0, t0, [], [], _, _, none, rfl, Same.laid ht0 _ _ upd_same, rfl, upd_same, acc_nil, gws_nil, by rw [wt_nil]; omega, hnt7, s7⟩
      · rintro i σ H7 hi ⟨a, d, xs, acc, o4, o5, o9, rfl, ha, hxs, hd, hacc, hg, hwt, hnt, S7⟩
        refine ⟨_, rfl, _, rfl, _, _, rfl, rfl, .inl ⟨by decide, by decide⟩, _, _, rfl, rfl, _, _, rfl, rfl, ⟨by omega, by omega⟩, _, rfl, _, _, rfl, rfl, ⟨_, rfl⟩, fun H8 p src u m l ws hp hsrc hl hW S8 => ⟨p, _, rfl, SqT.of hp, rfl, _, _, rfl, _, _, rfl, rfl, ?_⟩⟩
        have len1 := hW.len
        have w1 := hW.2.2
        have l2 := wt_len acc
        refine ⟨_, rfl, _, rfl, sz1, fun t ht => ?_⟩
        refine ⟨a, t, xs, [.ref src], rfl, rfl, SqT.of (Same.laid ht _ _ (S8 _ _ ha)), SqT.of upd_same, sz1000 (by rw [hxs]; simp only [List.length_cons, List.length_nil]; omega), fun z => ?_, fun _ z => (nomatch z), fun _ _ f hf => ?_⟩
        · refine ⟨_, rfl, _, rfl, cat_ll (Same.laid ht _ _ (S8 _ _ hd)) (Same.laid ht _ _ hl) (by omega) fun H9 e he S9 e9 => ?_⟩
          exact ⟨t, e, [.ref src], acc ++ ws, _, _, _, rfl, S9 _ _ upd_same, by rw [z] at hxs; simp at hxs ⊢; omega, e9, acc_snoc hacc hW.1, gws_app hg hW.2.1, by rw [wt_app]; omega, S9 _ _ (Same.laid ht _ _ (S8 _ _ hnt)), Same.trans' (Same.trans' S7 S8) (Same.trans' (Same.laid ht) S9)⟩
        · refine ⟨_, rfl, _, rfl, cat_ll (Same.laid hf _ _ (Same.laid ht _ _ (S8 _ _ hd))) (Same.laid hf _ _ (Same.laid ht _ _ hl)) (by omega) fun H9 e he S9 e9 => ?_⟩
          exact ⟨f, e, xs ++ [.ref src], acc ++ ws, _, _, _, rfl, S9 _ _ upd_same, by rw [List.length_append, hxs]; rfl, e9, acc_snoc hacc hW.1, gws_app hg hW.2.1, by rw [wt_app]; omega, S9 _ _ (Same.laid hf _ _ (Same.laid ht _ _ (S8 _ _ hnt))), Same.trans' (Same.trans' S7 S8) (Same.trans' (Same.trans' (Same.laid ht) (Same.laid hf)) S9)⟩
      · rintro σ H7 ⟨a, d, xs, acc, o4, o5, o9, rfl, ha, hxs, hd, hacc, hg, hwt, hnt, S7⟩
        refine ⟨_, rfl, _, _, rfl, rfl, ⟨by decide, by decide⟩, _, _, rfl, rfl, by walk_at "p", _, rfl, by omega, by omega, ?_⟩
        rw [show (c / 12 % 7).toNat = i2 by omega]
        refine for_range (lo := 0) (n := i2) (fun i σ' H' => ∃ (a d : Addr) (xs : List V) (acc : Ws) (o9 : Option V), σ' = [some (.int c), some (.bl false), some (.str nm), some (.ref nt), o4, o5, none, some (.ref a), some (.ref d), o9, none] ∧ H' a = some (.tup xs) ∧ xs.length = i1 + i ∧ H' d = some (.lst (acc.map V.str)) ∧
          Acc askedP (i1 + i) acc ∧ GWs acc ∧ wt acc ≤ 8800 + 13 * i ∧ H' nt = some (.tup [.int x1, .int x2, .int x3, .int x4]) ∧ Same H H') ?_ ?_ ?_
        · exact ⟨a, d, xs, acc, o9, rfl, ha, hxs, hd, hacc, hg, by omega, hnt, S7⟩
        · rintro i σ H8 hi ⟨a, d, xs, acc, o9, rfl, ha, hxs, hd, hacc, hg, hwt, hnt, S8⟩
          have l2 := wt_len acc
          refine ⟨_, rfl, sz1, fun r1 hr1 => ⟨sz1, fun r2 hr2 => ⟨sz2, fun r3 hr3 => ⟨sz1, fun t ht => ?_⟩⟩⟩⟩
          have s9 := Same.trans' (Same.trans' (Same.laid (o := .tup [.str "all"]) hr1) (Same.laid (o := .tup [.str "count"]) hr2)) (Same.trans' (Same.laid (o := .tup [.ref r1, .ref r2]) hr3) (Same.laid (o := .tup [.ref r3]) ht))
          refine ⟨a, t, xs, [.ref r3], rfl, rfl, SqT.of (s9 _ _ ha), SqT.of upd_same, sz1000 (by rw [hxs]; simp only [List.length_cons, List.length_nil]; omega), fun z => ?_, fun _ z => (nomatch z), fun _ _ f hf => ?_⟩
          · refine ⟨_, rfl, sz3, fun b hb => cat_ll (ws := [("count" : Str), "of", "all"]) (Same.laid hb _ _ (s9 _ _ hd)) upd_same (by simp only [List.length_cons, List.length_nil]; omega) fun H9 e he S9 e9 => ?_⟩
            exact ⟨t, e, [.ref r3], acc ++ [("count" : Str), "of", "all"], _, rfl, S9 _ _ (Same.laid hb _ _ upd_same), by rw [z] at hxs; simp at hxs ⊢; omega, e9, acc_snoc hacc eat_coa, gws_app hg (gws_cons g4 (gws_cons g5 (gws_one g3))), by rw [wt_app, m4]; omega, S9 _ _ (Same.laid hb _ _ (s9 _ _ hnt)), Same.trans' (Same.trans' S8 s9) (Same.trans' (Same.laid hb) S9)⟩
          · refine ⟨_, rfl, sz3, fun b hb => cat_ll (ws := [("count" : Str), "of", "all"]) (Same.laid hb _ _ (Same.laid hf _ _ (s9 _ _ hd))) upd_same (by simp only [List.length_cons, List.length_nil]; omega) fun H9 e he S9 e9 => ?_⟩
            exact ⟨f, e, xs ++ [.ref r3], acc ++ [("count" : Str), "of", "all"], _, rfl, S9 _ _ (Same.laid hb _ _ upd_same), by rw [List.length_append, hxs]; rfl, e9, acc_snoc hacc eat_coa, gws_app hg (gws_cons g4 (gws_cons g5 (gws_one g3))), by rw [wt_app, m4]; omega, S9 _ _ (Same.laid hb _ _ (Same.laid hf _ _ (s9 _ _ hnt))), Same.trans' (Same.trans' S8 s9) (Same.trans' (Same.trans' (Same.laid hf) (Same.laid hb)) S9)⟩
        · rintro σ H8 ⟨a, d, xs, acc, o9, rfl, ha, hxs, hd, hacc, hg, hwt, hnt, S8⟩
          have l2 := wt_len acc
          refine ⟨_, rfl, sz2, fun r1 hr1 => ?_⟩
          have hnt1 := Same.laid (o := .lst [.str "pick", .str nm]) hr1 _ _ hnt
          refine ⟨_, rfl, _, rfl, nt, _, rfl, SqT.of hnt1, cut3_whole, fun t5 ht5 => ?_⟩
          rw [cut3]
          refine ⟨t5, rfl, ⟨_, SqT.of upd_same⟩, fun D hD => ?_⟩
          refine lc_strs (nums_at2 [x1, x2, x3] h3) upd_same hD (by simp) ?_ (fun z x H2 Q1 hz1 q => ?_) (fun H9 S9 hD9 => ?_)
          · exact fun v => rfl
          · refine ⟨_, rfl, z, rfl, numP_lg hz1, ?_⟩
            rw [numP_val hz1]
            exact q
          rw [nums_flat] at hD9
          have s9 := Same.trans' (Same.trans' (Same.laid (o := .lst [.str "pick", .str nm]) hr1) (Same.laid (o := .tup [.int x1, .int x2, .int x3]) ht5)) S9
          refine cat_ll (pre := [("pick" : Str), nm]) (S9 _ _ (Same.laid ht5 _ _ upd_same)) hD9 (by simp) fun H10 e he S10 e10 => ?_
          have sm : -E19 < ((i1 + i2 : Nat) : Int) ∧ ((i1 + i2 : Nat) : Int) < E19 := by unfold E19; omega
          refine ⟨_, rfl, a, _, rfl, .inr (SqT.of (S10 _ _ (s9 _ _ ha))), _, rfl, by rw [hxs]; exact E19_lg sm.1 sm.2, sz1, fun r2 hr2 => ?_⟩
          rw [hxs]
          refine cat_ll (ws := [strI ((i1 + i2 : Nat) : Int)]) (Same.laid hr2 _ _ e10) upd_same (by simp) fun H11 e2 he2 S11 e11 => ?_
          have s11 := Same.trans' (Same.trans' s9 S10) (Same.trans' (Same.laid (o := .lst [.str (strI ((i1 + i2 : Nat) : Int))]) hr2) S11)
          refine ⟨_, rfl, cat_ll e11 (s11 _ _ hd) (by simp only [List.length_append, List.length_cons, List.length_nil, List.length_map]; omega) fun H12 f hf S12 e12 => ?_⟩
          have s12 := Same.trans' s11 S12
          have hwt2 : wt ([("pick" : Str), nm] ++ [x1, x2, x3].map strI ++ [strI ((i1 + i2 : Nat) : Int)] ++ acc) ≤ 9000 := by
            rw [wt_app, wt_app, wt_app, wt_cons, wt_one, wt_one, m3]
            have := wt_nums _ h3
            simp only [List.length_cons, List.length_nil] at this
            have := strI_len sm.1 sm.2
            omega
          refine ⟨_, rfl, _, rfl, sz3, fun t ht => ?_⟩
          have hnt12 := Same.laid (o := .tup [.str "pick", .str nm, .ref a]) ht _ _ (s12 _ _ hnt)
          refine ⟨_, rfl, _, rfl, nt, _, rfl, SqT.of hnt12, cut3_whole, fun t6 ht6 => ?_⟩
          rw [cut3]
          refine ⟨t, t6, _, _, rfl, rfl, SqT.of (Same.laid ht6 _ _ upd_same), SqT.of upd_same, by simp, sz1000 (by simp), fun z => (nomatch z), fun _ t7 ht7 => ?_⟩
          have s13 := Same.trans' (Same.laid (o := .tup [.str "pick", .str nm, .ref a]) ht) (Same.trans' (Same.laid (o := .tup [.int x1, .int x2, .int x3]) ht6) (Same.laid (o := .tup ([.str "pick", .str nm, .ref a] ++ [.int x1, .int x2, .int x3])) ht7))
          refine ⟨⟨_, rfl⟩, _, rfl, sp1, f, _, rfl, rfl, .inl (SqL.of (s13 _ _ e12)), join_ok hwt2 (by decide), sz2, fun z hz => ?_⟩
          refine k _ z _ _ upd_same (LB_of ?_ (gws_app (gws_app (gws_app (gws_cons pick_gw (gws_one (gw_nm hn))) (gws_nums _ h3)) (gws_one (gw_strI sm.1 sm.2))) hg) hwt2) (Same.trans' (Same.trans' S8 s12) (Same.trans' s13 (Same.laid hz)))
          have := row_pick (m := i1 + i2) hn h3 rfl (by omega) hacc
          simpa [List.append_assoc] using this
end
end BD
/-! W25: the law's own open blocks; _law_shut. -/
namespace BD
open PySem PySem.Spec L2 TL
open PyProof.Rows hiding St
local macro_rules | `(tactic| walk_at "p") => `(tactic| (show (0 : Int) < _; decide))
def LstOk (n : Nat) (H : Hp) (r : Addr) : Prop := ∃ xs, H r = some (.lst xs) ∧ xs.length ≤ n
def LMono (n n' : Nat) (H H' : Hp) : Prop := Tups H H' ∧ ∀ r, LstOk n H r → LstOk n' H' r
theorem LMono.trans {a b c : Nat} {H H1 H2 : Hp} (x : LMono a b H H1) (y : LMono b c H1 H2) : LMono a c H H2 := ⟨x.1.trans y.1, fun r h => y.2 r (x.2 r h)⟩
theorem LMono.of_same {n n' : Nat} {H H' : Hp} (h : n ≤ n') (s : Same H H') : LMono n n' H H' := ⟨Same.tups s, fun r ⟨xs, e, l⟩ => ⟨xs, s _ _ e, Nat.le_trans l h⟩⟩
theorem LMono.upd {n n' : Nat} {H : Hp} {a : Addr} {xs ys : List V} (e : H a = some (.lst xs)) (h : n ≤ n') (hl : xs.length ≤ n → ys.length ≤ n') : LMono n n' H (L2.upd H a (.lst ys)) := by
  refine ⟨tups_upd_lst e, fun r ⟨zs, e2, l⟩ => ?_⟩
  by_cases hr : r = a
  · subst hr
    rw [e] at e2
    cases e2
    exact ⟨ys, upd_same, hl l⟩
  · exact ⟨zs, by rw [upd_ne hr]; exact e2, Nat.le_trans l h⟩
def Shape (n : Nat) (H : Hp) (kd : Option BK) (ss : List V) : Prop := match kd with
  | some .iff => ss = []
  | some .els => ss.length = 1
  | some .parts => ∀ v ∈ ss, ∃ t z r, v = .ref t ∧ H t = some (.tup [.int z, .ref r]) ∧ LstOk n H r
  | some .key => ∀ v ∈ ss, ∃ t z r, v = .ref t ∧ H t = some (.tup [.int z, .ref r]) ∧ LstOk n H r
  | _ => True
theorem Shape.mono {n n' : Nat} {H H' : Hp} {kd : Option BK} {ss : List V} (m : LMono n n' H H') (h : Shape n H kd ss) : Shape n' H' kd ss := by
  have key : (∀ v ∈ ss, ∃ t z r, v = .ref t ∧ H t = some (.tup [.int z, .ref r]) ∧ LstOk n H r) → ∀ v ∈ ss, ∃ t z r, v = .ref t ∧ H' t = some (.tup [.int z, .ref r]) ∧ LstOk n' H' r := fun h v hv => by
    obtain ⟨t, z, r, h1, h2, h3⟩ := h v hv
    exact ⟨t, z, r, h1, m.1 _ _ h2, m.2 _ h3⟩
  cases kd with
  | none => trivial
  | some b => cases b <;> first | exact h | exact key h
structure LBk (n : Nat) (H : Hp) (kd : Option BK) (p sh hd : Addr) (R : List Addr) (rv : V) (line : Str) (tl ss : List V) : Prop where
  hp : H p = some (.lst [.ref hd, .ref sh, rv, .str line])
  hh : H hd = some (.tup (.str (hn kd) :: tl))
  ht : tl.length ≤ 2
  hs : H sh = some (.lst ss)
  sl : ss.length ≤ n
  no : kd = some .parts → rv = .non ∧ R = []
  rw : kd ≠ some .parts → ∃ rw, rv = .ref rw ∧ R = [rw] ∧ LstOk n H rw
  sp : Shape n H kd ss
def LB2 (n : Nat) (H : Hp) (kd : Option BK) (p sh : Addr) (R : List Addr) : Prop := ∃ hd rv line tl ss, LBk n H kd p sh hd R rv line tl ss
theorem LB2.mono {n n' : Nat} {H H' : Hp} {kd : Option BK} {p sh : Addr} {R : List Addr} (m : LMono n n' H H') (hn : n ≤ n') (g : ∀ a ∈ [p, sh], ∀ o, H a = some o → H' a = some o) (h : LB2 n H kd p sh R) : LB2 n' H' kd p sh R := by
  obtain ⟨hd, rv, line, tl, ss, h⟩ := h
  refine ⟨hd, rv, line, tl, ss, g p (by simp) _ h.hp, m.1 _ _ h.hh, h.ht, g sh (by simp) _ h.hs, Nat.le_trans h.sl hn, h.no, fun z => ?_, h.sp.mono m⟩
  obtain ⟨rw', e1, e2, e3⟩ := h.rw z
  exact ⟨rw', e1, e2, m.2 _ e3⟩
def LRest (n : Nat) (H : Hp) : List BK → List Addr → List Addr → List Addr → Prop
  | [], bs, Pr, R => bs = [] ∧ Pr = [] ∧ R = []
  | _ :: s, bs, Pr, R => ∃ p sh bs' Pr' R1 R', bs = p :: bs' ∧ Pr = p :: sh :: Pr' ∧ R = R1 ++ R' ∧ LB2 n H s.head? p sh R1 ∧ LRest n H s bs' Pr' R'
theorem LRest.mono {n n' : Nat} {H H' : Hp} (m : LMono n n' H H') (hn : n ≤ n') : ∀ {s : List BK} {bs Pr R : List Addr}, (∀ a ∈ Pr, ∀ o, H a = some o → H' a = some o) → LRest n H s bs Pr R → LRest n' H' s bs Pr R
  | [], _, _, _, _, h => h
  | _ :: s, _, _, _, g, ⟨p, sh, bs', Pr', R1, R', e1, e2, e3, hB, hR⟩ => by
    subst e2
    exact ⟨p, sh, bs', Pr', R1, R', e1, rfl, e3, hB.mono m hn (fun a ha => g a (by simp at ha ⊢; rcases ha with h | h <;> simp [h])), LRest.mono (s := s) m hn (fun a ha => g a (by simp [ha])) hR⟩
theorem LRest.len {n : Nat} {H : Hp} : ∀ {s : List BK} {bs Pr R : List Addr}, LRest n H s bs Pr R → bs.length = s.length
  | [], _, _, _, ⟨e, _, _⟩ => by rw [e]; rfl
  | _ :: s, _, _, _, ⟨p, sh, bs', Pr', R1, R', e, _, _, _, hR⟩ => by rw [e, List.length_cons, List.length_cons, LRest.len (s := s) hR]
theorem LB2.there {n : Nat} {H : Hp} {kd : Option BK} {p sh : Addr} {R : List Addr} (h : LB2 n H kd p sh R) : ∀ a ∈ p :: sh :: R, ∃ xs, H a = some (.lst xs) := fun a ha => by
  obtain ⟨hd, rv, line, tl, ss, h⟩ := h
  rcases List.mem_cons.mp ha with rfl | ha
  · exact ⟨_, h.hp⟩
  rcases List.mem_cons.mp ha with rfl | ha
  · exact ⟨_, h.hs⟩
  by_cases z : kd = some .parts
  · rw [(h.no z).2] at ha
    cases ha
  · obtain ⟨rw', _, e, xs, e2, _⟩ := h.rw z
    rw [e] at ha
    cases List.mem_singleton.mp ha
    exact ⟨xs, e2⟩
theorem LRest.there {n : Nat} {H : Hp} : ∀ {s : List BK} {bs Pr R : List Addr}, LRest n H s bs Pr R → ∀ a ∈ Pr ++ R, ∃ xs, H a = some (.lst xs)
  | [], _, _, _, ⟨_, e1, e2⟩, a, ha => by rw [e1, e2] at ha; cases ha
  | _ :: s, _, _, _, ⟨p, sh, bs', Pr', R1, R', _, e1, e2, hB, hR⟩, a, ha => by
    rw [e1, e2] at ha
    have h1 := hB.there a
    have h2 := LRest.there (s := s) hR a
    simp only [List.mem_append, List.mem_cons] at ha h1 h2
    rcases ha with (h | h | h) | h | h
    · exact h1 (.inl h)
    · exact h1 (.inr (.inl h))
    · exact h2 (.inl h)
    · exact h1 (.inr (.inr h))
    · exact h2 (.inr h)
/-- the law's open blocks and lines, made since H0 -/
structure LI (n : Nat) (H0 H : Hp) (D L : Addr) (s : List BK) (ls : Ws) (bs Pr R : List Addr) : Prop where
  hD : H D = some (.lst (bs.reverse.map V.ref))
  st : LRest n H (.on :: s) bs Pr R
  nd : (D :: L :: Pr).Nodup
  nr : ∀ r ∈ R, r ∉ D :: L :: Pr
  hL : H L = some (.lst (ls.map V.str))
  fr : ∀ a ∈ D :: L :: (Pr ++ R), H0 a = none
  sm : Same H0 H
def LInv (n : Nat) (H0 H : Hp) (D L : Addr) (s : List BK) (ls : Ws) : Prop := ∃ bs Pr R, LI n H0 H D L s ls bs Pr R
def shutP (y : BK) : Ws := if y = .iff then [wElse, wEnd] else [wEnd]
theorem run_shut (y : BK) (s : List BK) : runP (shutP y) (y :: s) = some s := by
  unfold shutP
  cases y <;> simp [runP, lineP, row_else, row_end, stepP]
section
variable {P : Program} {w : World} {K : PySem.W.Frag} {mg : Str → Option Value} {base : Heap}
def sp_shut : Sp := fun vs H Q _ => ∃ (n : Nat) (H0 : Hp) (D L : Addr) (y : BK) (s : List BK) (ls : Ws), vs = [.ref D, .ref L] ∧ LInv n H0 H D L (y :: s) ls ∧ SOk (y :: s) ∧ n ≤ 900 ∧ ls.length ≤ 900 ∧ ∀ H', LInv (n + 4) H0 H' D L s (ls ++ shutP y) → Q .non H'
theorem sc__law_shut : FnScope ["_law_blocks", "_law_lines", "_law_block", "_law_made", "_law_part"] ["_law_blocks", "_law_lines"] (defScope (top 54)) := ⟨rfl, rfl, rfl, by decide +kernel, rfl, by decide +kernel, by decide +kernel⟩
theorem ok__law_shut (T : Txt K mg w) : FnOk P w K mg base CX0 1 T._law_shut.f T._law_shut.fd ["_law_blocks", "_law_lines"] sp_shut := by
  refine T._law_shut.F.ok sc__law_shut (fun vs H Q E h => ?_) (fun cdv A outer s0 H vs Q E hr h => ?_)
  · obtain ⟨n, H0, D, L, y, s, ls, rfl, _⟩ := h
    rfl
  · obtain ⟨n, H0, D, L, y, s, ls, rfl, ⟨bs, Pr, R, I⟩, hso, hn9, hlsl, k⟩ := h
    refine ⟨_, (pss_cons (ps_set (i := 2) sc__law_shut.nd rfl (Or.inl rfl) (pe_bm0 PySem.F.plainAttrs_list PySem.F.slot_list_pop PySem.F.type_list_pop mt_pop (pv 0)))
      (C8.pss_cut (ps_if (PW.pt (pw_and (pt_cmpR op_eq (pe_ix ix_tup (pe_ix ix_list (pv 2) pe_int (fun _ _ => rfl)) pe_int (fun _ _ => rfl)) pe_str (nomark _)) (pw_and1 (pt_cmpR op_eq (pe_callB call_len_seq (by rfl) T.n_len (by decide +kernel) (pa_cons (pe_ix ix_list (pv 2) pe_int (fun _ _ => rfl)) pa_nil)) pe_int (nomark _))))) (pss_cons (ps_expr (pe_bm PySem.F.plainAttrs_list PySem.F.slot_list_append PySem.F.type_list_append mt_append (pe_ix ix_list (pv 2) pe_int (fun _ _ => rfl)) (pa_cons (pe_callTy call_tuple_of (by rfl) T.n_tuple (by decide +kernel) (pa_cons (pe_ix ix_list (pv 2) pe_int (fun _ _ => rfl)) pa_nil)) pa_nil)))
      (pss_cons (ps_asg (pe_lst pa_nil) (pg_sub (pv 2) pe_int set_list))
      (pss_one (ps_expr (pe_bm PySem.F.plainAttrs_list PySem.F.slot_list_append PySem.F.type_list_append mt_append (pv 1) (pa_cons pe_str pa_nil)))))) pss_nil)
      (C8.pss_cut (ps_if (pt_cmpR op_eq (pe_ix ix_tup (pe_ix ix_list (pv 2) pe_int (fun _ _ => rfl)) pe_int (fun _ _ => rfl)) pe_str (nomark _)) (pss_one (ps_set (i := 3) sc__law_shut.nd rfl (Or.inl rfl) (pe_op op_catT (pe_ix ix_list (pv 2) pe_int (fun _ _ => rfl)) (pe_tup (pa_cons (pe_ix ix_list (pe_ix ix_list (pv 2) pe_int (fun _ _ => rfl)) pe_int (fun _ _ => rfl)) (pa_cons (pe_callTy call_tuple_of (by rfl) T.n_tuple (by decide +kernel) (pa_cons (pe_ix ix_list (pv 2) pe_int (fun _ _ => rfl)) pa_nil)) pa_nil)))))) (pss_one (ps_if (pt_cmpR op_eq (pe_ix ix_tup (pe_ix ix_list (pv 2) pe_int (fun _ _ => rfl)) pe_int (fun _ _ => rfl)) pe_str (nomark _)) (pss_one (ps_set (i := 3) sc__law_shut.nd rfl (Or.inl rfl) (pe_op op_catT (pe_ix ix_list (pv 2) pe_int (fun _ _ => rfl)) (pe_tup (pa_cons (pe_callTy call_tuple_of (by rfl) T.n_tuple (by decide +kernel) (pa_cons (pe_lc (te := tTup (tCons (tOp (rIxT K) (tVar 4) (tC (.int 0))) (tCons (tCB (fun xs H Q => ∃ p ys, xs = [.ref p] ∧ ((SqL K H p ys ∧ ∀ l, H l = none → Q (.ref l) (upd H l (.tup ys))) ∨ (SqT K H p ys ∧ Q (.ref p) H))) (tCons (tOp (rIxT K) (tVar 4) (tC (.int 1))) tNil)) tNil))) (own := [("_law_part", 4)]) (g := gName 4) (tt := tYes) rfl sc__law_shut.nd (pi_list (pe_ix ix_list (pv 2) pe_int (fun _ _ => rfl))) (blkOk_by (own := [("_law_part", 4)]) (N := ["_law_blocks", "_law_lines", "_law_block", "_law_made", "_law_part"]) (sc := defScope (top 54)) (by decide +kernel)) (fun _ _ _ _ _ => pg_name (i := 4) sc__law_shut.nd rfl (Or.inl rfl)) (fun _ _ _ _ _ => pts_nil) (fun _ _ _ _ _ => (pe_tup (pa_cons (pe_ix ix_tup (pv 4) pe_int (fun _ _ => rfl)) (pa_cons (pe_callTy call_tuple_of (by rfl) T.n_tuple (by decide +kernel) (pa_cons (pe_ix ix_tup (pv 4) pe_int (fun _ _ => rfl)) pa_nil)) pa_nil))))) pa_nil)) pa_nil))))) (pss_one (ps_set (i := 3) sc__law_shut.nd rfl (Or.inl rfl) (pe_op op_catT (pe_ix ix_list (pv 2) pe_int (fun _ _ => rfl)) (pe_tup (pa_cons (pe_callTy call_tuple_of (by rfl) T.n_tuple (by decide +kernel) (pa_cons (pe_ix ix_list (pv 2) pe_int (fun _ _ => rfl)) pa_nil)) pa_nil))))))))
      (pss_cons (ps_expr (pe_bm PySem.F.plainAttrs_list PySem.F.slot_list_append PySem.F.type_list_append mt_append (pv 1) (pa_cons pe_str pa_nil)))
      (pss_one (ps_expr (pe_bm PySem.F.plainAttrs_list PySem.F.slot_list_append PySem.F.type_list_append mt_append (pe_ix ix_list (pe_ix ix_list (pv 0) (pe_un un_neg pe_int) (fun _ _ => rfl)) pe_int (fun _ _ => rfl)) (pa_cons (pv 3) pa_nil)))))))), ?_⟩
    have hlen := LRest.len I.st
    have hfr := I.fr
    have hnr := I.nr
    have hnd := I.nd
    have hDD := I.hD
    obtain ⟨p, sh, bs', Pr', R1, R', rfl, rfl, rfl, hB1, hR0⟩ := I.st
    have hR0' := hR0
    obtain ⟨p2, sh2, bs2, Pr2, R2, R3, rfl, rfl, rfl, hB2, hR2⟩ := hR0
    obtain ⟨hd2, rv2, line2, tl2, ss2, B2⟩ := hB2
    have hnp : s.head? ≠ some .parts := fun z => by
      cases s with
      | nil => cases z
      | cons c r =>
        cases z
        exact hso.2 (by simp)
    obtain ⟨rw2, rfl, rfl, xs2, hrw2, hxl2⟩ := B2.rw hnp
    obtain ⟨hd, rv, line, tl, ss, B⟩ := hB1
    have hp := B.hp
    have hh := B.hh
    have hs := B.hs
    -- what is apart
    have hnd' := hnd
    simp only [List.nodup_cons, List.mem_cons, not_or] at hnd'
    obtain ⟨⟨nDL, nDp, nDs, nDp2, nDs2, nDP⟩, ⟨nLp, nLs, nLp2, nLs2, nLP⟩, ⟨nps, npp2, nps2, npP⟩, ⟨nsp2, nss2, nsP⟩, hnd5⟩ := hnd'
    have hr2 := hnr rw2 (by simp)
    simp only [List.mem_cons, not_or] at hr2
    obtain ⟨r2D, r2L, r2p, r2s, r2p2, r2s2, r2P⟩ := hr2
    have exs : ((p :: p2 :: bs2).reverse.map V.ref) = (p2 :: bs2).reverse.map V.ref ++ [.ref p] := by
      rw [List.reverse_cons, List.map_append]
      rfl
    refine ⟨_, rfl, .inl ⟨rfl, _, SqL.of hDD⟩, D, _, .ref p, rfl, rfl, hDD, ?_, ?_⟩
    · rw [exs, List.length_append]
      simp
    rw [exs, List.dropLast_concat]
    obtain ⟨G, eG⟩ : ∃ G, G = upd H D (.lst ((p2 :: bs2).reverse.map V.ref)) := ⟨_, rfl⟩
    rw [← eG]
    have mG : LMono n n H G := by
      rw [eG]
      refine LMono.upd hDD (Nat.le_refl _) fun h => ?_
      rw [exs, List.length_append] at h
      omega
    have gG : ∀ c o, c ≠ D → H c = some o → G c = some o := fun c o nc e => by rw [eG, upd_ne nc]; exact e
    have hGD : G D = some (.lst ((p2 :: bs2).reverse.map V.ref)) := by rw [eG]; exact upd_same
    have hpG := gG _ _ (Ne.symm nDp) hp
    have hhG := mG.1 _ _ hh
    have hsG := gG _ _ (Ne.symm nDs) hs
    have hLG := gG _ _ (Ne.symm nDL) I.hL
    refine ⟨fun σ' H' => σ' = [some (.ref D), some (.ref L), some (.ref p), none, none] ∧ ∃ rv' ss', H' p = some (.lst [.ref hd, .ref sh, rv', .str line]) ∧ H' sh = some (.lst ss') ∧ (hn (some y) = "if" → ∃ v, ss' = [v]) ∧
      (hn (some y) ≠ "parts" → ∃ rw xs, rv' = .ref rw ∧ H' rw = some (.lst xs)) ∧ (hn (some y) = "parts" → ss'.length ≤ n ∧ ∀ v ∈ ss', ∃ t z r, v = .ref t ∧ H' t = some (.tup [.int z, .ref r]) ∧ LstOk (n + 2) H' r) ∧
      H' L = some (.lst ((ls ++ (if y = .iff then [wElse] else [])).map V.str)) ∧ LMono n (n + 2) G H' ∧ (∀ c o, c ∉ [L, p, sh] → G c = some o → H' c = some o), ?_, ?_⟩
    · have hF : ∀ R : VK, R (.ref hd) G → tOp (rIxL K) (tVar 2) (tC (.int 0)) [some (.ref D), some (.ref L), some (.ref p), none, none] G R := fun R q => ⟨_, rfl, p, _, 0, .ref hd, rfl, rfl, SqL.of hpG, at_of (j := 0) rfl rfl, q⟩
      by_cases hif : hn (some y) = "if"
      · refine q_eq hF hhG hif ?_
        refine iteT ⟨_, rfl, p, _, 1, .ref sh, rfl, rfl, SqL.of hpG, at_of (j := 1) rfl rfl, sh, _, rfl, .inl (SqL.of hsG), rfl, _, rfl, ?_⟩
        have hy : y = .iff ∨ y = .els := by
          cases y with
          | iff => exact .inl rfl
          | els => exact .inr rfl
          | parts => exact absurd hif (show ("parts" : Str) ≠ "if" by decide +kernel)
          | key => exact absurd hif (show ("parts" : Str) ≠ "if" by decide +kernel)
          | draw => exact absurd hif (show ("draw" : Str) ≠ "if" by decide +kernel)
          | on => exact absurd hif (show ("on" : Str) ≠ "if" by decide +kernel)
        obtain ⟨rw, erv, _, xs, hrw, hxl⟩ := B.rw (by
          rcases hy with rfl | rfl
          · exact fun z => by cases z
          · exact fun z => by cases z)
        have hrwG := mG.2 rw ⟨xs, hrw, hxl⟩
        obtain ⟨xs, hrwG, hxl⟩ := hrwG
        rcases hy with rfl | rfl
        · have hss : ss = [] := B.sp
          subst hss
          rw [di_eq (show ((([] : List V).length : Nat) : Int) = 0 from rfl)]
          refine iteT ⟨_, rfl, p, _, 1, .ref sh, rfl, rfl, SqL.of hpG, at_of (j := 1) rfl rfl, .inl ⟨rfl, _, SqL.of hsG⟩, _, rfl, p, _, 2, rv, rfl, rfl, SqL.of hpG, at_of (j := 2) rfl rfl, rw, xs, by rw [erv], .inl ⟨SqL.of hrwG, fun t ht => ⟨sh, [], .ref t, rfl, rfl, Same.laid ht _ _ hsG, by decide, ?_⟩⟩⟩
          have m1 : LMono n n G (upd G t (.tup xs)) := LMono.of_same (Nat.le_refl _) (Same.laid ht)
          have m2 : LMono n (n + 1) (upd G t (.tup xs)) (upd (upd G t (.tup xs)) sh (.lst ([] ++ [.ref t]))) := LMono.upd (Same.laid ht _ _ hsG) (by omega) fun _ => by simp
          obtain ⟨G1, eG1⟩ : ∃ G1, G1 = upd (upd G t (.tup xs)) sh (.lst ([] ++ [.ref t])) := ⟨_, rfl⟩
          have g1 : ∀ c o, c ≠ sh → G c = some o → G1 c = some o := fun c o nc e => by rw [eG1, upd_ne nc]; exact Same.laid ht _ _ e
          rw [← eG1] at m2
          have hp1 := g1 _ _ nps hpG
          have hs1 : G1 sh = some (.lst [.ref t]) := by rw [eG1]; exact upd_same
          refine ⟨Nat.zero_le _, fun q hq => ⟨_, rfl, p, _, 2, 2, rfl, rfl, Same.laid (o := .lst []) (by rw [eG1]; exact hq) _ _ hp1 |> fun h => by rw [eG1] at h; exact h, rfl, ?_⟩⟩
          rw [← eG1] at hq ⊢
          have m3 : LMono (n + 1) (n + 1) G1 (upd G1 q (.lst [])) := LMono.of_same (Nat.le_refl _) (Same.laid hq)
          obtain ⟨G2, eG2⟩ : ∃ G2, G2 = upd (upd G1 q (.lst [])) p (.lst ([V.ref hd, .ref sh, rv, .str line].set 2 (.ref q))) := ⟨_, rfl⟩
          have m4 : LMono (n + 1) (n + 1) (upd G1 q (.lst [])) G2 := by
            rw [eG2]
            exact LMono.upd (Same.laid hq _ _ hp1) (Nat.le_refl _) fun h => h
          rw [← eG2]
          have g2 : ∀ c o, c ≠ p → G1 c = some o → G2 c = some o := fun c o nc e => by rw [eG2, upd_ne nc]; exact Same.laid hq _ _ e
          have hL2 := g2 _ _ nLp (g1 _ _ nLs hLG)
          refine ⟨_, rfl, .inl ⟨rfl, _, SqL.of hL2⟩, L, _, _, rfl, rfl, hL2, by rw [List.length_map]; exact small1000 (by omega), ?_⟩
          have m5 : LMono (n + 1) (n + 2) G2 (upd G2 L (.lst (ls.map V.str ++ [.str "else"]))) := LMono.upd hL2 (by omega) fun h => by rw [List.length_append]; simp only [List.length_cons, List.length_nil]; omega
          have nqp : q ≠ p := fun z => by rw [z, hp1] at hq; cases hq
          have nqL : q ≠ L := fun z => by rw [z, g1 _ _ nLs hLG] at hq; cases hq
          refine ⟨rfl, .ref q, [.ref t], ?_, ?_, fun _ => ⟨_, rfl⟩, fun _ => ⟨q, [], rfl, ?_⟩, fun z => absurd z (show ("if" : Str) ≠ "parts" by decide +kernel), ?_, m1.trans (m2.trans (m3.trans (m4.trans m5))), fun c o hc e => ?_⟩
          · rw [upd_ne (Ne.symm nLp), eG2]
            exact upd_same
          · rw [upd_ne (Ne.symm nLs)]
            exact g2 _ _ (Ne.symm nps) hs1
          · rw [upd_ne nqL, eG2, upd_ne nqp]
            exact upd_same
          · rw [upd_same, if_pos rfl, List.map_append]
            rfl
          · simp only [List.mem_cons, List.not_mem_nil, or_false, not_or] at hc
            rw [upd_ne hc.1]
            exact g2 _ _ hc.2.1 (g1 _ _ hc.2.2 e)
        · have hss : ss.length = 1 := B.sp
          rw [di_ne (by rw [hss]; decide)]
          refine iteF ⟨rfl, rv, ss, hpG, hsG, fun _ => List.length_eq_one_iff.mp hss, fun _ => ⟨rw, xs, erv, hrwG⟩, fun z => absurd z (show ("if" : Str) ≠ "parts" by decide +kernel), ?_, LMono.of_same (by omega) (fun _ _ e => e), fun c o _ e => e⟩
          rw [if_neg (by simp), List.append_nil]
          exact hLG
      · refine q_ne hF hhG hif ?_
        have hy : y ≠ .iff := fun z => hif (by rw [z]; rfl)
        refine iteF (iteF ⟨rfl, rv, ss, hpG, hsG, fun z => absurd z hif, fun z => ?_, fun z => ⟨B.sl, ?_⟩, ?_, LMono.of_same (by omega) (fun _ _ e => e), fun c o _ e => e⟩)
        · obtain ⟨rw, erv, _, hrw⟩ := B.rw (fun e => z (by have e2 : y = .parts := (by simpa using e); rw [e2]; rfl))
          obtain ⟨xs, e, _⟩ := mG.2 rw hrw
          exact ⟨rw, xs, erv, e⟩
        · have hy2 : y = .parts ∨ y = .key := by
            cases y with
            | parts => exact .inl rfl
            | key => exact .inr rfl
            | iff => exact absurd z (show ("if" : Str) ≠ "parts" by decide +kernel)
            | els => exact absurd z (show ("if" : Str) ≠ "parts" by decide +kernel)
            | draw => exact absurd z (show ("draw" : Str) ≠ "parts" by decide +kernel)
            | on => exact absurd z (show ("on" : Str) ≠ "parts" by decide +kernel)
          have m0 : LMono n (n + 2) H G := mG.trans (LMono.of_same (by omega) (fun _ _ e => e))
          have hS := B.sp.mono m0
          rcases hy2 with rfl | rfl
          · exact hS
          · exact hS
        · rw [if_neg hy, List.append_nil]
          exact hLG
    · rintro σ' G1 ⟨rfl, rv', ss', hp1, hs1, f1, f2, f3, hL1, m1, g1⟩
      have hh1 := m1.1 _ _ hhG
      have hF : ∀ R : VK, R (.ref hd) G1 → tOp (rIxL K) (tVar 2) (tC (.int 0)) [some (.ref D), some (.ref L), some (.ref p), none, none] G1 R := fun R q => ⟨_, rfl, p, _, 0, .ref hd, rfl, rfl, SqL.of hp1, at_of (j := 0) rfl rfl, q⟩
      have htl := B.ht
      refine ⟨fun σ' H' => (∃ m : Addr, σ' = [some (.ref D), some (.ref L), some (.ref p), some (.ref m), none]) ∧ Same G1 H', ?_, ?_⟩
      · by_cases hif : hn (some y) = "if"
        · refine q_eq hF hh1 hif ?_
          obtain ⟨v, rfl⟩ := f1 hif
          obtain ⟨rw, xs, rfl, hrw⟩ := f2 (by rw [hif]; decide +kernel)
          refine iteT ⟨_, rfl, p, _, 0, .ref hd, rfl, rfl, SqL.of hp1, at_of (j := 0) rfl rfl, _, rfl, p, _, 1, .ref sh, rfl, rfl, SqL.of hp1, at_of (j := 1) rfl rfl, sh, _, 0, v, rfl, rfl, SqL.of hs1, at_of (j := 0) rfl rfl, _, rfl, p, _, 2, .ref rw, rfl, rfl, SqL.of hp1, at_of (j := 2) rfl rfl, rw, xs, rfl, .inl ⟨SqL.of hrw, fun t ht => ⟨sz2, fun u hu => ?_⟩⟩⟩
          exact ⟨hd, u, _, _, rfl, rfl, SqT.of (Same.laid hu _ _ (Same.laid ht _ _ hh1)), SqT.of upd_same, by simp, sz1000 (by simp only [List.length_cons, List.length_nil]; omega), fun z => (nomatch z), fun _ m hm => ⟨⟨m, rfl⟩, Same.trans' (Same.laid ht) (Same.trans' (Same.laid hu) (Same.laid hm))⟩⟩
        · refine q_ne hF hh1 hif ?_
          refine iteF ?_
          by_cases hpt : hn (some y) = "parts"
          · refine q_eq hF hh1 hpt ?_
            obtain ⟨hsl, hS⟩ := f3 hpt
            refine iteT ⟨_, rfl, p, _, 0, .ref hd, rfl, rfl, SqL.of hp1, at_of (j := 0) rfl rfl, _, rfl, p, _, 1, .ref sh, rfl, rfl, SqL.of hp1, at_of (j := 1) rfl rfl, sh, rfl, ⟨_, SqL.of hs1⟩, fun C hC => ?_⟩
            refine lc_list (xs := ss') (fun i H' => SB C G1 H' ∧ ∃ acc, H' C = some (.lst acc) ∧ acc.length = i) ?_ ?_ ?_ ?_
            · exact ⟨SB.of_same (Same.laid hC), [], upd_same, rfl⟩
            · rintro i H' _ ⟨S, _⟩
              exact SqL.of (S _ _ (ne_of_none hs1 hC) hs1)
            · rintro i x H' hx ⟨S, acc, hacc, hal⟩
              obtain ⟨t, z, r, rfl, ht, xs, hr3, _⟩ := hS x (List.mem_of_getElem? hx)
              have hi := (List.getElem?_eq_some_iff.mp hx).1
              have ht' := S _ _ (ne_of_none ht hC) ht
              have hr' := S _ _ (ne_of_none hr3 hC) hr3
              refine ⟨rfl, ?_⟩
              simp only [tYes, if_true]
              refine ⟨_, rfl, t, _, 0, .int z, rfl, rfl, SqT.of ht', at_of (j := 0) rfl rfl, _, rfl, t, _, 1, .ref r, rfl, rfl, SqT.of ht', at_of (j := 1) rfl rfl, r, xs, rfl, .inl ⟨SqL.of hr', fun u hu => ⟨sz2, fun w hw => ⟨acc, ?_, by rw [hal]; exact small1000 (by omega), fun c o nc e => ?_, _, upd_same, by rw [List.length_append, hal]; rfl⟩⟩⟩⟩
              · exact Same.laid hw _ _ (Same.laid hu _ _ hacc)
              · rw [upd_ne nc]
                exact Same.laid hw _ _ (Same.laid hu _ _ (S c o nc e))
            · rintro H' ⟨S, acc, hacc, hal⟩
              have sH : Same G1 H' := fun c o e => S c o (ne_of_none e hC) e
              refine ⟨C, acc, rfl, .inl ⟨SqL.of hacc, fun t ht => ⟨sz1, fun u hu => ?_⟩⟩⟩
              exact ⟨hd, u, _, _, rfl, rfl, SqT.of (Same.laid hu _ _ (Same.laid ht _ _ (sH _ _ hh1))), SqT.of upd_same, by simp, sz1000 (by simp only [List.length_cons, List.length_nil]; omega), fun z => (nomatch z), fun _ m hm => ⟨⟨m, rfl⟩, Same.trans' (Same.trans' sH (Same.laid ht)) (Same.trans' (Same.laid hu) (Same.laid hm))⟩⟩
          · refine q_ne hF hh1 hpt ?_
            obtain ⟨rw, xs, rfl, hrw⟩ := f2 hpt
            refine iteF ⟨_, rfl, p, _, 0, .ref hd, rfl, rfl, SqL.of hp1, at_of (j := 0) rfl rfl, _, rfl, p, _, 2, .ref rw, rfl, rfl, SqL.of hp1, at_of (j := 2) rfl rfl, rw, xs, rfl, .inl ⟨SqL.of hrw, fun t ht => ⟨sz1, fun u hu => ?_⟩⟩⟩
            exact ⟨hd, u, _, _, rfl, rfl, SqT.of (Same.laid hu _ _ (Same.laid ht _ _ hh1)), SqT.of upd_same, by simp, sz1000 (by simp only [List.length_cons, List.length_nil]; omega), fun z => (nomatch z), fun _ m hm => ⟨⟨m, rfl⟩, Same.trans' (Same.laid ht) (Same.trans' (Same.laid hu) (Same.laid hm))⟩⟩
      · rintro σ' G2 ⟨⟨m, rfl⟩, S2⟩
        have hL2 := S2 _ _ hL1
        have llen : (ls ++ (if y = .iff then [wElse] else [])).length ≤ ls.length + 1 := by
          rw [List.length_append]
          split <;> simp
        refine ⟨_, rfl, .inl ⟨rfl, _, SqL.of hL2⟩, L, _, _, rfl, rfl, hL2, by rw [List.length_map]; exact small1000 (by omega), ?_⟩
        obtain ⟨G3, eG3⟩ : ∃ G3, G3 = upd G2 L (.lst ((ls ++ (if y = .iff then [wElse] else [])).map V.str ++ [.str "end"])) := ⟨_, rfl⟩
        have m2 : LMono (n + 2) (n + 3) G1 G3 := by
          rw [eG3]
          exact (LMono.of_same (Nat.le_refl _) S2).trans (LMono.upd hL2 (by omega) fun h => by rw [List.length_append]; simp only [List.length_cons, List.length_nil]; omega)
        rw [← eG3]
        have g3 : ∀ c o, c ∉ [D, L, p, sh] → H c = some o → G3 c = some o := fun c o hc e => by
          simp only [List.mem_cons, List.not_mem_nil, or_false, not_or] at hc
          rw [eG3, upd_ne hc.2.1]
          exact S2 _ _ (g1 c o (by simp only [List.mem_cons, List.not_mem_nil, or_false, not_or]; exact ⟨hc.2.1, hc.2.2.1, hc.2.2.2⟩) (gG c o hc.1 e))
        have hD3 : G3 D = some (.lst ((p2 :: bs2).reverse.map V.ref)) := by
          rw [eG3, upd_ne nDL]
          exact S2 _ _ (g1 _ _ (by simp only [List.mem_cons, List.not_mem_nil, or_false, not_or]; exact ⟨nDL, nDp, nDs⟩) hGD)
        have hp23 := g3 _ _ (by simp only [List.mem_cons, List.not_mem_nil, or_false, not_or]; exact ⟨Ne.symm nDp2, Ne.symm nLp2, Ne.symm npp2, Ne.symm nsp2⟩) B2.hp
        have hrw3 := g3 _ _ (by simp only [List.mem_cons, List.not_mem_nil, or_false, not_or]; exact ⟨r2D, r2L, r2p, r2s⟩) hrw2
        refine ⟨_, rfl, _, rfl, D, _, _, _, rfl, rfl, SqL.of hD3, at_last, p2, _, 2, .ref rw2, rfl, rfl, SqL.of hp23, at_of (j := 2) rfl rfl, .inl ⟨rfl, _, SqL.of hrw3⟩, _, rfl, rw2, xs2, _, rfl, rfl, hrw3, small1000 (by omega), ?_⟩
        obtain ⟨G4, eG4⟩ : ∃ G4, G4 = upd G3 rw2 (.lst (xs2 ++ [.ref m])) := ⟨_, rfl⟩
        have m3 : LMono (n + 3) (n + 4) G3 G4 := by
          rw [eG4]
          exact LMono.upd hrw3 (by omega) fun h => by rw [List.length_append]; simp only [List.length_cons, List.length_nil]; omega
        have mAll : LMono n (n + 4) H G4 := mG.trans (m1.trans (m2.trans m3))
        have g4 : ∀ c o, c ∉ [D, L, p, sh, rw2] → H c = some o → G4 c = some o := fun c o hc e => by
          simp only [List.mem_cons, List.not_mem_nil, or_false, not_or] at hc
          rw [eG4, upd_ne hc.2.2.2.2]
          exact g3 c o (by simp only [List.mem_cons, List.not_mem_nil, or_false, not_or]; exact ⟨hc.1, hc.2.1, hc.2.2.1, hc.2.2.2.1⟩) e
        have nin : ∀ a ∈ p2 :: sh2 :: Pr2, a ∉ [D, L, p, sh, rw2] := fun a ha hm => by
          simp only [List.mem_cons, List.not_mem_nil, or_false] at hm ha
          rcases hm with rfl | rfl | rfl | rfl | rfl
          · rcases ha with rfl | rfl | ha
            · exact nDp2 rfl
            · exact nDs2 rfl
            · exact nDP ha
          · rcases ha with rfl | rfl | ha
            · exact nLp2 rfl
            · exact nLs2 rfl
            · exact nLP ha
          · rcases ha with rfl | rfl | ha
            · exact npp2 rfl
            · exact nps2 rfl
            · exact npP ha
          · rcases ha with rfl | rfl | ha
            · exact nsp2 rfl
            · exact nss2 rfl
            · exact nsP ha
          · rcases ha with rfl | rfl | ha
            · exact r2p2 rfl
            · exact r2s2 rfl
            · exact r2P ha
        rw [← eG4]
        refine k G4 ⟨p2 :: bs2, p2 :: sh2 :: Pr2, [rw2] ++ R3, ?_, ?_, ?_, ?_, ?_, ?_, ?_⟩
        · rw [eG4, upd_ne (Ne.symm r2D)]
          exact hD3
        · exact LRest.mono mAll (by omega) (fun a ha o e => g4 a o (nin a ha) e) hR0'
        · rw [List.nodup_cons, List.nodup_cons]
          simp only [List.mem_cons, not_or]
          exact ⟨⟨nDL, nDp2, nDs2, nDP⟩, ⟨nLp2, nLs2, nLP⟩, by rw [List.nodup_cons, List.nodup_cons]; exact ⟨by simp only [List.mem_cons, not_or]; exact hnd5.1, hnd5.2⟩⟩
        · intro r hr3 hm
          refine hnr r (List.mem_append_right _ hr3) ?_
          simp only [List.mem_cons] at hm ⊢
          rcases hm with h | h | h | h | h <;> simp [h]
        · rw [eG4, upd_ne (Ne.symm r2L), eG3, upd_same]
          unfold shutP
          by_cases hy : y = .iff <;> simp [hy]
        · intro a ha
          refine hfr a ?_
          simp only [List.mem_cons, List.mem_append, List.not_mem_nil, or_false] at ha ⊢
          rcases ha with h | h | (h | h | h) | h | h <;> simp [h]
        · intro c o e
          refine g4 c o (fun hm => ?_) (I.sm c o e)
          have := hfr c (by
            simp only [List.mem_cons, List.mem_append, List.not_mem_nil, or_false] at hm ⊢
            rcases hm with h | h | h | h | h <;> simp [h])
          rw [this] at e
          cases e
end
end BD
/-! W26: _law_go_on. -/
namespace BD
open PySem PySem.Spec L2 TL
open PyProof.Rows hiding St
local macro_rules | `(tactic| walk_at "p") => `(tactic| (show (0 : Int) < _; decide))
/-! ### tests that tell a bool -/
def Tells (t : TT) (σ : L2.St) (H : Hp) (b : Bool) : Prop := ∀ Q : Bool → Hp → Prop, Q b H → t σ H Q
theorem Tells.and {t u : TT} {σ : L2.St} {H : Hp} {a b : Bool} (x : Tells t σ H a) (y : Tells u σ H b) : Tells (tAnd t u) σ H (a && b) := fun Q q => x _ (by
  cases a with
  | true => exact iteT (y _ q)
  | false => exact iteF q)
theorem Tells.or {t u : TT} {σ : L2.St} {H : Hp} {a b : Bool} (x : Tells t σ H a) (y : Tells u σ H b) : Tells (tOr t u) σ H (a || b) := fun Q q => x _ (by
  cases a with
  | true => exact iteT q
  | false => exact iteF (y _ q))
theorem Tells.not {t : TT} {σ : L2.St} {H : Hp} {a : Bool} (x : Tells t σ H a) : Tells (tNot t) σ H (!a) := fun Q q => x _ q
theorem tells_eq {i : Nat} {a b : Int} {σ : L2.St} {H : Hp} (h : σ[i]? = some (some (.int a))) : Tells (tTest (tOp rEq (tVar i) (tC (.int b)))) σ H (decide (a = b)) := fun Q q => by
  refine ⟨_, h, rfl, _, rfl, ?_⟩
  by_cases e : a = b
  · rw [di_eq e]
    rw [decide_eq_true e] at q
    exact q
  · rw [di_ne e]
    rw [decide_eq_false e] at q
    exact q
theorem tells_lt {i : Nat} {a b : Int} {σ : L2.St} {H : Hp} (h : σ[i]? = some (some (.int a))) : Tells (tTest (tOp (rI0 fun i j => .bl (decide (i < j))) (tVar i) (tC (.int b)))) σ H (decide (a < b)) := fun Q q => ⟨_, h, _, _, rfl, rfl, _, rfl, q⟩
theorem li_put {n n' : Nat} {H0 H H' : Hp} {D L : Addr} {s s' : List BK} {ls new : Ws} {p sh : Addr} {bs' Pr' R1 R' R1' X : List Addr} (I : LI n H0 H D L s ls (p :: bs') (p :: sh :: Pr') (R1 ++ R')) (hR : LRest n H s bs' Pr' R') (hth : ∀ a ∈ p :: sh :: R1, ∃ xs, H a = some (.lst xs))
    (hs' : ∀ n H, LRest n H s bs' Pr' R' → LRest n H s' bs' Pr' R') (m : LMono n n' H H') (hn : n ≤ n') (g : ∀ c o, c ∉ L :: p :: sh :: X → H c = some o → H' c = some o) (hX : ∀ x ∈ X, x ∈ R1) (hB : LB2 n' H' s'.head? p sh R1') (hR1 : ∀ r ∈ R1', r ∈ R1 ∨ H r = none)
    (hL : H' L = some (.lst ((ls ++ new).map V.str))) : LInv n' H0 H' D L s' (ls ++ new) := by
  have nd := I.nd
  simp only [List.nodup_cons, List.mem_cons, not_or] at nd
  obtain ⟨⟨nDL, nDp, nDs, nDP⟩, ⟨nLp, nLs, nLP⟩, ⟨nps, npP⟩, nsP, ndP⟩ := nd
  have xP : ∀ x ∈ X, x ∉ D :: L :: p :: sh :: Pr' := fun x hx => I.nr x (List.mem_append_left _ (hX x hx))
  have outD : D ∉ L :: p :: sh :: X := fun hm => by
    simp only [List.mem_cons] at hm
    rcases hm with h | h | h | h
    · exact nDL h
    · exact nDp h
    · exact nDs h
    · exact xP D h (by simp)
  have outP : ∀ a ∈ Pr', a ∉ L :: p :: sh :: X := fun a ha hm => by
    simp only [List.mem_cons] at hm
    rcases hm with h | h | h | h
    · exact nLP (h ▸ ha)
    · exact npP (h ▸ ha)
    · exact nsP (h ▸ ha)
    · exact xP a h (by simp [ha])
  refine ⟨p :: bs', p :: sh :: Pr', R1' ++ R', g _ _ outD I.hD, ⟨p, sh, bs', Pr', R1', R', rfl, rfl, rfl, hB, hs' _ _ (hR.mono m hn fun a ha o e => g a o (outP a ha) e)⟩, I.nd, ?_, hL, ?_, ?_⟩
  · intro r hr hm
    rcases List.mem_append.mp hr with hr | hr
    · rcases hR1 r hr with h | h
      · exact I.nr r (List.mem_append_left _ h) hm
      · simp only [List.mem_cons] at hm
        rcases hm with e | e | e | e | e
        · rw [e, I.hD] at h; cases h
        · rw [e, I.hL] at h; cases h
        · obtain ⟨xs, e2⟩ := hth p (by simp)
          rw [e, e2] at h; cases h
        · obtain ⟨xs, e2⟩ := hth sh (by simp)
          rw [e, e2] at h; cases h
        · obtain ⟨xs, e2⟩ := hR.there r (List.mem_append_left _ e)
          rw [e2] at h; cases h
    · exact I.nr r (List.mem_append_right _ hr) hm
  · intro a ha
    simp only [List.mem_cons, List.mem_append] at ha
    have old : a ∈ D :: L :: (p :: sh :: Pr' ++ (R1 ++ R')) → H0 a = none := I.fr a
    simp only [List.mem_cons, List.mem_append] at old
    rcases ha with h | h | (h | h | h) | h | h
    · exact old (.inl h)
    · exact old (.inr (.inl h))
    · exact old (.inr (.inr (.inl (.inl h))))
    · exact old (.inr (.inr (.inl (.inr (.inl h)))))
    · exact old (.inr (.inr (.inl (.inr (.inr h)))))
    · rcases hR1 a h with h | h
      · exact old (.inr (.inr (.inr (.inl h))))
      · exact fresh_of I.sm h
    · exact old (.inr (.inr (.inr (.inr h))))
  · intro c o e
    refine g c o (fun hm => ?_) (I.sm c o e)
    have := I.fr c (by
      simp only [List.mem_cons, List.mem_append] at hm ⊢
      rcases hm with h | h | h | h
      · simp [h]
      · simp [h]
      · simp [h]
      · have := hX c h
        simp [this])
    rw [this] at e
    cases e
theorem key_row {n : Int} (h1 : -E19 < n) (h2 : n < E19) : LB .key 30 (("key " : Str) ++ strI n) := by
  have hj : ("key " : Str) ++ strI n = Txt.join sp1 [("key" : Str), strI n] := ext_tl (by rw [tl_join2, tl_append, tl_key, List.append_assoc]; rfl)
  have g : GW (("key" : Str)) := by unfold GW; decide +kernel
  rw [hj]
  refine LB_of ?_ (gws_cons g (gws_one (gw_strI h1 h2))) ?_
  · show fin (numR [strI n]) .key = _
    exact eat_fin (eat_numR h1 h2)
  · rw [wt_cons, wt_one]
    have := strI_len h1 h2
    have e3 : ("key" : Str).length = 3 := by decide +kernel
    omega
theorem shut_ok (y : BK) : wt (shutP y) ≤ 9000 ∧ (∀ r ∈ shutP y, 10 ∉ tl r) ∧ (shutP y).length ≤ 2 := by
  cases y <;> decide +kernel
theorem run_one {k : RK} {b : Nat} {line : Str} {s s' : List BK} (h : LB k b line) (hs : stepP k s = some s') : runP [line] s = some s' := by
  simp only [runP, lineP, h.1, hs]
section
variable {P : Program} {w : World} {K : PySem.W.Frag} {mg : Str → Option Value} {base : Heap}
def sp_goon : Sp := fun vs H Q _ => ∃ (n : Nat) (H0 : Hp) (D L : Addr) (s : List BK) (ls : Ws) (c : Int) (sm : Bool), vs = [.ref D, .ref L, .int c, .bl sm] ∧ LInv n H0 H D L s ls ∧ SOk s ∧ n ≤ 890 ∧ ls.length ≤ 890 ∧
  ∀ H' s' new, runP new s = some s' → SOk s' → wt new ≤ 9000 → (∀ r ∈ new, 10 ∉ tl r) → new.length ≤ 2 → LInv (n + 4) H0 H' D L s' (ls ++ new) → Q .non H'
theorem sc__law_go_on : FnScope ["_law_blocks", "_law_lines", "_law_cell", "_law_small", "_law_block", "_law_way", "_law_key", "_law_made", "_law_line"] ["_law_blocks", "_law_lines", "_law_cell", "_law_small"] (defScope (top 55)) := ⟨rfl, rfl, rfl, by decide +kernel, rfl, by decide +kernel, by decide +kernel⟩
theorem ok__law_go_on (T : Txt K mg w) : FnOk P w K mg base CX0 9 T._law_go_on.f T._law_go_on.fd ["_law_blocks", "_law_lines", "_law_cell", "_law_small"] sp_goon := by
  refine T._law_go_on.F.ok sc__law_go_on (fun vs H Q E h => ?_) (fun cdv A outer s0 H vs Q E hr h => ?_)
  · obtain ⟨n, H0, D, L, s, ls, c, sm, rfl, _⟩ := h
    rfl
  · obtain ⟨n, H0, D, L, s, ls, c, sm, rfl, ⟨bs, Pr, R, I⟩, hso, hn9, hlsl, k⟩ := h
    refine ⟨_, (pss_cons (ps_set (i := 4) sc__law_go_on.nd rfl (Or.inl rfl) (pe_ix ix_list (pv 0) (pe_un un_neg pe_int) (fun _ _ => rfl)))
      (pss_cons (ps_set (i := 5) sc__law_go_on.nd rfl (Or.inl rfl) (pe_op op_mod (pv 2) pe_int))
      (pss_one (ps_if (PW.pt (pw_and (pt_cmpR op_eq (pe_ix ix_tup (pe_ix ix_list (pv 4) pe_int (fun _ _ => rfl)) pe_int (fun _ _ => rfl)) pe_str (nomark _)) (pw_and1 (PW.pt (pw_or (pt_cmp (pc_isN (pe_ix ix_list (pv 4) pe_int (fun _ _ => rfl))) rfl) (pw_or1 (pt_cmpR op_eq (pv 5) pe_int (nomark _)))))))) (pss_one (ps_if (PW.pt (pw_or (PW.pt (pw_and (pt_cmp (pc_notN (pe_ix ix_list (pv 4) pe_int (fun _ _ => rfl))) rfl) (pw_and1 (pt_cmpR op_gt (pe_callB call_len_seq (by rfl) T.n_len (by decide +kernel) (pa_cons (pe_ix ix_list (pv 4) pe_int (fun _ _ => rfl)) pa_nil)) pe_int (nomark _))))) (pw_or1 (PW.pt (pw_and (pt_cmp (pc_isN (pe_ix ix_list (pv 4) pe_int (fun _ _ => rfl))) rfl) (pw_and1 (pt_cmpR op_eq (pv 5) pe_int (nomark _)))))))) (pss_one (ps_expr (pe_call (ok__law_shut T) (hr.mono (by first | decide | omega)) rfl T._law_shut.g T._law_shut.F.kp T._law_shut.b .nil pass0 (pa_cons (pv 0) (pa_cons (pv 1) pa_nil))))) (pss_cons (ps_set (i := 6) sc__law_go_on.nd rfl (Or.inl rfl) (pe_call (ok__law_big T) (hr.mono (by first | decide | omega)) rfl T._law_big.g T._law_big.F.kp T._law_big.b .nil pass0 (pa_cons (pe_op op_fdiv (pv 2) pe_int) pa_nil)))
      (pss_cons (ps_asg (pe_lst pa_nil) (pg_sub (pv 4) pe_int set_list))
      (pss_cons (ps_expr (pe_bm PySem.F.plainAttrs_list PySem.F.slot_list_append PySem.F.type_list_append mt_append (pe_ix ix_list (pv 4) pe_int (fun _ _ => rfl)) (pa_cons (pe_tup (pa_cons (pv 6) (pa_cons (pe_ix ix_list (pv 4) pe_int (fun _ _ => rfl)) pa_nil))) pa_nil)))
      (pss_one (ps_expr (pe_bm PySem.F.plainAttrs_list PySem.F.slot_list_append PySem.F.type_list_append mt_append (pv 1) (pa_cons (pe_op op_add_str pe_str (pe_callTy call_str_int (by rfl) T.n_str (by decide +kernel) (pa_cons (pv 6) pa_nil))) pa_nil))))))))) (pss_one (ps_if (PW.pt (pw_and (pt_cmpR op_lt (pv 5) pe_int (nomark _)) (pw_and (pt_cmpR op_eq (pe_ix ix_tup (pe_ix ix_list (pv 4) pe_int (fun _ _ => rfl)) pe_int (fun _ _ => rfl)) pe_str (nomark _)) (pw_and1 (pt_cmpR op_eq (pe_callB call_len_seq (by rfl) T.n_len (by decide +kernel) (pa_cons (pe_ix ix_list (pv 4) pe_int (fun _ _ => rfl)) pa_nil)) pe_int (nomark _)))))) (pss_cons (ps_expr (pe_bm PySem.F.plainAttrs_list PySem.F.slot_list_append PySem.F.type_list_append mt_append (pe_ix ix_list (pv 4) pe_int (fun _ _ => rfl)) (pa_cons (pe_callTy call_tuple_of (by rfl) T.n_tuple (by decide +kernel) (pa_cons (pe_ix ix_list (pv 4) pe_int (fun _ _ => rfl)) pa_nil)) pa_nil)))
      (pss_cons (ps_asg (pe_lst pa_nil) (pg_sub (pv 4) pe_int set_list))
      (pss_one (ps_expr (pe_bm PySem.F.plainAttrs_list PySem.F.slot_list_append PySem.F.type_list_append mt_append (pv 1) (pa_cons pe_str pa_nil)))))) (pss_one (ps_if (PW.pt (pw_and (pt_cmpR op_lt (pv 5) pe_int (nomark _)) (pw_and1 (pt_cmpR op_gt (pe_callB call_len_seq (by rfl) T.n_len (by decide +kernel) (pa_cons (pv 0) pa_nil)) pe_int (nomark _))))) (pss_one (ps_expr (pe_call (ok__law_shut T) (hr.mono (by first | decide | omega)) rfl T._law_shut.g T._law_shut.F.kp T._law_shut.b .nil pass0 (pa_cons (pv 0) (pa_cons (pv 1) pa_nil))))) (pss_one (ps_if (PW.pt (pw_and (pt_cmpR op_lt (pv 5) pe_int (nomark _)) (pw_and (pt_cmpR op_lt (pe_callB call_len_seq (by rfl) T.n_len (by decide +kernel) (pa_cons (pv 0) pa_nil)) pe_int (nomark _)) (pw_and1 (pt_not (pt_val (pv 3))))))) (pss_cons (ps_expr (pe_bm PySem.F.plainAttrs_list PySem.F.slot_list_append PySem.F.type_list_append mt_append (pv 0) (pa_cons (pe_call (ok__law_opened T) (hr.mono (by first | decide | omega)) rfl T._law_opened.g T._law_opened.F.kp T._law_opened.b .nil pass0 (pa_cons (pe_op op_fdiv (pv 2) pe_int) pa_nil)) pa_nil)))
      (pss_one (ps_expr (pe_bm PySem.F.plainAttrs_list PySem.F.slot_list_append PySem.F.type_list_append mt_append (pv 1) (pa_cons (pe_ix ix_list (pe_ix ix_list (pv 0) (pe_un un_neg pe_int) (fun _ _ => rfl)) pe_int (fun _ _ => rfl)) pa_nil))))) (pss_cons (ps_asg (pe_call (ok__law_asking_by T) (hr.mono (by first | decide | omega)) rfl T._law_asking_by.g T._law_asking_by.F.kp T._law_asking_by.b .nil pass0 (pa_cons (pe_op op_fdiv (pv 2) pe_int) (pa_cons (pv 3) pa_nil))) (pg_tup rfl (pgs_cons (pg_name (i := 7) sc__law_go_on.nd rfl (Or.inl rfl)) (pgs_cons (pg_name (i := 8) sc__law_go_on.nd rfl (Or.inl rfl)) pgs_nil))))
      (pss_cons (ps_expr (pe_bm PySem.F.plainAttrs_list PySem.F.slot_list_append PySem.F.type_list_append mt_append (pe_ix ix_list (pv 4) pe_int (fun _ _ => rfl)) (pa_cons (pv 7) pa_nil)))
      (pss_one (ps_expr (pe_bm PySem.F.plainAttrs_list PySem.F.slot_list_append PySem.F.type_list_append mt_append (pv 1) (pa_cons (pv 8) pa_nil)))))))))))))))), ?_⟩
    have I0 := I
    have hlen := LRest.len I.st
    obtain ⟨p, sh, bs', Pr', R1, R', rfl, rfl, rfl, hB1, hR⟩ := I.st
    have hth := hB1.there
    obtain ⟨hd, rv, line, tl, ss, B⟩ := hB1
    have hp := B.hp
    have hnd := I.nd
    simp only [List.nodup_cons, List.mem_cons, not_or] at hnd
    obtain ⟨⟨nDL, nDp, nDs, nDP⟩, ⟨nLp, nLs, nLP⟩, ⟨nps, npP⟩, nsP, ndP⟩ := hnd
    refine ⟨_, rfl, _, rfl, D, _, _, _, rfl, rfl, SqL.of I.hD, at_last, ?_⟩
    refine ⟨_, rfl, _, _, rfl, rfl, by walk_at "p", ?_⟩
    obtain ⟨way, hway⟩ : ∃ way : Int, way = c % 12 := ⟨_, rfl⟩
    show gName 5 (.int (c % 12)) [some (.ref D), some (.ref L), some (.int c), some (.bl sm), some (.ref p), none, none, none, none] H _
    rw [← hway]
    have tHead : ∀ ct : Str, Tells (tTest (tOp rEq (tOp (rIxT K) (tOp (rIxL K) (tVar 4) (tC (.int 0))) (tC (.int 0))) (tC (.str ct)))) [some (.ref D), some (.ref L), some (.int c), some (.bl sm), some (.ref p), some (.int way), none, none, none] H (decide (hn s.head? = ct)) := fun ct Q q => by
      have hF : ∀ R : VK, R (.ref hd) H → tOp (rIxL K) (tVar 4) (tC (.int 0)) [some (.ref D), some (.ref L), some (.int c), some (.bl sm), some (.ref p), some (.int way), none, none, none] H R := fun R q => ⟨_, rfl, p, _, 0, .ref hd, rfl, rfl, SqL.of hp, at_of (j := 0) rfl rfl, q⟩
      by_cases e : hn s.head? = ct
      · rw [decide_eq_true e] at q
        exact q_eq hF B.hh e q
      · rw [decide_eq_false e] at q
        exact q_ne hF B.hh e q
    have tN : Tells (tB (tIsN (tOp (rIxL K) (tVar 4) (tC (.int 2))))) [some (.ref D), some (.ref L), some (.int c), some (.bl sm), some (.ref p), some (.int way), none, none, none] H (decide (rv = .non)) := fun Q q => ⟨_, rfl, p, _, 2, rv, rfl, rfl, SqL.of hp, at_of (j := 2) rfl rfl, _, rfl, q⟩
    have tNN : Tells (tB (tNotN (tOp (rIxL K) (tVar 4) (tC (.int 2))))) [some (.ref D), some (.ref L), some (.int c), some (.bl sm), some (.ref p), some (.int way), none, none, none] H (!decide (rv = .non)) := fun Q q => ⟨_, rfl, p, _, 2, rv, rfl, rfl, SqL.of hp, at_of (j := 2) rfl rfl, _, rfl, q⟩
    -- the two things that are done more than once
    have doShut : ∀ (y : BK) (s1 : List BK), s = y :: s1 → tDrop (tCall sp_shut [] E0 (tCons (tVar 0) (tCons (tVar 1) tNil))) { nx := fun _ H => Q .non H, rt := Q, bk := fun _ _ => False, ct := fun _ _ => False } [some (.ref D), some (.ref L), some (.int c), some (.bl sm), some (.ref p), some (.int way), none, none, none] H := fun y s1 e => by
      refine ⟨_, rfl, _, rfl, n, H0, D, L, y, s1, ls, rfl, by rw [← e]; exact ⟨_, _, _, I0⟩, by rw [← e]; exact hso, by omega, by omega, fun H' I' => ?_⟩
      obtain ⟨w1, w2, w3⟩ := shut_ok y
      have hrun := run_shut y s1
      refine k H' s1 (shutP y) (by rw [e]; exact hrun) ?_ w1 w2 w3 I'
      exact step_len_runP (by rw [← e] at hrun; exact hrun) hso
    have hLs := I.hL
    have hss := B.hs
    have hsl := B.sl
    have tLen8 : Tells (tTest (tOp (rI0 fun i j => .bl (decide (j < i))) (tCB (fun xs H Q => ∃ p ys, xs = [V.ref p] ∧ (SqL K H p ys ∨ SqT K H p ys) ∧ Q (V.int ys.length) H) (tCons (tOp (rIxL K) (tVar 4) (tC (.int 1))) tNil)) (tC (.int 8)))) [some (.ref D), some (.ref L), some (.int c), some (.bl sm), some (.ref p), some (.int way), none, none, none] H (decide ((8 : Int) < ss.length)) := fun Q q => ⟨_, rfl, p, _, 1, .ref sh, rfl, rfl, SqL.of hp, at_of (j := 1) rfl rfl, sh, _, rfl, .inl (SqL.of hss), _, _, rfl, rfl, _, rfl, q⟩
    have tLen0 : Tells (tTest (tOp rEq (tCB (fun xs H Q => ∃ p ys, xs = [V.ref p] ∧ (SqL K H p ys ∨ SqT K H p ys) ∧ Q (V.int ys.length) H) (tCons (tOp (rIxL K) (tVar 4) (tC (.int 1))) tNil)) (tC (.int 0)))) [some (.ref D), some (.ref L), some (.int c), some (.bl sm), some (.ref p), some (.int way), none, none, none] H (decide (((ss.length : Nat) : Int) = 0)) := fun Q q => by
      refine ⟨_, rfl, p, _, 1, .ref sh, rfl, rfl, SqL.of hp, at_of (j := 1) rfl rfl, sh, _, rfl, .inl (SqL.of hss), rfl, _, rfl, ?_⟩
      by_cases e : ((ss.length : Nat) : Int) = 0
      · rw [di_eq e]
        rw [decide_eq_true e] at q
        exact q
      · rw [di_ne e]
        rw [decide_eq_false e] at q
        exact q
    have tBs1 : Tells (tTest (tOp (rI0 fun i j => .bl (decide (j < i))) (tCB (fun xs H Q => ∃ p ys, xs = [V.ref p] ∧ (SqL K H p ys ∨ SqT K H p ys) ∧ Q (V.int ys.length) H) (tCons (tVar 0) tNil)) (tC (.int 1)))) [some (.ref D), some (.ref L), some (.int c), some (.bl sm), some (.ref p), some (.int way), none, none, none] H (decide ((1 : Int) < (((p :: bs').reverse.map V.ref).length : Nat))) := fun Q q => ⟨_, rfl, D, _, rfl, .inl (SqL.of I0.hD), _, _, rfl, rfl, _, rfl, q⟩
    have tBs7 : Tells (tTest (tOp (rI0 fun i j => .bl (decide (i < j))) (tCB (fun xs H Q => ∃ p ys, xs = [V.ref p] ∧ (SqL K H p ys ∨ SqT K H p ys) ∧ Q (V.int ys.length) H) (tCons (tVar 0) tNil)) (tC (.int 7)))) [some (.ref D), some (.ref L), some (.int c), some (.bl sm), some (.ref p), some (.int way), none, none, none] H (decide (((((p :: bs').reverse.map V.ref).length : Nat) : Int) < 7)) := fun Q q => ⟨_, rfl, D, _, rfl, .inl (SqL.of I0.hD), _, _, rfl, rfl, _, rfl, q⟩
    have tSm : Tells (tB (tVar 3)) [some (.ref D), some (.ref L), some (.int c), some (.bl sm), some (.ref p), some (.int way), none, none, none] H sm := fun Q q => ⟨_, rfl, _, rfl, q⟩
    have blen : ((p :: bs').reverse.map V.ref).length = s.length + 1 := by rw [List.length_map, List.length_reverse, hlen]; rfl
    -- test 1
    refine ((tHead "parts").and (tN.or (tells_eq (i := 5) (a := way) (b := 0) (σ := [some (.ref D), some (.ref L), some (.int c), some (.bl sm), some (.ref p), some (.int way), none, none, none]) rfl))) _ ?_
    cases hb1 : (decide (hn s.head? = "parts") && (decide (rv = .non) || decide (way = 0))) with
    | true =>
      refine iteT ?_
      rw [Bool.and_eq_true, decide_eq_true_eq] at hb1
      have hkd : ∃ y s1, s = y :: s1 ∧ (y = .parts ∨ y = .key) := by
        cases s with
        | nil => exact absurd hb1.1 (show ("all" : Str) ≠ "parts" by decide +kernel)
        | cons y s1 =>
          refine ⟨y, s1, rfl, ?_⟩
          cases y with
          | parts => exact .inl rfl
          | key => exact .inr rfl
          | iff => exact absurd hb1.1 (show ("if" : Str) ≠ "parts" by decide +kernel)
          | els => exact absurd hb1.1 (show ("if" : Str) ≠ "parts" by decide +kernel)
          | draw => exact absurd hb1.1 (show ("draw" : Str) ≠ "parts" by decide +kernel)
          | on => exact absurd hb1.1 (show ("on" : Str) ≠ "parts" by decide +kernel)
      obtain ⟨y, s1, rfl, hy⟩ := hkd
      refine ((tNN.and tLen8).or (tN.and (tells_eq (i := 5) (a := way) (b := 1) (σ := [some (.ref D), some (.ref L), some (.int c), some (.bl sm), some (.ref p), some (.int way), none, none, none]) rfl))) _ ?_
      cases hb2 : ((!decide (rv = .non) && decide ((8 : Int) < ss.length)) || (decide (rv = .non) && decide (way = 1))) with
      | true => exact iteT (doShut y s1 rfl)
      | false =>
        refine iteF ⟨_, rfl, _, _, rfl, rfl, ⟨by decide, by decide⟩, _, rfl, fun key H1 c1 c2 S1 => ?_⟩
        have hp1 := S1 _ _ hp
        refine ⟨Nat.zero_le _, fun q hq => ⟨_, rfl, p, _, 2, 2, rfl, rfl, Same.laid hq _ _ hp1, rfl, ?_⟩⟩
        obtain ⟨H2, e2⟩ : ∃ H2, H2 = upd (upd H1 q (.lst [])) p (.lst ([V.ref hd, .ref sh, rv, .str line].set 2 (.ref q))) := ⟨_, rfl⟩
        rw [← e2]
        have g2 : ∀ c o, c ≠ p → H1 c = some o → H2 c = some o := fun c o nc e => by rw [e2, upd_ne nc]; exact Same.laid hq _ _ e
        have hp2 : H2 p = some (.lst [.ref hd, .ref sh, .ref q, .str line]) := by rw [e2]; exact upd_same
        have hs2 := g2 _ _ (Ne.symm nps) (S1 _ _ hss)
        have nqp : q ≠ p := (ne_of_none hp1 hq).symm
        have nqs : q ≠ sh := (ne_of_none (S1 _ _ hss) hq).symm
        have nqL : q ≠ L := (ne_of_none (S1 _ _ hLs) hq).symm
        have hq2 : H2 q = some (.lst []) := by rw [e2, upd_ne nqp]; exact upd_same
        have m2 : LMono n (n + 1) H H2 := by
          rw [e2]
          exact ((LMono.of_same (n' := n) (Nat.le_refl _) S1).trans (LMono.of_same (Nat.le_refl _) (Same.laid hq))).trans (LMono.upd (Same.laid hq _ _ hp1) (by omega) fun h => by simp at h ⊢; omega)
        refine ⟨_, rfl, p, _, 1, .ref sh, rfl, rfl, SqL.of hp2, at_of (j := 1) rfl rfl, .inl ⟨rfl, _, SqL.of hs2⟩, _, rfl, _, rfl, p, _, 2, .ref q, rfl, rfl, SqL.of hp2, at_of (j := 2) rfl rfl, sz2, fun t ht => ⟨sh, ss, .ref t, rfl, rfl, Same.laid ht _ _ hs2, small1000 (by omega), ?_⟩⟩
        obtain ⟨H3, e3⟩ : ∃ H3, H3 = upd (upd H2 t (.tup [.int key, .ref q])) sh (.lst (ss ++ [.ref t])) := ⟨_, rfl⟩
        rw [← e3]
        have g3 : ∀ c o, c ≠ sh → H2 c = some o → H3 c = some o := fun c o nc e => by rw [e3, upd_ne nc]; exact Same.laid ht _ _ e
        have m3 : LMono (n + 1) (n + 2) H2 H3 := by
          rw [e3]
          exact (LMono.of_same (n' := n + 1) (Nat.le_refl _) (Same.laid ht)).trans (LMono.upd (Same.laid ht _ _ hs2) (by omega) fun h => by rw [List.length_append]; simp only [List.length_cons, List.length_nil]; omega)
        have hs3 : H3 sh = some (.lst (ss ++ [.ref t])) := by rw [e3]; exact upd_same
        have nts : t ≠ sh := (ne_of_none hs2 ht).symm
        have ht3 : H3 t = some (.tup [.int key, .ref q]) := by rw [e3, upd_ne nts]; exact upd_same
        have hL3 := g3 _ _ nLs (g2 _ _ nLp (S1 _ _ hLs))
        have hkl := key_row c1 c2
        have e4 : ("key " : Str).length = 4 := by decide +kernel
        have h20 := strI_len c1 c2
        refine ⟨_, rfl, .inl ⟨rfl, _, SqL.of hL3⟩, _, rfl, key, rfl, E19_lg c1 c2, _, _, rfl, rfl, sz1000 (by rw [e4]; show 4 + (strI key).length ≤ 1000; omega), L, _, _, rfl, rfl, hL3, by rw [List.length_map]; exact small1000 (by omega), ?_⟩
        obtain ⟨H4, e4'⟩ : ∃ H4, H4 = upd H3 L (.lst (ls.map V.str ++ [.str (("key " : Str) ++ strI key)])) := ⟨_, rfl⟩
        have m4 : LMono (n + 2) (n + 4) H3 H4 := by
          rw [e4']
          exact LMono.upd hL3 (by omega) fun h => by rw [List.length_append]; simp only [List.length_cons, List.length_nil]; omega
        have mAll := m2.trans (m3.trans m4)
        have g4 : ∀ c o, c ∉ L :: p :: sh :: [] → H c = some o → H4 c = some o := fun c o hc e => by
          simp only [List.mem_cons, List.not_mem_nil, or_false, not_or] at hc
          rw [e4', upd_ne hc.1]
          exact g3 _ _ hc.2.2 (g2 _ _ hc.2.1 (S1 _ _ e))
        have hstep : stepP .key (y :: s1) = some (.key :: s1) := by rcases hy with rfl | rfl <;> rfl
        show Q .non (upd H3 L (.lst (ls.map V.str ++ [.str (("key " : Str) ++ strI key)])))
        rw [← e4']
        refine k H4 (.key :: s1) [("key " : Str) ++ strI key] (run_one hkl hstep) (stepP_ok hstep hso) (by rw [wt_one]; have := hkl.2.2; omega) (fun r hr => by cases List.mem_singleton.mp hr; exact hkl.2.1) (by simp) ?_
        have hp4 : H4 p = some (.lst [.ref hd, .ref sh, .ref q, .str line]) := by rw [e4', upd_ne (Ne.symm nLp)]; exact g3 _ _ nps hp2
        have hs4 : H4 sh = some (.lst (ss ++ [.ref t])) := by rw [e4', upd_ne (Ne.symm nLs)]; exact hs3
        have ntL : t ≠ L := (ne_of_none (g2 _ _ nLp (S1 _ _ hLs)) ht).symm
        have ht4 : H4 t = some (.tup [.int key, .ref q]) := by rw [e4', upd_ne ntL]; exact ht3
        have hq4 : LstOk (n + 4) H4 q := ⟨[], by rw [e4', upd_ne nqL]; exact g3 _ _ nqs hq2, by simp⟩
        have hold : ∀ v ∈ ss, ∃ t z r, v = .ref t ∧ H4 t = some (.tup [.int z, .ref r]) ∧ LstOk (n + 4) H4 r := by
          have := B.sp.mono mAll
          rcases hy with rfl | rfl <;> exact this
        refine li_put I0 hR hth (fun _ _ h => h) mAll (by omega) g4 (fun x hx => nomatch hx) ⟨hd, .ref q, line, tl, ss ++ [.ref t], hp4, ?_, B.ht, hs4, by rw [List.length_append]; simp only [List.length_cons, List.length_nil]; omega, fun z => (by cases z), fun _ => ⟨q, rfl, rfl, hq4⟩, ?_⟩ (R1' := [q]) (fun r hr => ?_) ?_
        · have := mAll.1 _ _ B.hh
          rcases hy with rfl | rfl <;> exact this
        · intro v hv
          rcases List.mem_append.mp hv with h | h
          · exact hold v h
          · cases List.mem_singleton.mp h
            exact ⟨t, key, q, rfl, ht4, hq4⟩
        · cases List.mem_singleton.mp hr
          exact .inr (fresh_of S1 hq)
        · rw [e4', upd_same, List.map_append]
          rfl
    | false =>
      have hnp : s.head? ≠ some .parts := fun z => by
        have h1 := (B.no z).1
        have h2 : hn s.head? = "parts" := by rw [z]; rfl
        rw [decide_eq_true h1, decide_eq_true h2] at hb1
        cases hb1
      obtain ⟨rw, erv, eR1, hrw⟩ := B.rw hnp
      obtain ⟨xs, hrw, hxl⟩ := hrw
      have rout := I0.nr rw (by rw [eR1]; simp)
      simp only [List.mem_cons, not_or] at rout
      obtain ⟨rD, rL, rp, rs, rP⟩ := rout
      refine iteF ?_
      refine ((tells_lt (i := 5) (a := way) (b := 3) (σ := [some (.ref D), some (.ref L), some (.int c), some (.bl sm), some (.ref p), some (.int way), none, none, none]) rfl).and ((tHead "if").and tLen0)) _ ?_
      cases hb3 : (decide (way < 3) && (decide (hn s.head? = "if") && decide (((ss.length : Nat) : Int) = 0))) with
      | true =>
        rw [Bool.and_eq_true, Bool.and_eq_true, decide_eq_true_eq, decide_eq_true_eq, decide_eq_true_eq] at hb3
        obtain ⟨_, hif, hl0⟩ := hb3
        have hss0 : ss = [] := List.length_eq_zero_iff.mp (by omega)
        subst hss0
        have hy : ∃ s1, s = .iff :: s1 := by
          cases s with
          | nil => exact absurd hif (show ("all" : Str) ≠ "if" by decide +kernel)
          | cons y s1 =>
            cases y with
            | iff => exact ⟨s1, rfl⟩
            | els =>
              have : ([] : List V).length = 1 := B.sp
              cases this
            | parts => exact absurd hif (show ("parts" : Str) ≠ "if" by decide +kernel)
            | key => exact absurd hif (show ("parts" : Str) ≠ "if" by decide +kernel)
            | draw => exact absurd hif (show ("draw" : Str) ≠ "if" by decide +kernel)
            | on => exact absurd hif (show ("on" : Str) ≠ "if" by decide +kernel)
        obtain ⟨s1, rfl⟩ := hy
        refine iteT ⟨_, rfl, p, _, 1, .ref sh, rfl, rfl, SqL.of hp, at_of (j := 1) rfl rfl, .inl ⟨rfl, _, SqL.of hss⟩, _, rfl, p, _, 2, rv, rfl, rfl, SqL.of hp, at_of (j := 2) rfl rfl, rw, xs, by rw [erv], .inl ⟨SqL.of hrw, fun t ht => ⟨sh, [], .ref t, rfl, rfl, Same.laid ht _ _ hss, by decide, ?_⟩⟩⟩
        obtain ⟨H1, e1⟩ : ∃ H1, H1 = upd (upd H t (.tup xs)) sh (.lst ([] ++ [.ref t])) := ⟨_, rfl⟩
        rw [← e1]
        have g1 : ∀ c o, c ≠ sh → H c = some o → H1 c = some o := fun c o nc e => by rw [e1, upd_ne nc]; exact Same.laid ht _ _ e
        have m1 : LMono n (n + 1) H H1 := by
          rw [e1]
          exact (LMono.of_same (n' := n) (Nat.le_refl _) (Same.laid ht)).trans (LMono.upd (Same.laid ht _ _ hss) (by omega) fun _ => by simp)
        have hp1 := g1 _ _ nps hp
        have hs1 : H1 sh = some (.lst [.ref t]) := by rw [e1]; exact upd_same
        refine ⟨Nat.zero_le _, fun q hq => ⟨_, rfl, p, _, 2, 2, rfl, rfl, Same.laid hq _ _ hp1, rfl, ?_⟩⟩
        obtain ⟨H2, e2⟩ : ∃ H2, H2 = upd (upd H1 q (.lst [])) p (.lst ([V.ref hd, .ref sh, rv, .str line].set 2 (.ref q))) := ⟨_, rfl⟩
        rw [← e2]
        have g2 : ∀ c o, c ≠ p → H1 c = some o → H2 c = some o := fun c o nc e => by rw [e2, upd_ne nc]; exact Same.laid hq _ _ e
        have hp2 : H2 p = some (.lst [.ref hd, .ref sh, .ref q, .str line]) := by rw [e2]; exact upd_same
        have nqp : q ≠ p := (ne_of_none hp1 hq).symm
        have hL1 := g1 _ _ nLs hLs
        have nqL : q ≠ L := (ne_of_none hL1 hq).symm
        have hq2 : H2 q = some (.lst []) := by rw [e2, upd_ne nqp]; exact upd_same
        have m2 : LMono (n + 1) (n + 2) H1 H2 := by
          rw [e2]
          exact (LMono.of_same (n' := n + 1) (Nat.le_refl _) (Same.laid hq)).trans (LMono.upd (Same.laid hq _ _ hp1) (by omega) fun h => by simp at h ⊢; omega)
        have hL2 := g2 _ _ nLp hL1
        refine ⟨_, rfl, .inl ⟨rfl, _, SqL.of hL2⟩, L, _, _, rfl, rfl, hL2, by rw [List.length_map]; exact small1000 (by omega), ?_⟩
        obtain ⟨H4, e4'⟩ : ∃ H4, H4 = upd H2 L (.lst (ls.map V.str ++ [.str wElse])) := ⟨_, rfl⟩
        have m4 : LMono (n + 2) (n + 4) H2 H4 := by
          rw [e4']
          exact LMono.upd hL2 (by omega) fun h => by rw [List.length_append]; simp only [List.length_cons, List.length_nil]; omega
        have mAll := m1.trans (m2.trans m4)
        have g4 : ∀ c o, c ∉ L :: p :: sh :: [] → H c = some o → H4 c = some o := fun c o hc e => by
          simp only [List.mem_cons, List.not_mem_nil, or_false, not_or] at hc
          rw [e4', upd_ne hc.1]
          exact g2 _ _ hc.2.1 (g1 _ _ hc.2.2 e)
        have hstep : stepP .els (.iff :: s1) = some (.els :: s1) := rfl
        have hel : LB .els 5 wElse := ⟨row_else, by decide +kernel, by decide +kernel⟩
        show Q .non (upd H2 L (.lst (ls.map V.str ++ [.str wElse])))
        rw [← e4']
        refine k H4 (.els :: s1) [wElse] (run_one hel hstep) (stepP_ok hstep hso) (by rw [wt_one]; have := hel.2.2; omega) (fun r hr => by cases List.mem_singleton.mp hr; exact hel.2.1) (by decide) ?_
        have hp4 : H4 p = some (.lst [.ref hd, .ref sh, .ref q, .str line]) := by rw [e4', upd_ne (Ne.symm nLp)]; exact hp2
        have hs4 : H4 sh = some (.lst [.ref t]) := by rw [e4', upd_ne (Ne.symm nLs)]; exact g2 _ _ (Ne.symm nps) hs1
        have hq4 : LstOk (n + 4) H4 q := ⟨[], by rw [e4', upd_ne nqL]; exact hq2, by simp⟩
        refine li_put I0 hR hth (fun _ _ h => h) mAll (by omega) g4 (fun x hx => nomatch hx) ⟨hd, .ref q, line, tl, [.ref t], hp4, mAll.1 _ _ B.hh, B.ht, hs4, by simp, fun z => (by cases z), fun _ => ⟨q, rfl, rfl, hq4⟩, rfl⟩ (R1' := [q]) (fun r hr => ?_) ?_
        · cases List.mem_singleton.mp hr
          refine .inr (fresh_back (s := sh) (o := .lst [.ref t]) (H1 := H1) ?_ hs1 hq)
          exact fun c o nc e => g1 c o nc e
        · rw [e4', upd_same, List.map_append]
          rfl
      | false =>
        refine iteF ?_
        refine ((tells_lt (i := 5) (a := way) (b := 5) (σ := [some (.ref D), some (.ref L), some (.int c), some (.bl sm), some (.ref p), some (.int way), none, none, none]) rfl).and tBs1) _ ?_
        cases hb4 : (decide (way < 5) && decide ((1 : Int) < (((p :: bs').reverse.map V.ref).length : Nat))) with
        | true =>
          rw [Bool.and_eq_true, decide_eq_true_eq, decide_eq_true_eq, blen] at hb4
          obtain ⟨y, s1, e⟩ : ∃ y s1, s = y :: s1 := by
            cases s with
            | nil => simp at hb4
            | cons y s1 => exact ⟨y, s1, rfl⟩
          exact iteT (doShut y s1 e)
        | false =>
          refine iteF ?_
          refine ((tells_lt (i := 5) (a := way) (b := 8) (σ := [some (.ref D), some (.ref L), some (.int c), some (.bl sm), some (.ref p), some (.int way), none, none, none]) rfl).and (tBs7.and tSm.not)) _ ?_
          cases hb5 : (decide (way < 8) && (decide (((((p :: bs').reverse.map V.ref).length : Nat) : Int) < 7) && !sm)) with
          | true =>
            rw [Bool.and_eq_true, Bool.and_eq_true, decide_eq_true_eq, decide_eq_true_eq, blen] at hb5
            have hstep0 := fun b => step_opn (b := b) hnp
            have hs7 : ¬ s.length + 1 > 6 := by omega
            refine iteT ⟨_, rfl, .inl ⟨rfl, _, SqL.of I0.hD⟩, _, rfl, _, _, rfl, rfl, ⟨by decide, by decide⟩, ⟨_, rfl⟩, fun H1 pn hdn shn rvn lnn b tln hpn hshn nps2 e1 e2 e3 e4 b1 b2 r1 r2 hl S1 => ⟨D, _, _, rfl, rfl, S1 _ _ I0.hD, by rw [blen]; exact small1000 (by omega), ?_⟩⟩
            have exs : ((pn :: p :: bs').reverse.map V.ref) = (p :: bs').reverse.map V.ref ++ [.ref pn] := by
              rw [List.reverse_cons, List.map_append]
              rfl
            rw [← exs]
            obtain ⟨H2, e2'⟩ : ∃ H2, H2 = upd H1 D (.lst ((pn :: p :: bs').reverse.map V.ref)) := ⟨_, rfl⟩
            rw [← e2']
            have nDpn : D ≠ pn := ne_of_none I0.hD hpn
            have nDsn : D ≠ shn := ne_of_none I0.hD hshn
            have nLpn : L ≠ pn := ne_of_none hLs hpn
            have nLsn : L ≠ shn := ne_of_none hLs hshn
            have g2 : ∀ c o, c ≠ D → H1 c = some o → H2 c = some o := fun c o nc e => by rw [e2', upd_ne nc]; exact e
            have hD2 : H2 D = some (.lst ((pn :: p :: bs').reverse.map V.ref)) := by rw [e2']; exact upd_same
            have hpn2 := g2 _ _ nDpn.symm e1
            have hL2 := g2 _ _ (Ne.symm nDL) (S1 _ _ hLs)
            have m2 : LMono n (n + 2) H H2 := by
              rw [e2']
              refine (LMono.of_same (n' := n) (Nat.le_refl _) S1).trans (LMono.upd (S1 _ _ I0.hD) (by omega) fun h => ?_)
              rw [exs, List.length_append]
              simp only [List.length_cons, List.length_nil]
              omega
            refine ⟨_, rfl, .inl ⟨rfl, _, SqL.of hL2⟩, _, rfl, _, rfl, D, _, _, _, rfl, rfl, SqL.of hD2, at_last, pn, _, 3, .str lnn, rfl, rfl, SqL.of hpn2, at_of (j := 3) rfl rfl, L, _, _, rfl, rfl, hL2, by rw [List.length_map]; exact small1000 (by omega), ?_⟩
            obtain ⟨H4, e4'⟩ : ∃ H4, H4 = upd H2 L (.lst (ls.map V.str ++ [.str lnn])) := ⟨_, rfl⟩
            have m4 : LMono (n + 2) (n + 4) H2 H4 := by
              rw [e4']
              exact LMono.upd hL2 (by omega) fun h => by rw [List.length_append]; simp only [List.length_cons, List.length_nil]; omega
            have mAll := m2.trans m4
            have g4 : ∀ c o, c ≠ D → c ≠ L → H1 c = some o → H4 c = some o := fun c o n1 n2 e => by
              rw [e4', upd_ne n2]
              exact g2 _ _ n1 e
            have hstep : stepP (.opn b) s = some (b :: s) := (hstep0 b).trans (if_neg hs7)
            show Q .non (upd H2 L (.lst (ls.map V.str ++ [.str lnn])))
            rw [← e4']
            refine k H4 (b :: s) [lnn] (run_one hl hstep) (stepP_ok hstep hso) (by rw [wt_one]; have := hl.2.2; omega) (fun r hr => by cases List.mem_singleton.mp hr; exact hl.2.1) (by simp) ?_
            have old : ∀ a ∈ D :: L :: (p :: sh :: Pr' ++ (R1 ++ R')), ∃ o, H a = some o := fun a ha => by
              rcases List.mem_cons.mp ha with rfl | ha
              · exact ⟨_, I0.hD⟩
              rcases List.mem_cons.mp ha with rfl | ha
              · exact ⟨_, hLs⟩
              · obtain ⟨xs, e⟩ := I0.st.there a ha
                exact ⟨_, e⟩
            have isNew : ∀ x, H x = none → x ∉ D :: L :: (p :: sh :: Pr' ++ (R1 ++ R')) := fun x hx hm => by
              obtain ⟨o, e⟩ := old x hm
              rw [hx] at e
              cases e
            have npn := isNew _ hpn
            have nsn := isNew _ hshn
            simp only [List.mem_cons, List.mem_append, not_or] at npn nsn
            obtain ⟨R0, hR0⟩ : ∃ R0 : List Addr, (b = .parts → rvn = .non ∧ R0 = []) ∧ (b ≠ .parts → ∃ rw, rvn = .ref rw ∧ R0 = [rw] ∧ LstOk (n + 4) H4 rw) ∧ (∀ r ∈ R0, H r = none ∧ r ≠ pn ∧ r ≠ shn) := by
              by_cases hb : b = .parts
              · exact ⟨[], fun _ => ⟨r1 hb, rfl⟩, fun z => absurd hb z, fun r hr => nomatch hr⟩
              · obtain ⟨rwn, er, hrn, hrn0, hrs, hrp⟩ := r2 hb
                refine ⟨[rwn], fun z => absurd z hb, fun _ => ⟨rwn, er, rfl, [], g4 _ _ (ne_of_none I0.hD hrn0).symm (ne_of_none hLs hrn0).symm hrn, by simp⟩, fun r hr => ?_⟩
                cases List.mem_singleton.mp hr
                exact ⟨hrn0, hrp, hrs⟩
            obtain ⟨hR01, hR02, hR03⟩ := hR0
            refine ⟨pn :: p :: bs', pn :: shn :: p :: sh :: Pr', R0 ++ (R1 ++ R'), ?_, ⟨pn, shn, p :: bs', p :: sh :: Pr', R0, R1 ++ R', rfl, rfl, rfl, ⟨hdn, rvn, lnn, tln, [], g4 _ _ nDpn.symm nLpn.symm e1, (m4.1.trans (Tups.refl _)) _ _ (g2 _ _ (fun z => by rw [z, S1 _ _ I0.hD] at e2; cases e2) e2), e3, g4 _ _ nDsn.symm nLsn.symm e4, by simp, fun z => hR01 (by cases z; rfl), fun z => hR02 (fun e => z (by rw [e]; rfl)), ?_⟩, ?_⟩, ?_, ?_, ?_, ?_, ?_⟩
            · rw [e4', upd_ne nDL]
              exact hD2
            · cases b with
              | els => exact absurd rfl b1
              | key => exact absurd rfl b2
              | iff => rfl
              | parts => exact fun v hv => nomatch hv
              | draw => trivial
              | on => trivial
            · refine LRest.mono mAll (by omega) (fun a ha o e => ?_) (show LRest n H (b :: s) (p :: bs') (p :: sh :: Pr') (R1 ++ R') from I0.st)
              refine g4 a o ?_ ?_ (S1 _ _ e)
              · rintro rfl
                simp only [List.mem_cons] at ha
                rcases ha with h | h | h
                · exact nDp h
                · exact nDs h
                · exact nDP h
              · rintro rfl
                simp only [List.mem_cons] at ha
                rcases ha with h | h | h
                · exact nLp h
                · exact nLs h
                · exact nLP h
            · simp only [List.nodup_cons, List.mem_cons, not_or]
              exact ⟨⟨nDL, nDpn, nDsn, nDp, nDs, nDP⟩, ⟨nLpn, nLsn, nLp, nLs, nLP⟩, ⟨nps2, npn.2.2.1.1, npn.2.2.1.2.1, npn.2.2.1.2.2⟩, ⟨nsn.2.2.1.1, nsn.2.2.1.2.1, nsn.2.2.1.2.2⟩, ⟨nps, npP⟩, nsP, ndP⟩
            · intro r hr hm
              simp only [List.mem_cons] at hm
              rcases List.mem_append.mp hr with hr | hr
              · obtain ⟨h1, h2, h3⟩ := hR03 r hr
                have := isNew r h1
                simp only [List.mem_cons, List.mem_append, not_or] at this
                rcases hm with h | h | h | h | h | h | h
                · exact this.1 h
                · exact this.2.1 h
                · exact h2 h
                · exact h3 h
                · exact this.2.2.1.1 h
                · exact this.2.2.1.2.1 h
                · exact this.2.2.1.2.2 h
              · have h1 := I0.nr r hr
                simp only [List.mem_cons, not_or] at h1
                obtain ⟨o, ho⟩ := old r (by simp only [List.mem_cons, List.mem_append] at hr ⊢; exact .inr (.inr (.inr hr)))
                rcases hm with h | h | h | h | h | h | h
                · exact h1.1 h
                · exact h1.2.1 h
                · rw [h, hpn] at ho; cases ho
                · rw [h, hshn] at ho; cases ho
                · exact h1.2.2.1 h
                · exact h1.2.2.2.1 h
                · exact h1.2.2.2.2 h
            · rw [e4', upd_same, List.map_append]
              rfl
            · intro a ha
              have old2 := I0.fr a
              simp only [List.mem_cons, List.mem_append] at ha old2
              rcases ha with h | h | (h | h | h | h | h) | h | h
              · exact old2 (.inl h)
              · exact old2 (.inr (.inl h))
              · rw [h]; exact fresh_of I0.sm hpn
              · rw [h]; exact fresh_of I0.sm hshn
              · exact old2 (.inr (.inr (.inl (.inl h))))
              · exact old2 (.inr (.inr (.inl (.inr (.inl h)))))
              · exact old2 (.inr (.inr (.inl (.inr (.inr h)))))
              · exact fresh_of I0.sm (hR03 a h).1
              · exact old2 (.inr (.inr (.inr h)))
            · intro c o e
              refine g4 c o ?_ ?_ (S1 _ _ (I0.sm c o e))
              · rintro rfl
                rw [I0.fr c (by simp)] at e
                cases e
              · rintro rfl
                rw [I0.fr c (by simp)] at e
                cases e
          | false =>
            refine iteF ⟨_, rfl, _, _, rfl, rfl, ⟨by decide, by decide⟩, _, rfl, ⟨_, _, rfl⟩, fun H1 pt v ln hpt hln S1 => ⟨pt, _, rfl, SqT.of hpt, rfl, _, _, rfl, _, _, rfl, rfl, ?_⟩⟩
            have hp1 := S1 _ _ hp
            have hrw1 := S1 _ _ hrw
            refine ⟨_, rfl, p, _, 2, rv, rfl, rfl, SqL.of hp1, at_of (j := 2) rfl rfl, ?_⟩
            rw [erv]
            refine ⟨.inl ⟨rfl, _, SqL.of hrw1⟩, _, rfl, rw, xs, _, rfl, rfl, hrw1, small1000 (by omega), ?_⟩
            obtain ⟨H2, e2⟩ : ∃ H2, H2 = upd H1 rw (.lst (xs ++ [v])) := ⟨_, rfl⟩
            rw [← e2]
            have g2 : ∀ c o, c ≠ rw → H c = some o → H2 c = some o := fun c o nc e => by rw [e2, upd_ne nc]; exact S1 _ _ e
            have m2 : LMono n (n + 1) H H2 := by
              rw [e2]
              exact (LMono.of_same (n' := n) (Nat.le_refl _) S1).trans (LMono.upd hrw1 (by omega) fun h => by rw [List.length_append]; simp only [List.length_cons, List.length_nil]; omega)
            have hL2 := g2 _ _ (Ne.symm rL) hLs
            refine ⟨_, rfl, .inl ⟨rfl, _, SqL.of hL2⟩, _, rfl, L, _, _, rfl, rfl, hL2, by rw [List.length_map]; exact small1000 (by omega), ?_⟩
            obtain ⟨H4, e4'⟩ : ∃ H4, H4 = upd H2 L (.lst (ls.map V.str ++ [.str ln])) := ⟨_, rfl⟩
            have m4 : LMono (n + 1) (n + 4) H2 H4 := by
              rw [e4']
              exact LMono.upd hL2 (by omega) fun h => by rw [List.length_append]; simp only [List.length_cons, List.length_nil]; omega
            have mAll := m2.trans m4
            have g4 : ∀ c o, c ∉ L :: p :: sh :: [rw] → H c = some o → H4 c = some o := fun c o hc e => by
              simp only [List.mem_cons, List.not_mem_nil, or_false, not_or] at hc
              rw [e4', upd_ne hc.1]
              exact g2 _ _ hc.2.2.2 e
            have g5 : ∀ c o, c ≠ L → c ≠ rw → H c = some o → H4 c = some o := fun c o n1 n2 e => by
              rw [e4', upd_ne n1]
              exact g2 _ _ n2 e
            have hstep := step_ask hnp
            show Q .non (upd H2 L (.lst (ls.map V.str ++ [.str ln])))
            rw [← e4']
            refine k H4 s [ln] (run_one hln hstep) hso (by rw [wt_one]; have := hln.2.2; omega) (fun r hr => by cases List.mem_singleton.mp hr; exact hln.2.1) (by simp) ?_
            refine li_put I0 hR hth (fun _ _ h => h) mAll (by omega) g4 (fun x hx => ?_) ⟨hd, rv, line, tl, ss, g5 _ _ (Ne.symm nLp) (Ne.symm rp) hp, mAll.1 _ _ B.hh, B.ht, g5 _ _ (Ne.symm nLs) (Ne.symm rs) hss, by omega, fun z => absurd z hnp, fun _ => ⟨rw, erv, rfl, mAll.2 _ ⟨xs, hrw, hxl⟩⟩, B.sp.mono mAll⟩ (R1' := [rw]) (fun r hr => ?_) ?_
            · rw [eR1]
              exact hx
            · rw [eR1]
              exact .inl hr
            · rw [e4', upd_same, List.map_append]
              rfl
end
end BD
/-! W27: _law_built. -/
namespace BD
open PySem PySem.Spec L2 TL
open PyProof.Rows hiding St
local macro_rules | `(tactic| walk_at "p") => `(tactic| (show (0 : Int) < _; decide))
theorem sqL_same {K : PySem.W.Frag} {H H' : Hp} {a : Addr} {xs : List V} (s : Same H H') (h : SqL K H a xs) : SqL K H' a xs := h.elim (fun h => .inl (h.elim (fun h => .inl (s _ _ h)) fun ⟨o, h⟩ => .inr ⟨o, s _ _ h⟩)) fun h => .inr h
theorem mem_cutV {xs : List V} {lo hi : Option Int} {v : V} (h : v ∈ cutV xs lo hi) : v ∈ xs := List.mem_of_mem_drop (List.mem_of_mem_take h)
theorem LB2.same {n : Nat} {H H' : Hp} {kd : Option BK} {p sh : Addr} {R : List Addr} (s : Same H H') (h : LB2 n H kd p sh R) : LB2 n H' kd p sh R := h.mono (LMono.of_same (Nat.le_refl _) s) (Nat.le_refl _) fun a _ o e => s a o e
theorem LInv.same {n : Nat} {H0 H H' : Hp} {D L : Addr} {s : List BK} {ls : Ws} (S : Same H H') (h : LInv n H0 H D L s ls) : LInv n H0 H' D L s ls := by
  obtain ⟨bs, Pr, R, I⟩ := h
  exact ⟨bs, Pr, R, S _ _ I.hD, LRest.mono (LMono.of_same (Nat.le_refl _) S) (Nat.le_refl _) (fun a _ o e => S a o e) I.st, I.nd, I.nr, S _ _ I.hL, I.fr, Same.trans' I.sm S⟩
theorem width_row {n : Int} (h1 : -E19 < n) (h2 : n < E19) : LB .width 30 (("width " : Str) ++ strI n) := by
  have hj : ("width " : Str) ++ strI n = Txt.join sp1 [("width" : Str), strI n] := ext_tl (by rw [tl_join2, tl_append, tl_width, List.append_assoc]; rfl)
  have g : GW (("width" : Str)) := by unfold GW; decide +kernel
  rw [hj]
  refine LB_of ?_ (gws_cons g (gws_one (gw_strI h1 h2))) ?_
  · show fin (numR [strI n]) .width = _
    exact eat_fin (eat_numR h1 h2)
  · rw [wt_cons, wt_one]
    have := strI_len h1 h2
    have e3 : ("width" : Str).length = 5 := by decide +kernel
    omega
section
variable {P : Program} {w : World} {K : PySem.W.Frag} {mg : Str → Option Value} {base : Heap}
/-- what is built so far -/
structure Bt (n : Nat) (H0 H : Hp) (D L : Addr) (s : List BK) (r0 : Str) (rs : Ws) (b m : Nat) : Prop where
  li : LInv n H0 H D L s (r0 :: rs)
  wd : rowP r0 = some .width
  run : runP rs [] = some s
  ok : SOk s
  nl : ∀ r ∈ r0 :: rs, 10 ∉ tl r
  wt : wt (r0 :: rs) ≤ b
  ln : rs.length ≤ m
def sp_built (K : PySem.W.Frag) : Sp := fun vs H Q _ => ∃ (a : Addr) (ns : List Int), vs = [.ref a] ∧ SqL K H a (ns.map V.int) ∧ ns.length ≤ 63 ∧ ∀ H' p v l r0 rs, H' p = some (.tup [v, .ref l]) → H' l = some (.lst ((r0 :: rs).map V.str)) → rowP r0 = some .width → runP rs [] = some [] →
  (∀ r ∈ r0 :: rs, 10 ∉ tl r) → BD.wt (r0 :: rs) ≤ 600000 → rs.length ≤ 150 → Same H H' → Q (.ref p) H'
theorem sc__law_built : FnScope ["_law_script", "_law_blocks", "_law_width", "_law_lines", "_law_used", "_law_k", "_law_before", "_law_line"] ["_law_script"] (defScope (top 56)) := ⟨rfl, rfl, rfl, by decide +kernel, rfl, by decide +kernel, by decide +kernel⟩
theorem ok__law_built (T : Txt K mg w) : FnOk P w K mg base CX0 10 T._law_built.f T._law_built.fd ["_law_script"] (sp_built K) := by
  refine T._law_built.F.ok sc__law_built (fun vs H Q E h => ?_) (fun cdv A outer s0 H vs Q E hr h => ?_)
  · obtain ⟨a, ns, rfl, _⟩ := h
    rfl
  · obtain ⟨a, ns, rfl, hsq, hns, k⟩ := h
    refine ⟨_, (pss_cons (ps_set (i := 1) sc__law_built.nd rfl (Or.inl rfl) (pe_lst (pa_cons (pe_lst (pa_cons (pe_tup (pa_cons pe_str pa_nil)) (pa_cons (pe_lst pa_nil) (pa_cons (pe_lst pa_nil) (pa_cons pe_str pa_nil))))) pa_nil)))
      (pss_cons (ps_set (i := 2) sc__law_built.nd rfl (Or.inl rfl) (pe_call (ok__law_big T) (hr.mono (by first | decide | omega)) rfl T._law_big.g T._law_big.F.kp T._law_big.b .nil pass0 (pa_cons (pe_call (ok__law_at T) (hr.mono (by first | decide | omega)) rfl T._law_at.g T._law_at.F.kp T._law_at.b .nil pass0 (pa_cons (pv 0) (pa_cons pe_int pa_nil))) pa_nil)))
      (pss_cons (ps_set (i := 3) sc__law_built.nd rfl (Or.inl rfl) (pe_lst (pa_cons (pe_op op_add_str pe_str (pe_callTy call_str_int (by rfl) T.n_str (by decide +kernel) (pa_cons (pv 2) pa_nil))) pa_nil)))
      (pss_cons (ps_set (i := 4) sc__law_built.nd rfl (Or.inl rfl) pe_int)
      (pss_cons (ps_for PassesOwn.never rfl (pi_range1 rfl T.n_range (pa_cons (pe_callB (call_min2 rfl) (by rfl) T.n_min (by decide +kernel) (pa_cons (pe_callB call_len_seq (by rfl) T.n_len (by decide +kernel) (pa_cons (pv 0) pa_nil)) (pa_cons pe_int pa_nil))) pa_nil)) (pg_name (i := 5) sc__law_built.nd rfl (Or.inl rfl)) (pss_cons (ps_set (i := 6) sc__law_built.nd rfl (Or.inl rfl) (pe_callB call_len_seq (by rfl) T.n_len (by decide +kernel) (pa_cons (pv 3) pa_nil)))
      (pss_cons (ps_expr (pe_call (ok__law_go_on T) (hr.mono (by first | decide | omega)) rfl T._law_go_on.g T._law_go_on.F.kp T._law_go_on.b .nil pass0 (pa_cons (pv 1) (pa_cons (pv 3) (pa_cons (pe_op op_add (pe_call (ok__law_at T) (hr.mono (by first | decide | omega)) rfl T._law_at.g T._law_at.F.kp T._law_at.b .nil pass0 (pa_cons (pv 0) (pa_cons (pv 5) pa_nil))) (pe_op op_mul (pe_call (ok__law_at T) (hr.mono (by first | decide | omega)) rfl T._law_at.g T._law_at.F.kp T._law_at.b .nil pass0 (pa_cons (pv 0) (pa_cons (pe_op op_add (pe_op op_mul pe_int (pv 5)) pe_int) pa_nil))) pe_int)) (pa_cons (pe_cmpR op_gt (pv 4) pe_int (nomark _)) pa_nil))))))
      (pss_one (ps_set (i := 4) sc__law_built.nd rfl (Or.inl rfl) (pe_op op_add (pv 4) (pe_callB (cr_sum rfl) (by rfl) T.n_sum (by decide +kernel) (pa_cons (pe_lc (own := [("_law_line", 7)]) (g := gName 7) (tt := tYes) rfl sc__law_built.nd (pi_list (pe_slice sl_list (pv 3) (po_some (pv 6)) po_none)) (blkOk_by (own := [("_law_line", 7)]) (N := ["_law_script", "_law_blocks", "_law_width", "_law_lines", "_law_used", "_law_k", "_law_before", "_law_line"]) (sc := defScope (top 56)) (by decide +kernel)) (fun _ _ _ _ _ => pg_name (i := 7) sc__law_built.nd rfl (Or.inl rfl)) (fun _ _ _ _ _ => pts_nil) (fun _ _ _ _ _ => (pe_callB call_len_str (by rfl) T.n_len (by decide +kernel) (pa_cons (pv 7) pa_nil)))) pa_nil))))))))
      (pss_cons (ps_while PassesOwn.never (pt_cmpR op_gt (pe_callB call_len_seq (by rfl) T.n_len (by decide +kernel) (pa_cons (pv 1) pa_nil)) pe_int (nomark _)) (pss_one (ps_expr (pe_call (ok__law_shut T) (hr.mono (by first | decide | omega)) rfl T._law_shut.g T._law_shut.F.kp T._law_shut.b .nil pass0 (pa_cons (pv 1) (pa_cons (pv 3) pa_nil))))))
      (pss_one (ps_ret (pe_tup (pa_cons (pe_tup (pa_cons (pv 2) (pa_cons (pe_callTy call_tuple_of (by rfl) T.n_tuple (by decide +kernel) (pa_cons (pe_ix ix_list (pe_ix ix_list (pv 1) pe_int (fun _ _ => rfl)) pe_int (fun _ _ => rfl)) pa_nil)) pa_nil))) (pa_cons (pv 3) pa_nil))))))))))), ?_⟩
    refine ⟨sz1, fun hd hhd => ⟨Nat.zero_le _, fun sh hsh => ⟨Nat.zero_le _, fun rw hrw => ⟨sz4, fun p hp => ⟨sz1, fun D hD => ?_⟩⟩⟩⟩⟩
    obtain ⟨H1, e1⟩ : ∃ H1, H1 = upd (upd (upd (upd (upd H hd (.tup [.str "all"])) sh (.lst [])) rw (.lst [])) p (.lst [.ref hd, .ref sh, .ref rw, .str ""])) D (.lst [.ref p]) := ⟨_, rfl⟩
    have S0 := Same.laid (o := .tup [.str "all"]) hhd
    have S1 := Same.trans' S0 (Same.laid (o := .lst []) hsh)
    have S2 := Same.trans' S1 (Same.laid (o := .lst []) hrw)
    have S3 := Same.trans' S2 (Same.laid (o := .lst [.ref hd, .ref sh, .ref rw, .str ""]) hp)
    have S4 : Same H H1 := by rw [e1]; exact Same.trans' S3 (Same.laid hD)
    have fsh := fresh_of S0 hsh
    have frw := fresh_of S1 hrw
    have fp := fresh_of S2 hp
    have fD := fresh_of S3 hD
    have hD1 : H1 D = some (.lst [.ref p]) := by rw [e1]; exact upd_same
    have hp1 : H1 p = some (.lst [.ref hd, .ref sh, .ref rw, .str ""]) := by rw [e1]; exact Same.laid hD _ _ upd_same
    have hrw1 : H1 rw = some (.lst []) := by rw [e1]; exact Same.laid hD _ _ (Same.laid hp _ _ upd_same)
    have hsh1 : H1 sh = some (.lst []) := by rw [e1]; exact Same.laid hD _ _ (Same.laid hp _ _ (Same.laid hrw _ _ upd_same))
    have hhd1 : H1 hd = some (.tup [.str "all"]) := by rw [e1]; exact Same.laid hD _ _ (Same.laid hp _ _ (Same.laid hrw _ _ (Same.laid hsh _ _ upd_same)))
    have nDp : D ≠ p := fun z => by rw [z, upd_same] at hD; cases hD
    have npr : p ≠ rw := fun z => by rw [z, upd_same] at hp; cases hp
    have nrs : rw ≠ sh := fun z => by rw [z, upd_same] at hrw; cases hrw
    have nps : p ≠ sh := fun z => by rw [z, upd_ne nrs.symm, upd_same] at hp; cases hp
    have nDr : D ≠ rw := fun z => by rw [z, upd_ne npr.symm, upd_same] at hD; cases hD
    have nDs : D ≠ sh := fun z => by rw [z, upd_ne nps.symm, upd_ne nrs.symm, upd_same] at hD; cases hD
    show tSeq _ _ _ [some (.ref a), some (.ref D), none, none, none, none, none, none] (upd (upd (upd (upd (upd H hd (.tup [.str "all"])) sh (.lst [])) rw (.lst [])) p (.lst [.ref hd, .ref sh, .ref rw, .str ""])) D (.lst [.ref p]))
    rw [← e1]
    refine ⟨_, rfl, a, ns, 0, rfl, sqL_same S4 hsq, hns, by decide, by decide, fun z => ⟨z, rfl, fun wd H2 b1 b2 S5 => ?_⟩⟩
    have hwr := width_row b1 b2
    have h20 := strI_len b1 b2
    have e6 : ("width " : Str).length = 6 := by decide +kernel
    refine ⟨_, rfl, wd, rfl, E19_lg b1 b2, _, _, rfl, rfl, sz1000 (by rw [e6]; show 6 + (strI wd).length ≤ 1000; omega), sz1, fun L hL => ?_⟩
    have S6 := Same.trans' S4 S5
    have fL := fresh_of S6 hL
    obtain ⟨r0, hr0⟩ : ∃ r0, r0 = ("width " : Str) ++ strI wd := ⟨_, rfl⟩
    have hwr : LB .width 30 r0 := by rw [hr0]; exact hwr
    obtain ⟨H3, e3⟩ : ∃ H3, H3 = upd H2 L (.lst [.str r0]) := ⟨_, rfl⟩
    have S7 : Same H2 H3 := by rw [e3]; exact Same.laid hL
    have S17 := Same.trans' S5 S7
    have nLx : ∀ x o, H1 x = some o → L ≠ x := fun x o e => (ne_of_none (S5 _ _ e) hL).symm
    have hB0 : Bt 1 H H3 D L [] r0 [] 30 0 := by
      refine ⟨⟨[p], [p, sh], [rw], S17 _ _ hD1, ⟨p, sh, [], [], [rw], [], rfl, rfl, rfl, ⟨hd, .ref rw, "", [], [], S17 _ _ hp1, S17 _ _ hhd1, by decide, S17 _ _ hsh1, by decide, fun z => (by cases z), fun _ => ⟨rw, rfl, rfl, [], S17 _ _ hrw1, by decide⟩, trivial⟩, rfl, rfl, rfl⟩, ?_, ?_, by rw [e3]; exact upd_same, ?_, Same.trans' S6 S7⟩, hwr.1, rfl, ⟨by decide, by simp⟩, ?_, ?_, by decide⟩
      · exact nd4 (nLx _ _ hD1).symm nDp nDs (nLx _ _ hp1) (nLx _ _ hsh1) nps
      · intro r hr hm
        cases List.mem_singleton.mp hr
        simp only [List.mem_cons, List.not_mem_nil, or_false] at hm
        rcases hm with h | h | h | h
        · exact nDr h.symm
        · exact nLx _ _ hrw1 h.symm
        · exact npr h.symm
        · exact nrs h
      · intro x hx
        simp only [List.mem_cons, List.mem_append, List.not_mem_nil, or_false] at hx
        rcases hx with h | h | (h | h) | h
        · rw [h]; exact fD
        · rw [h]; exact fL
        · rw [h]; exact fp
        · rw [h]; exact fsh
        · rw [h]; exact frw
      · intro r hr
        cases List.mem_singleton.mp hr
        exact hwr.2.1
      · rw [wt_one]
        exact hwr.2.2
    show tSeq _ _ _ [some (.ref a), some (.ref D), some (.int wd), some (.ref L), none, none, none, none] (upd H2 L (.lst [.str (("width " : Str) ++ strI wd)]))
    rw [← hr0, ← e3]
    have hsq3 : SqL K H3 a (ns.map V.int) := sqL_same (Same.trans' S6 S7) hsq
    obtain ⟨m, hm, m60⟩ : ∃ m : Nat, (if (60 : Int) < ((ns.map V.int).length : Nat) then (60 : Int) else (((ns.map V.int).length : Nat) : Int)) = (m : Int) ∧ m ≤ 60 := by
      rw [List.length_map]
      by_cases h : (60 : Int) < (ns.length : Nat)
      · exact ⟨60, by rw [if_pos h]; rfl, by decide⟩
      · exact ⟨ns.length, by rw [if_neg h], by omega⟩
    refine ⟨_, rfl, a, _, rfl, .inl hsq3, _, _, rfl, _, rfl, ?_, ?_, ?_⟩
    · rw [hm]; omega
    · rw [hm]; omega
    rw [hm]
    refine for_range (lo := 0) (n := m) (fun i σ' H' => (∃ (o4 : Int) (o5 o6 o7 : Option V), σ' = [some (.ref a), some (.ref D), some (.int wd), some (.ref L), some (.int o4), o5, o6, o7]) ∧ ∃ s rs, Bt (1 + 4 * i) H H' D L s r0 rs (30 + 9000 * i) (2 * i)) ?_ ?_ ?_
    · exact ⟨⟨_, _, _, _, rfl⟩, [], [], hB0⟩
    · rintro i σ H4 hi ⟨⟨o4, o5, o6, o7, rfl⟩, s, rs, B⟩
      have hL4 : H4 L = some (.lst ((r0 :: rs).map V.str)) := by obtain ⟨_, _, _, I⟩ := B.li; exact I.hL
      have Sm : Same H H4 := by obtain ⟨_, _, _, I⟩ := B.li; exact I.sm
      have hsq4 := sqL_same Sm hsq
      have hln := B.ln
      refine ⟨_, rfl, L, _, rfl, .inl (SqL.of hL4), ?_⟩
      refine ⟨_, rfl, _, rfl, _, rfl, _, rfl, a, ns, _, rfl, hsq4, hns, by omega, by omega, fun z1 => ⟨_, rfl, _, rfl, _, _, rfl, rfl, .inl ⟨by decide, by decide⟩, _, _, rfl, rfl, a, ns, _, rfl, hsq4, hns, by omega, by omega, fun z2 => ⟨_, _, rfl, rfl, .inr ⟨by decide, by decide⟩, _, _, rfl, rfl, _, rfl, _, _, rfl, rfl, ?_⟩⟩⟩
      refine ⟨1 + 4 * i, H, D, L, s, r0 :: rs, _, _, rfl, B.li, B.ok, by omega, by simp only [List.length_cons]; omega, fun H5 s' new hrun hok hwt hnl hnew hli => ?_⟩
      have hL5 : H5 L = some (.lst ((r0 :: rs ++ new).map V.str)) := by obtain ⟨_, _, _, I⟩ := hli; exact I.hL
      refine ⟨_, rfl, _, rfl, _, rfl, _, rfl, L, _, rfl, SqL.of hL5, fun t ht => ⟨t, rfl, ⟨_, SqL.of upd_same⟩, fun C hC => ?_⟩⟩
      obtain ⟨cs, hcs⟩ : ∃ cs, cs = cutV ((r0 :: rs ++ new).map V.str) (some (((r0 :: rs).map V.str).length : Nat)) none := ⟨_, rfl⟩
      have hcm : ∀ v ∈ cs, ∃ x, v = .str x ∧ x ∈ r0 :: rs ++ new := fun v hv => by
        rw [hcs] at hv
        obtain ⟨x, hx, e⟩ := List.mem_map.mp (mem_cutV hv)
        exact ⟨x, e.symm, hx⟩
      have hcl : cs.length ≤ 200 := by
        rw [hcs]
        refine Nat.le_trans (cutV_length _ _ _) ?_
        rw [List.length_map, List.length_append, List.length_cons]
        omega
      have ht5 : upd H5 t (.lst cs) t = some (.lst cs) := upd_same
      refine lc_list (xs := cs) (fun j H' => SB C (upd H5 t (.lst cs)) H' ∧ ∃ acc : List Int, H' C = some (.lst (acc.map V.int)) ∧ acc.length = j) ?_ ?_ ?_ ?_
      · exact ⟨SB.of_same (by rw [hcs]; exact Same.laid (by rw [← hcs] at hC ⊢; exact hC)), [], upd_same, rfl⟩
      · rintro j H' _ ⟨S, _⟩
        exact SqL.of (S _ _ (ne_of_none ht5 (by rw [hcs]; exact hC)) ht5)
      · rintro j x H' hx ⟨S, acc, hacc, hal⟩
        have hi2 := (List.getElem?_eq_some_iff.mp hx).1
        obtain ⟨y, rfl, _⟩ := hcm x (List.mem_of_getElem? hx)
        refine ⟨rfl, ?_⟩
        simp only [tYes, if_true]
        refine ⟨_, rfl, y, rfl, ?_, acc.map V.int, hacc, by rw [List.length_map, hal]; exact small1000 (by omega), fun c o nc e => by rw [upd_ne nc]; exact S c o nc e, acc ++ [((y.length : Nat) : Int)], by rw [upd_same, List.map_append]; rfl, by rw [List.length_append, hal]; rfl⟩
        have h1 := hcm (.str y) (List.mem_of_getElem? hx)
        obtain ⟨x, ex, hx2⟩ := h1
        cases ex
        have h2 : y.length ≤ BD.wt (r0 :: rs ++ new) := by
          have : ∀ (l : Ws), y ∈ l → y.length ≤ BD.wt l := fun l hl => by
            induction l with
            | nil => cases hl
            | cons b l ih =>
              rw [wt_cons]
              rcases List.mem_cons.mp hl with h | h
              · rw [h]; omega
              · have := ih h; omega
          exact this _ hx2
        rw [wt_app] at h2
        have := B.wt
        have e16 : sizeLine = 16777216 := rfl
        omega
      · rintro H' ⟨S, acc, hacc, hal⟩
        have sH : Same H5 H' := fun c o e => S c o (ne_of_none (Same.laid ht _ _ e) hC) (by rw [hcs]; exact Same.laid ht _ _ e)
        refine ⟨C, acc, rfl, SqL.of hacc, _, _, rfl, rfl, ⟨_, _, _, _, rfl⟩, s', rs ++ new, ?_⟩
        have hli' : LInv (1 + 4 * (i + 1)) H H' D L s' (r0 :: (rs ++ new)) := by
          rw [show 1 + 4 * (i + 1) = 1 + 4 * i + 4 by omega]
          exact hli.same sH
        refine ⟨hli', B.wd, by rw [runP_app, B.run]; exact hrun, hok, fun r hr => ?_, ?_, by rw [List.length_append]; omega⟩
        · rcases List.mem_cons.mp hr with h | h
          · exact B.nl r (by rw [h]; simp)
          · rcases List.mem_append.mp h with h | h
            · exact B.nl r (by simp [h])
            · exact hnl r h
        · rw [← List.cons_append, wt_app]
          have := B.wt
          omega
    · rintro σ H4 ⟨⟨o4, o5, o6, o7, rfl⟩, s, rs, B⟩
      have hm4 : 1 + 4 * m ≤ 241 := by omega
      refine ⟨fun j σ' H' => σ' = [some (.ref a), some (.ref D), some (.int wd), some (.ref L), some (.int o4), o5, o6, o7] ∧ ∃ (n : Nat) (s : List BK) (rs : Ws), j = s.length ∧ n + 4 * s.length ≤ 265 ∧ Bt n H H' D L s r0 rs (600000 - 9000 * s.length) (150 - 2 * s.length), ⟨s.length, rfl, 1 + 4 * m, s, rs, rfl, ?_, ?_⟩, ?_⟩
      · have := B.ok.1
        omega
      · have h6 := B.ok.1
        have := B.wt
        have := B.ln
        exact ⟨B.li, B.wd, B.run, B.ok, B.nl, by omega, by omega⟩
      · rintro j σ H5 ⟨rfl, n, s, rs, rfl, hn, B⟩
        obtain ⟨bs, Pr, R, I⟩ := B.li
        have hbl := LRest.len I.st
        have h6 := B.ok.1
        refine ⟨_, rfl, D, _, rfl, .inl (SqL.of I.hD), _, _, rfl, rfl, _, rfl, ?_⟩
        cases s with
        | cons y s1 =>
          rw [decide_eq_true (by rw [List.length_map, List.length_reverse, hbl]; simp only [List.length_cons]; omega)]
          simp only [List.length_cons] at hn h6
          have hl := B.ln
          have hw := B.wt
          simp only [List.length_cons] at hl hw
          refine iteT ⟨fun σ' H' => σ' = [some (.ref a), some (.ref D), some (.int wd), some (.ref L), some (.int o4), o5, o6, o7] ∧ ∃ (n : Nat) (s : List BK) (rs : Ws), s = s1 ∧ n + 4 * s.length ≤ 265 ∧ Bt n H H' D L s r0 rs (600000 - 9000 * s.length) (150 - 2 * s.length), ?_, ?_⟩
          · rintro σ' H' ⟨rfl, n', s', rs', rfl, h1, h2⟩
            exact ⟨s'.length, by simp, rfl, n', s', rs', rfl, h1, h2⟩
          · refine ⟨_, rfl, _, rfl, n, H, D, L, y, s1, r0 :: rs, rfl, ⟨bs, Pr, R, I⟩, B.ok, by omega, by simp only [List.length_cons]; omega, fun H' I' => ⟨rfl, n + 4, s1, rs ++ shutP y, rfl, by omega, ?_⟩⟩
            obtain ⟨w1, w2, w3⟩ := shut_ok y
            have hrun := run_shut y s1
            refine ⟨I', B.wd, by rw [runP_app, B.run]; exact hrun, step_len_runP hrun B.ok, fun r hr => ?_, ?_, by rw [List.length_append]; omega⟩
            · rcases List.mem_cons.mp hr with h | h
              · exact B.nl r (by rw [h]; simp)
              · rcases List.mem_append.mp h with h | h
                · exact B.nl r (by simp [h])
                · exact w2 r h
            · rw [← List.cons_append, wt_app]
              omega
        | nil =>
          rw [decide_eq_false (by rw [List.length_map, List.length_reverse, hbl]; simp)]
          have hDD := I.hD
          have hLL := I.hL
          have hSm := I.sm
          obtain ⟨p, sh, bs', Pr', R1, R', rfl, rfl, rfl, ⟨hd, rv, line, tl, ss, LB⟩, ⟨rfl, rfl, rfl⟩⟩ := I.st
          obtain ⟨rw', erv, _, xs, hrw', _⟩ := LB.rw (fun z => by cases z)
          refine iteF ⟨_, rfl, _, rfl, D, _, 0, .ref p, rfl, rfl, SqL.of hDD, at_of (j := 0) rfl rfl, p, _, 2, rv, rfl, rfl, SqL.of LB.hp, at_of (j := 2) rfl rfl, rw', xs, by rw [erv], .inl ⟨SqL.of hrw', fun t ht => ⟨sz2, fun u hu => ⟨_, rfl, sz2, fun v hv => ?_⟩⟩⟩⟩
          have s9 := Same.trans' (Same.laid (o := .tup xs) ht) (Same.trans' (Same.laid (o := .tup [.int wd, .ref t]) hu) (Same.laid (o := .tup [.ref u, .ref L]) hv))
          have hw := B.wt
          have hl := B.ln
          exact k _ v _ L r0 rs upd_same (s9 _ _ hLL) B.wd B.run B.nl (by simpa using hw) (by simpa using hl) (Same.trans' hSm s9)
end
end BD
/-! W28: the law's bad rows. -/
namespace BD
open PySem PySem.Spec L2 TL
open PyProof.Rows hiding St
local macro_rules | `(tactic| walk_at "p") => `(tactic| (show (0 : Int) < _; decide))
def repS (z : Str) (n : Int) : Str := ⟨(List.replicate n.toNat z.cps).foldl (· ++ ·) #[]⟩
theorem op_rep_str {X : Cx} : OpR X (binaryOp .Mult) (fun x y H Q => ∃ (z : Str) (n : Int), x = .str z ∧ y = .int n ∧ 2 ≤ n ∧ n ≤ 1000 ∧ 0 < z.length ∧ z.length ≤ 1000 ∧ (repS z n).length ≤ sizeLine ∧ Q (.str (repS z n)) H) := by
  intro pins s σ H x y v u Q I rx ry h
  obtain ⟨z, n, rfl, rfl, h1, h2, h3, h4, h5, q⟩ := h
  obtain ⟨t, rfl⟩ := rx
  obtain ⟨t', rfl⟩ := ry
  have hn1 : ¬ n < 1 := by omega
  have hn2 : (n == 1 || z.length == 0) = false := by
    rw [Bool.or_eq_false_iff]
    exact ⟨beq_eq_false_iff_ne.mpr (by omega), beq_eq_false_iff_ne.mpr (by omega)⟩
  refine PySem.P.mul_str ?_ ?_ ?_ ?_
  · rw [decide_eq_false (by omega), decide_eq_false (by omega)]
    rfl
  · intro _ _
    have : (z.length : Int) ≤ (2 ^ 63 - 1) / n := (Int.le_ediv_iff_mul_le (by omega)).mpr (by
      have := Int.mul_le_mul (show (z.length : Int) ≤ 1000 by omega) h2 (by omega) (by omega)
      omega)
    omega
  · intro _ _
    have h6 : z.length * n.toNat ≤ 1000 * 1000 := Nat.mul_le_mul h4 (by omega)
    have h7 : (1000 * 1000 : Nat) ≤ sizeLine := by decide
    exact decide_eq_false (Nat.not_lt.mpr (Nat.le_trans h6 h7))
  · rw [if_neg hn1, if_neg (by rw [hn2]; exact Bool.false_ne_true)]
    exact ⟨h5, ⟨.str (repS z n), H, I.tok _, ⟨_, rfl⟩, q⟩⟩
def asks1 : Ws := ["", "X 0 1 1 2 count of all", " 0 1 1 2 count of all", "x 0 1 1 2 count of all ", "x 0 1 1 count of all"]
def asks2 : Ws := ["x 0 1 1 2 3 count of all", "x 00 1 1 2 count of all", "x -0 1 1 2 count of all"]
def asks3 : Ws := ["x +1 1 1 2 count of all", "x 1_0 1 1 2 count of all", "x 0 1 1 2 count all", "x 0 1 1 2 count of"]
def asks4 : Ws := ["x 0 1 1 2 count of all all", "x 0 1 1 2 count of keep all", "x 0 1 1 2 sum 1 . 0 of all"]
def flats1 : Ws := ["kinds 'a of all", "kinds add . 0 of all", "kinds . -1 of all", "kinds . of all", "kinds abcdefghi of all"]
def flats2 : Ws := ["count of rows 0 1 all", "mean of all", "count of rows 1 0 all", "count of rows 10 1 all"]
def flats3 : Ws := ["count of match 0 1 . 0 all", "count of match 1 0 5 . 0 all", "count of cap x . 0 all", ""]
def flats4 : Ws := ["count of on all", "count of both all", "kinds not of", "sum 0 1 of all", "4 count of all"]
def rows1 : Ws := ["", " ", "flat 'add 0 1 2 count of all", "flat x", "flat x 0 1 count of all", "nothing", "End"]
def rows2 : Ws := ["pick x 3 1 2 10 count of all", "pick x 3 1 2 2 count of all", "pick x 3 1 2 -1"]
def rows3 : Ws := ["pick x 3 1 2 1 count of all count of all", "pick x 3 1 2 01 count of all", "draw 1", "draw 1 2 3"]
def rows4 : Ws := ["draw a b", "draw 1e1 2", "draw 1 12345678901234567890", "if", "if . 0 . 0", "if pick 1 2", "if not"]
def rows5 : Ws := [("if " : Str) ++ repS "not " 14 ++ ("1" : Str), "on", "on all all", "on both all", ("on " : Str) ++ repS "unlike " 8 ++ ("all" : Str)]
def rows6 : Ws := ["on match 10 1 all", "on match 1 10 all", "on rows 1 1 all", "on cap 1 all", "parts", "parts 'x"]
def rows7 : Ws := ["key", "key a", "key 1 2", "key 1.0", "else x", "end x", "width 2"]
abbrev BadR (x : Str) : Prop := (rowP x = none ∨ rowP x = some .width) ∧ 10 ∉ tl x ∧ x.length ≤ 200
theorem asks_ok : ∀ x ∈ asks1 ++ asks2 ++ asks3 ++ asks4, BadR (("ask " : Str) ++ x) ∧ ("ask " : Str).length + x.length ≤ 1000 := by decide +kernel
theorem flats_ok : ∀ x ∈ flats1 ++ flats2 ++ flats3 ++ flats4, BadR (("flat x 0 1 2 " : Str) ++ x) ∧ ("flat x 0 1 2 " : Str).length + x.length ≤ 1000 := by decide +kernel
theorem rows_ok : ∀ x ∈ rows1 ++ rows2 ++ rows3 ++ rows4 ++ rows5 ++ rows6 ++ rows7, BadR x := by decide +kernel
theorem rep_ok : ((repS "not " 14).length ≤ 1000 ∧ ("if " : Str).length + (repS "not " 14).length ≤ 1000 ∧ (("if " : Str) ++ repS "not " 14).length + ("1" : Str).length ≤ 1000) ∧ (repS "unlike " 8).length ≤ 1000 ∧ ("on " : Str).length + (repS "unlike " 8).length ≤ 1000 ∧ (("on " : Str) ++ repS "unlike " 8).length + ("all" : Str).length ≤ 1000 := by decide +kernel
theorem rep_ok2 : (0 < ("not " : Str).length ∧ ("not " : Str).length ≤ 1000) ∧ 0 < ("unlike " : Str).length ∧ ("unlike " : Str).length ≤ 1000 := by decide +kernel
section
variable {P : Program} {w : World} {K : PySem.W.Frag} {mg : Str → Option Value} {base : Heap}
def sp_bad : Sp := fun vs H Q _ => ∃ c : Int, vs = [.int c] ∧ ∀ x H', BadR x → Same H H' → Q (.str x) H'
theorem sc__law_bad_asks : FnScope ["_law_cell", "_law_some"] ["_law_cell"] (defScope (top 57)) := ⟨rfl, rfl, rfl, by decide +kernel, rfl, by decide +kernel, by decide +kernel⟩
theorem ok__law_bad_asks (T : Txt K mg w) : FnOk P w K mg base CX0 1 T._law_bad_asks.f T._law_bad_asks.fd ["_law_cell"] sp_bad := by
  refine T._law_bad_asks.F.ok sc__law_bad_asks (fun vs H Q E h => ?_) (fun cdv A outer s H vs Q E hr h => ?_)
  · obtain ⟨c, rfl, _⟩ := h
    rfl
  · obtain ⟨c, rfl, k⟩ := h
    refine ⟨_, (pss_cons (ps_set (i := 1) sc__law_bad_asks.nd rfl (Or.inl rfl) (pe_lst (pa_strs (by rfl))))
      (pss_cons (ps_set (i := 1) sc__law_bad_asks.nd rfl (Or.inl rfl) (pe_op op_cat (pv 1) (pe_lst (pa_cons pe_str (pa_cons pe_str (pa_cons pe_str pa_nil))))))
      (pss_cons (ps_set (i := 1) sc__law_bad_asks.nd rfl (Or.inl rfl) (pe_op op_cat (pv 1) (pe_lst (pa_strs (by rfl)))))
      (pss_cons (ps_set (i := 1) sc__law_bad_asks.nd rfl (Or.inl rfl) (pe_op op_cat (pv 1) (pe_lst (pa_cons pe_str (pa_cons pe_str (pa_cons pe_str pa_nil))))))
      (pss_one (ps_ret (pe_op op_add_str pe_str (pe_ix ix_list (pv 1) (pe_op op_mod (pv 0) (pe_callB call_len_seq (by rfl) T.n_len (by decide +kernel) (pa_cons (pv 1) pa_nil))) (fun _ _ => rfl))))))))), ?_⟩
    refine ⟨(sz1000 (by decide) : (asks1.map V.str).length ≤ sizeLine), fun l1 h1 => ?_⟩
    have S1 := Same.laid (o := .lst (asks1.map V.str)) h1
    obtain ⟨G1, eG1⟩ : ∃ G1, G1 = upd H l1 (.lst (asks1.map V.str)) := ⟨_, rfl⟩
    have e1 : G1 l1 = some (.lst (asks1.map V.str)) := by rw [eG1]; exact upd_same
    rw [← eG1] at S1
    show tSeq _ _ _ [some (.int c), some (.ref l1)] (upd H l1 (.lst (asks1.map V.str)))
    rw [← eG1]
    refine ⟨_, rfl, (sz1000 (by decide) : (asks2.map V.str).length ≤ sizeLine), fun m2 hm2 => cat_ll (pre := asks1) (ws := asks2) (Same.laid hm2 _ _ e1) upd_same (by decide) fun G2 l2 hl2 T2 e2 => ?_⟩
    have S2 := Same.trans' S1 (Same.trans' (Same.laid (o := .lst (asks2.map V.str)) hm2) T2)
    refine ⟨_, rfl, (sz1000 (by decide) : (asks3.map V.str).length ≤ sizeLine), fun m3 hm3 => cat_ll (pre := asks1 ++ asks2) (ws := asks3) (Same.laid hm3 _ _ e2) upd_same (by decide) fun G3 l3 hl3 T3 e3 => ?_⟩
    have S3 := Same.trans' S2 (Same.trans' (Same.laid (o := .lst (asks3.map V.str)) hm3) T3)
    refine ⟨_, rfl, (sz1000 (by decide) : (asks4.map V.str).length ≤ sizeLine), fun m4 hm4 => cat_ll (pre := asks1 ++ asks2 ++ asks3) (ws := asks4) (Same.laid hm4 _ _ e3) upd_same (by decide) fun G4 l4 hl4 T4 e4 => ?_⟩
    have S4 := Same.trans' S3 (Same.trans' (Same.laid (o := .lst (asks4.map V.str)) hm4) T4)
    obtain ⟨j, x, ej, hx⟩ := mod_at (l := (asks1 ++ asks2 ++ asks3 ++ asks4).map V.str) (c := c) (n := ((((asks1 ++ asks2 ++ asks3 ++ asks4).map V.str).length : Nat) : Int)) rfl (by decide)
    obtain ⟨y, hy, rfl⟩ := List.mem_map.mp (List.mem_of_getElem? hx)
    obtain ⟨b1, b2⟩ := asks_ok y hy
    exact ⟨_, rfl, _, rfl, _, rfl, l4, _, rfl, .inl (SqL.of e4), _, _, rfl, rfl, by walk_at "p", l4, _, _, .str y, rfl, rfl, SqL.of e4, at_of ej hx, _, _, rfl, rfl, sz1000 b2, k _ _ b1 S4⟩
theorem sc__law_bad_flats : FnScope ["_law_cell", "_law_some"] ["_law_cell"] (defScope (top 58)) := ⟨rfl, rfl, rfl, by decide +kernel, rfl, by decide +kernel, by decide +kernel⟩
theorem ok__law_bad_flats (T : Txt K mg w) : FnOk P w K mg base CX0 1 T._law_bad_flats.f T._law_bad_flats.fd ["_law_cell"] sp_bad := by
  refine T._law_bad_flats.F.ok sc__law_bad_flats (fun vs H Q E h => ?_) (fun cdv A outer s H vs Q E hr h => ?_)
  · obtain ⟨c, rfl, _⟩ := h
    rfl
  · obtain ⟨c, rfl, k⟩ := h
    refine ⟨_, (pss_cons (ps_set (i := 1) sc__law_bad_flats.nd rfl (Or.inl rfl) (pe_lst (pa_strs (by rfl))))
      (pss_cons (ps_set (i := 1) sc__law_bad_flats.nd rfl (Or.inl rfl) (pe_op op_cat (pv 1) (pe_lst (pa_strs (by rfl)))))
      (pss_cons (ps_set (i := 1) sc__law_bad_flats.nd rfl (Or.inl rfl) (pe_op op_cat (pv 1) (pe_lst (pa_strs (by rfl)))))
      (pss_cons (ps_set (i := 1) sc__law_bad_flats.nd rfl (Or.inl rfl) (pe_op op_cat (pv 1) (pe_lst (pa_strs (by rfl)))))
      (pss_one (ps_ret (pe_op op_add_str pe_str (pe_ix ix_list (pv 1) (pe_op op_mod (pv 0) (pe_callB call_len_seq (by rfl) T.n_len (by decide +kernel) (pa_cons (pv 1) pa_nil))) (fun _ _ => rfl))))))))), ?_⟩
    refine ⟨(sz1000 (by decide) : (flats1.map V.str).length ≤ sizeLine), fun l1 h1 => ?_⟩
    have S1 := Same.laid (o := .lst (flats1.map V.str)) h1
    obtain ⟨G1, eG1⟩ : ∃ G1, G1 = upd H l1 (.lst (flats1.map V.str)) := ⟨_, rfl⟩
    have e1 : G1 l1 = some (.lst (flats1.map V.str)) := by rw [eG1]; exact upd_same
    rw [← eG1] at S1
    show tSeq _ _ _ [some (.int c), some (.ref l1)] (upd H l1 (.lst (flats1.map V.str)))
    rw [← eG1]
    refine ⟨_, rfl, (sz1000 (by decide) : (flats2.map V.str).length ≤ sizeLine), fun m2 hm2 => cat_ll (pre := flats1) (ws := flats2) (Same.laid hm2 _ _ e1) upd_same (by decide) fun G2 l2 hl2 T2 e2 => ?_⟩
    have S2 := Same.trans' S1 (Same.trans' (Same.laid (o := .lst (flats2.map V.str)) hm2) T2)
    refine ⟨_, rfl, (sz1000 (by decide) : (flats3.map V.str).length ≤ sizeLine), fun m3 hm3 => cat_ll (pre := flats1 ++ flats2) (ws := flats3) (Same.laid hm3 _ _ e2) upd_same (by decide) fun G3 l3 hl3 T3 e3 => ?_⟩
    have S3 := Same.trans' S2 (Same.trans' (Same.laid (o := .lst (flats3.map V.str)) hm3) T3)
    refine ⟨_, rfl, (sz1000 (by decide) : (flats4.map V.str).length ≤ sizeLine), fun m4 hm4 => cat_ll (pre := flats1 ++ flats2 ++ flats3) (ws := flats4) (Same.laid hm4 _ _ e3) upd_same (by decide) fun G4 l4 hl4 T4 e4 => ?_⟩
    have S4 := Same.trans' S3 (Same.trans' (Same.laid (o := .lst (flats4.map V.str)) hm4) T4)
    obtain ⟨j, x, ej, hx⟩ := mod_at (l := (flats1 ++ flats2 ++ flats3 ++ flats4).map V.str) (c := c) (n := ((((flats1 ++ flats2 ++ flats3 ++ flats4).map V.str).length : Nat) : Int)) rfl (by decide)
    obtain ⟨y, hy, rfl⟩ := List.mem_map.mp (List.mem_of_getElem? hx)
    obtain ⟨b1, b2⟩ := flats_ok y hy
    exact ⟨_, rfl, _, rfl, _, rfl, l4, _, rfl, .inl (SqL.of e4), _, _, rfl, rfl, by walk_at "p", l4, _, _, .str y, rfl, rfl, SqL.of e4, at_of ej hx, _, _, rfl, rfl, sz1000 b2, k _ _ b1 S4⟩
theorem sc__law_bad_row : FnScope ["_law_cell", "_law_some"] ["_law_cell"] (defScope (top 59)) := ⟨rfl, rfl, rfl, by decide +kernel, rfl, by decide +kernel, by decide +kernel⟩
theorem ok__law_bad_row (T : Txt K mg w) : FnOk P w K mg base CX0 2 T._law_bad_row.f T._law_bad_row.fd ["_law_cell"] sp_bad := by
  refine T._law_bad_row.F.ok sc__law_bad_row (fun vs H Q E h => ?_) (fun cdv A outer s H vs Q E hr h => ?_)
  · obtain ⟨c, rfl, _⟩ := h
    rfl
  · obtain ⟨c, rfl, k⟩ := h
    refine ⟨_, (pss_cons (ps_set (i := 1) sc__law_bad_row.nd rfl (Or.inl rfl) (pe_op op_rep (pe_lst (pa_cons (pe_call (ok__law_bad_asks T) (hr.mono (by first | decide | omega)) rfl T._law_bad_asks.g T._law_bad_asks.F.kp T._law_bad_asks.b .nil pass0 (pa_cons (pe_op op_fdiv (pv 0) pe_int) pa_nil)) (pa_cons (pe_call (ok__law_bad_flats T) (hr.mono (by first | decide | omega)) rfl T._law_bad_flats.g T._law_bad_flats.F.kp T._law_bad_flats.b .nil pass0 (pa_cons (pe_op op_fdiv (pv 0) pe_int) pa_nil)) pa_nil))) pe_int))
      (pss_cons (ps_set (i := 1) sc__law_bad_row.nd rfl (Or.inl rfl) (pe_op op_cat (pv 1) (pe_lst (pa_strs (by rfl)))))
      (pss_cons (ps_set (i := 1) sc__law_bad_row.nd rfl (Or.inl rfl) (pe_op op_cat (pv 1) (pe_lst (pa_cons pe_str (pa_cons pe_str (pa_cons pe_str pa_nil))))))
      (pss_cons (ps_set (i := 1) sc__law_bad_row.nd rfl (Or.inl rfl) (pe_op op_cat (pv 1) (pe_lst (pa_strs (by rfl)))))
      (pss_cons (ps_set (i := 1) sc__law_bad_row.nd rfl (Or.inl rfl) (pe_op op_cat (pv 1) (pe_lst (pa_strs (by rfl)))))
      (pss_cons (ps_set (i := 1) sc__law_bad_row.nd rfl (Or.inl rfl) (pe_op op_cat (pv 1) (pe_lst (pa_cons (pe_op op_add_str (pe_op op_add_str pe_str (pe_op op_rep_str pe_str pe_int)) pe_str) (pa_cons pe_str (pa_cons pe_str (pa_cons pe_str (pa_cons (pe_op op_add_str (pe_op op_add_str pe_str (pe_op op_rep_str pe_str pe_int)) pe_str) pa_nil))))))))
      (pss_cons (ps_set (i := 1) sc__law_bad_row.nd rfl (Or.inl rfl) (pe_op op_cat (pv 1) (pe_lst (pa_strs (by rfl)))))
      (pss_cons (ps_set (i := 1) sc__law_bad_row.nd rfl (Or.inl rfl) (pe_op op_cat (pv 1) (pe_lst (pa_strs (by rfl)))))
      (pss_one (ps_ret (pe_ix ix_list (pv 1) (pe_op op_mod (pv 0) (pe_callB call_len_seq (by rfl) T.n_len (by decide +kernel) (pa_cons (pv 1) pa_nil))) (fun _ _ => rfl)))))))))))), ?_⟩
    refine ⟨_, rfl, _, _, rfl, rfl, ⟨by decide, by decide⟩, _, rfl, fun x1 H1 b1 T1 => ⟨_, rfl, _, _, rfl, rfl, ⟨by decide, by decide⟩, _, rfl, fun x2 H2 b2 T2 => ⟨sz2, fun l hl => ⟨l, 4, [.str x1, .str x2], rfl, rfl, upd_same, by decide, by decide, (show 2 * 4 ≤ sizeLine by decide), fun l0 hl0 => ?_⟩⟩⟩⟩
    obtain ⟨x0, hx0⟩ : ∃ x0 : Ws, x0 = [x1, x2, x1, x2, x1, x2, x1, x2] := ⟨_, rfl⟩
    have hx0l : x0.length = 8 := by rw [hx0]; rfl
    have hx0b : ∀ x ∈ x0, BadR x := fun x hx => by
      rw [hx0] at hx
      simp only [List.mem_cons, List.not_mem_nil, or_false] at hx
      rcases hx with h | h | h | h | h | h | h | h
      · rw [h]; exact b1
      · rw [h]; exact b2
      · rw [h]; exact b1
      · rw [h]; exact b2
      · rw [h]; exact b1
      · rw [h]; exact b2
      · rw [h]; exact b1
      · rw [h]; exact b2
    have ex0 : (List.replicate (4 : Int).toNat [V.str x1, .str x2]).flatten = x0.map V.str := by rw [hx0]; rfl
    have e0 : upd (upd H2 l (.lst [.str x1, .str x2])) l0 (.lst (List.replicate (4 : Int).toNat [V.str x1, .str x2]).flatten) l0 = some (.lst (x0.map V.str)) := by rw [upd_same, ex0]
    have S0 : Same H (upd (upd H2 l (.lst [.str x1, .str x2])) l0 (.lst (List.replicate (4 : Int).toNat [V.str x1, .str x2]).flatten)) := Same.trans' (Same.trans' T1 T2) (Same.trans' (Same.laid hl) (Same.laid hl0))
    refine ⟨_, rfl, (sz1000 (by decide) : (rows1.map V.str).length ≤ sizeLine), fun m1 hm1 => cat_ll (pre := x0) (ws := rows1) (Same.laid hm1 _ _ e0) upd_same (by simp only [List.length_append, hx0l]; decide) fun G1 l1 hl1 U1 e1 => ?_⟩
    have S1 := Same.trans' S0 (Same.trans' (Same.laid (o := .lst (rows1.map V.str)) hm1) U1)
    refine ⟨_, rfl, (sz1000 (by decide) : (rows2.map V.str).length ≤ sizeLine), fun m2 hm2 => cat_ll (pre := x0 ++ rows1) (ws := rows2) (Same.laid hm2 _ _ e1) upd_same (by simp only [List.length_append, hx0l]; decide) fun G2 l2 hl2 U2 e2 => ?_⟩
    have S2 := Same.trans' S1 (Same.trans' (Same.laid (o := .lst (rows2.map V.str)) hm2) U2)
    refine ⟨_, rfl, (sz1000 (by decide) : (rows3.map V.str).length ≤ sizeLine), fun m3 hm3 => cat_ll (pre := x0 ++ rows1 ++ rows2) (ws := rows3) (Same.laid hm3 _ _ e2) upd_same (by simp only [List.length_append, hx0l]; decide) fun G3 l3 hl3 U3 e3 => ?_⟩
    have S3 := Same.trans' S2 (Same.trans' (Same.laid (o := .lst (rows3.map V.str)) hm3) U3)
    refine ⟨_, rfl, (sz1000 (by decide) : (rows4.map V.str).length ≤ sizeLine), fun m4 hm4 => cat_ll (pre := x0 ++ rows1 ++ rows2 ++ rows3) (ws := rows4) (Same.laid hm4 _ _ e3) upd_same (by simp only [List.length_append, hx0l]; decide) fun G4 l4 hl4 U4 e4 => ?_⟩
    have S4 := Same.trans' S3 (Same.trans' (Same.laid (o := .lst (rows4.map V.str)) hm4) U4)
    obtain ⟨⟨r1, r2, r3⟩, r4, r5, r6⟩ := rep_ok
    obtain ⟨⟨r7, r8⟩, r9, r10⟩ := rep_ok2
    refine ⟨_, rfl, _, _, rfl, rfl, by decide, by decide, r7, r8, sz1000 r1, _, _, rfl, rfl, sz1000 r2, _, _, rfl, rfl, sz1000 r3, _, _, rfl, rfl, by decide, by decide, r9, r10, sz1000 r4, _, _, rfl, rfl, sz1000 r5, _, _, rfl, rfl, sz1000 r6, sz5, fun m5 hm5 => cat_ll (pre := x0 ++ rows1 ++ rows2 ++ rows3 ++ rows4) (ws := rows5) (Same.laid hm5 _ _ e4) upd_same (by simp only [List.length_append, hx0l]; decide) fun G5 l5 hl5 T5 e5 => ?_⟩
    have S5 := Same.trans' S4 (Same.trans' (Same.laid (o := .lst (rows5.map V.str)) hm5) T5)
    refine ⟨_, rfl, (sz1000 (by decide) : (rows6.map V.str).length ≤ sizeLine), fun m6 hm6 => cat_ll (pre := x0 ++ rows1 ++ rows2 ++ rows3 ++ rows4 ++ rows5) (ws := rows6) (Same.laid hm6 _ _ e5) upd_same (by simp only [List.length_append, hx0l]; decide) fun G6 l6 hl6 U6 e6 => ?_⟩
    have S6 := Same.trans' S5 (Same.trans' (Same.laid (o := .lst (rows6.map V.str)) hm6) U6)
    refine ⟨_, rfl, (sz1000 (by decide) : (rows7.map V.str).length ≤ sizeLine), fun m7 hm7 => cat_ll (pre := x0 ++ rows1 ++ rows2 ++ rows3 ++ rows4 ++ rows5 ++ rows6) (ws := rows7) (Same.laid hm7 _ _ e6) upd_same (by simp only [List.length_append, hx0l]; decide) fun G7 l7 hl7 U7 e7 => ?_⟩
    have S7 := Same.trans' S6 (Same.trans' (Same.laid (o := .lst (rows7.map V.str)) hm7) U7)
    have hpos : (0 : Int) < ((((x0 ++ rows1 ++ rows2 ++ rows3 ++ rows4 ++ rows5 ++ rows6 ++ rows7).map V.str).length : Nat) : Int) := by simp only [List.length_map, List.length_append, hx0l]; decide
    obtain ⟨j, x, ej, hx⟩ := mod_at (l := (x0 ++ rows1 ++ rows2 ++ rows3 ++ rows4 ++ rows5 ++ rows6 ++ rows7).map V.str) (c := c) (n := ((((x0 ++ rows1 ++ rows2 ++ rows3 ++ rows4 ++ rows5 ++ rows6 ++ rows7).map V.str).length : Nat) : Int)) rfl hpos
    obtain ⟨y, hy, rfl⟩ := List.mem_map.mp (List.mem_of_getElem? hx)
    have hyb : BadR y := by
      have e : x0 ++ rows1 ++ rows2 ++ rows3 ++ rows4 ++ rows5 ++ rows6 ++ rows7 = x0 ++ (rows1 ++ rows2 ++ rows3 ++ rows4 ++ rows5 ++ rows6 ++ rows7) := by simp only [List.append_assoc]
      rw [e] at hy
      rcases List.mem_append.mp hy with h | h
      · exact hx0b y h
      · exact rows_ok y h
    exact ⟨_, rfl, _, rfl, _, rfl, l7, _, rfl, .inl (SqL.of e7), _, _, rfl, rfl, hpos, l7, _, _, .str y, rfl, rfl, SqL.of e7, at_of ej hx, k _ _ hyb S7⟩
end
end BD
/-! W29: _law_open, _law_not_here, _law_ends. -/
namespace BD
open PySem PySem.Spec L2 TL
open PyProof.Rows hiding St
local macro_rules | `(tactic| walk_at "p") => `(tactic| (show (0 : Int) < _; decide))
def bn : BK → Str
  | .iff => "if"
  | .els => "else"
  | .parts => "parts"
  | .key => "key"
  | .draw => "draw"
  | .on => "on"
def namesOf (s : List BK) : Ws := s.reverse.map bn
theorem names_cons (b : BK) (s : List BK) : namesOf (b :: s) = namesOf s ++ [bn b] := by unfold namesOf; rw [List.reverse_cons, List.map_append]; rfl
theorem names_len (s : List BK) : (namesOf s).length = s.length := by unfold namesOf; rw [List.length_map, List.length_reverse]
def opensL : Ws := ["if", "parts", "draw", "on"]
/-- the first word of a row of kind k -/
def HeadOf : RK → Str → Prop
  | .ask, h => h = "ask" ∨ h = "flat" ∨ h = "pick"
  | .opn b, h => h = bn b ∧ (b = .iff ∨ b = .parts ∨ b = .draw ∨ b = .on)
  | .key, h => h = "key"
  | .width, h => h = "width"
  | .els, h => h = "else"
  | .nd, h => h = "end"
theorem fin_k {o : Option Ws} {k k' : RK} (h : fin o k = some k') : k' = k := by
  cases o with
  | none => cases h
  | some r =>
    cases r with
    | nil => cases h; rfl
    | cons a r => cases h
theorem head_of {h : Str} {r : Ws} {k : RK} (e : rowW (h :: r) = some k) : HeadOf k h := by
  simp only [rowW] at e
  split at e
  next h1 =>
    cases fin_k e
    exact h1
  split at e
  next h1 => cases fin_k e; exact ⟨h1, .inl rfl⟩
  split at e
  next h1 => cases fin_k e; exact ⟨h1, .inr (.inl rfl)⟩
  split at e
  next h1 => cases fin_k e; exact ⟨h1, .inr (.inr (.inl rfl))⟩
  split at e
  next h1 => cases fin_k e; exact ⟨h1, .inr (.inr (.inr rfl))⟩
  split at e
  next h1 => cases fin_k e; exact h1
  split at e
  next h1 => cases fin_k e; exact h1
  split at e
  next h1 => cases fin_k e; exact h1
  split at e
  next h1 => cases fin_k e; exact h1
  cases e
theorem row_head {row : Str} {k : RK} (e : rowP row = some k) : ∃ h r, wordsOf row = h :: r ∧ HeadOf k h := by
  cases q : wordsOf row with
  | nil => exact absurd q (wordsOf_ne row)
  | cons h r =>
    unfold rowP at e
    rw [q] at e
    exact ⟨h, r, rfl, head_of e⟩
theorem ix_last {n : Nat} : ixN (n + 1) (-1) = some n := by
  unfold ixN
  rw [if_neg (by omega), if_pos (by omega)]
  congr 1
  omega
theorem ends_len (s : List BK) : (endsP s).length ≤ 2 * s.length := by
  induction s with
  | nil => exact Nat.le_refl _
  | cons b s ih => cases b <;> simp only [endsP, List.length_cons] <;> omega
theorem ends_wt (s : List BK) : wt (endsP s) ≤ 10 * s.length := by
  have e1 : ("else" : Str).length = 4 := by decide +kernel
  have e2 : ("end" : Str).length = 3 := by decide +kernel
  induction s with
  | nil => exact Nat.le_refl _
  | cons b s ih => cases b <;> simp only [endsP, wt_cons, List.length_cons, e1, e2] <;> omega
section
variable {P : Program} {w : World} {K : PySem.W.Frag} {mg : Str → Option Value} {base : Heap}
def sp_lopen : Sp := fun vs H Q _ => ∃ (l : Addr) (r0 : Str) (rs : Ws) (s : List BK), vs = [.ref l] ∧ H l = some (.lst ((r0 :: rs).map V.str)) ∧ rowP r0 = some .width ∧ runP rs [] = some s ∧ (∀ r ∈ r0 :: rs, r.length + 2 ≤ sizeLine) ∧ (r0 :: rs).length ≤ sizeLine ∧
  ∀ H' d, H' d = some (.lst ((namesOf s).map V.str)) → Same H H' → Q (.ref d) H'
theorem sc__law_open : FnScope ["_law_lines", "_law_blocks", "_law_line", "_law_head"] ["_law_lines"] (defScope (top 60)) := ⟨rfl, rfl, rfl, by decide +kernel, rfl, by decide +kernel, by decide +kernel⟩
theorem ok__law_open (T : Txt K mg w) : FnOk P w K mg base CX0 1 T._law_open.f T._law_open.fd ["_law_lines"] sp_lopen := by
  refine T._law_open.F.ok sc__law_open (fun vs H Q E h => ?_) (fun cdv A outer s0 H vs Q E hr h => ?_)
  · obtain ⟨l, r0, rs, s, rfl, _⟩ := h
    rfl
  · obtain ⟨l, r0, rs, s, rfl, hl, hw, hrun, hsm, hcnt, k⟩ := h
    refine ⟨_, (pss_cons (ps_set (i := 1) sc__law_open.nd rfl (Or.inl rfl) (pe_lst pa_nil))
      (pss_cons (ps_for PassesOwn.never rfl (pi_list (pv 0)) (pg_name (i := 2) sc__law_open.nd rfl (Or.inl rfl)) (pss_cons (ps_set (i := 3) sc__law_open.nd rfl (Or.inl rfl) (pe_ix ix_list (pe_split (pv 2) pe_str) pe_int (fun _ _ => rfl)))
      (pss_one (ps_if (pt_cmpR op_in_seq (pv 3) (pe_tup (pa_strs (by rfl))) rfl) (pss_one (ps_expr (pe_bm PySem.F.plainAttrs_list PySem.F.slot_list_append PySem.F.type_list_append mt_append (pv 1) (pa_cons (pv 3) pa_nil)))) (pss_one (ps_if (pt_cmpR op_eq (pv 3) pe_str (nomark _)) (pss_one (ps_asg pe_str (pg_sub (pv 1) (pe_un un_neg pe_int) set_list))) (pss_one (ps_if (pt_cmpR op_eq (pv 3) pe_str (nomark _)) (pss_one (ps_asg pe_str (pg_sub (pv 1) (pe_un un_neg pe_int) set_list))) (pss_one (ps_if (pt_cmpR op_eq (pv 3) pe_str (nomark _)) (pss_one (ps_expr (pe_bm0 PySem.F.plainAttrs_list PySem.F.slot_list_pop PySem.F.type_list_pop mt_pop (pv 1)))) pss_nil))))))))))
      (pss_one (ps_ret (pv 1))))), ?_⟩
    refine ⟨Nat.zero_le _, fun D hD => ?_⟩
    have nlD : l ≠ D := ne_of_none hl hD
    have hl1 : upd H D (.lst []) l = some (.lst ((r0 :: rs).map V.str)) := Same.laid hD _ _ hl
    refine ⟨_, rfl, l, rfl, ⟨_, SqL.of hl1⟩, ?_⟩
    refine for_list (xs := (r0 :: rs).map V.str) (fun i σ' H' => (∃ v2 v3, σ' = [some (.ref l), some (.ref D), v2, v3]) ∧ SB D (upd H D (.lst [])) H' ∧ ∃ s1, H' D = some (.lst ((namesOf s1).map V.str)) ∧ runP (rs.take (i - 1)) [] = some s1) ?_ ?_ ?_ ?_
    · exact ⟨⟨_, _, rfl⟩, SB.refl _ _, [], upd_same, rfl⟩
    · rintro i σ' H' _ ⟨_, S, _⟩
      exact SqL.of (S l _ nlD hl1)
    · rintro i x σ' H' hx ⟨⟨v2, v3, rfl⟩, S, s1, hD1, hr1⟩
      obtain ⟨row, hrow, rfl⟩ : ∃ row, (r0 :: rs)[i]? = some row ∧ x = .str row := by
        rw [List.getElem?_map] at hx
        cases q : (r0 :: rs)[i]? with
        | none => rw [q] at hx; cases hx
        | some row => rw [q] at hx; cases hx; exact ⟨row, rfl, rfl⟩
      have hso := step_len_runP hr1 (show SOk [] from ⟨by decide, by simp⟩)
      -- what the row does
      obtain ⟨kd, s2, hkd, hst, hr2⟩ : ∃ kd s2, rowP row = some kd ∧ ((kd = .width ∧ s2 = s1) ∨ stepP kd s1 = some s2) ∧ runP (rs.take (i + 1 - 1)) [] = some s2 := by
        cases i with
        | zero =>
          cases hrow
          have : s1 = [] := by simpa [runP] using hr1.symm
          exact ⟨.width, s1, hw, .inl ⟨rfl, rfl⟩, by rw [this]; rfl⟩
        | succ i =>
          have hri : rs[i]? = some row := hrow
          obtain ⟨hi, e⟩ := List.getElem?_eq_some_iff.mp hri
          have e2 : rs = rs.take i ++ row :: rs.drop (i + 1) := by rw [← e, List.getElem_cons_drop, List.take_append_drop]
          have hall := hrun
          rw [e2, runP_app] at hall
          have hr1' : runP (rs.take i) [] = some s1 := hr1
          rw [hr1'] at hall
          cases q : lineP row s1 with
          | none => simp only [runP, q] at hall; cases hall
          | some s2 =>
            have q2 := q
            unfold lineP at q2
            cases q3 : rowP row with
            | none => rw [q3] at q2; cases q2
            | some kd =>
              rw [q3] at q2
              exact ⟨kd, s2, rfl, .inr q2, runP_snoc hri hr1' q⟩
      obtain ⟨h, r, hwd, hho⟩ := row_head hkd
      have hrz := hsm row (List.mem_of_getElem? hrow)
      refine ⟨_, rfl, ⟨_, rfl⟩, _, _, rfl, rfl, by decide +kernel, by omega, fun t ht => ?_⟩
      rw [words_eq, hwd]
      refine ⟨t, _, 0, .str h, rfl, rfl, SqL.of upd_same, at_of (j := 0) rfl rfl, ?_⟩
      have hD2 : upd H' t (.lst ((h :: r).map V.str)) D = some (.lst ((namesOf s1).map V.str)) := Same.laid ht _ _ hD1
      have S2 : SB D (upd H D (.lst [])) (upd H' t (.lst ((h :: r).map V.str))) := S.trans (SB.of_same (Same.laid ht))
      refine ⟨_, rfl, (sz1000 (by decide) : (opensL.map V.str).length ≤ sizeLine), fun q hq => ⟨q, opensL.map V.str, rfl, .inr (SqT.of upd_same), rfl, rfl, _, rfl, ?_⟩⟩
      have hD3 : upd (upd H' t (.lst ((h :: r).map V.str))) q (.tup (opensL.map V.str)) D = some (.lst ((namesOf s1).map V.str)) := Same.laid hq _ _ hD2
      have S3 : SB D (upd H D (.lst [])) (upd (upd H' t (.lst ((h :: r).map V.str))) q (.tup (opensL.map V.str))) := S2.trans (SB.of_same (Same.laid hq))
      have nlen := names_len s1
      have h6 := hso.1
      show if inV (.str h) (opensL.map V.str) = true then _ else _
      rw [inV_strs]
      have fin : ∀ (G : Hp) (ys : Ws), ys = namesOf s2 → G = upd (upd (upd H' t (.lst ((h :: r).map V.str))) q (.tup (opensL.map V.str))) D (.lst (ys.map V.str)) → SB D (upd H D (.lst [])) G ∧ ∃ s1, G D = some (.lst ((namesOf s1).map V.str)) ∧ runP (rs.take (i + 1 - 1)) [] = some s1 := fun G ys e1 e2 => by
        subst e2
        refine ⟨fun c o n e => by rw [upd_ne n]; exact S3 c o n e, s2, by rw [upd_same, e1], hr2⟩
      cases kd with
      | opn b =>
        obtain ⟨eh, hb⟩ := hho
        have hmem : h ∈ opensL := by
          rw [eh]
          rcases hb with rfl | rfl | rfl | rfl <;> decide +kernel
        rw [decide_eq_true hmem]
        have hs2 : s2 = b :: s1 := by
          rcases hst with ⟨e, _⟩ | e
          · cases e
          · by_cases hp : s1.head? = some .parts
            · cases s1 with
              | nil => cases hp
              | cons x r => cases hp; simp [stepP] at e
            · rw [step_opn hp] at e
              split at e
              · cases e
              · cases e; rfl
        refine iteT ⟨_, rfl, .inl ⟨rfl, _, SqL.of hD3⟩, _, rfl, D, _, _, rfl, rfl, hD3, by rw [List.length_map, nlen]; exact small1000 (by omega), ⟨_, _, rfl⟩, fin _ (namesOf s1 ++ [h]) ?_ ?_⟩
        · rw [hs2, names_cons, eh]
        · rw [List.map_append]
          rfl
      | ask =>
        have hh : h = "ask" ∨ h = "flat" ∨ h = "pick" := hho
        have n1 : h ∉ opensL ∧ h ≠ "else" ∧ h ≠ "key" ∧ h ≠ "end" := by rcases hh with rfl | rfl | rfl <;> decide +kernel
        have hs2 : s2 = s1 := by
          rcases hst with ⟨e, _⟩ | e
          · cases e
          · by_cases hp : s1.head? = some .parts
            · cases s1 with
              | nil => cases hp
              | cons x r => cases hp; simp [stepP] at e
            · rw [step_ask hp] at e
              cases e; rfl
        rw [decide_eq_false n1.1]
        refine iteF ⟨_, rfl, rfl, _, rfl, ?_⟩
        rw [dec_ne n1.2.1]
        refine iteF ⟨_, rfl, rfl, _, rfl, ?_⟩
        rw [dec_ne n1.2.2.1]
        refine iteF ⟨_, rfl, rfl, _, rfl, ?_⟩
        rw [dec_ne n1.2.2.2]
        exact iteF ⟨⟨_, _, rfl⟩, S3, s1, hD3, by rw [← hs2]; exact hr2⟩
      | width =>
        have hh : h = "width" := hho
        have n1 : h ∉ opensL ∧ h ≠ "else" ∧ h ≠ "key" ∧ h ≠ "end" := by rw [hh]; decide +kernel
        have hs2 : s2 = s1 := by
          rcases hst with ⟨_, e⟩ | e
          · exact e
          · cases s1 <;> cases e
        rw [decide_eq_false n1.1]
        refine iteF ⟨_, rfl, rfl, _, rfl, ?_⟩
        rw [dec_ne n1.2.1]
        refine iteF ⟨_, rfl, rfl, _, rfl, ?_⟩
        rw [dec_ne n1.2.2.1]
        refine iteF ⟨_, rfl, rfl, _, rfl, ?_⟩
        rw [dec_ne n1.2.2.2]
        exact iteF ⟨⟨_, _, rfl⟩, S3, s1, hD3, by rw [← hs2]; exact hr2⟩
      | els =>
        have hh : h = "else" := hho
        have n1 : h ∉ opensL := by rw [hh]; decide +kernel
        obtain ⟨s', rfl, rfl⟩ : ∃ s', s1 = .iff :: s' ∧ s2 = .els :: s' := by
          rcases hst with ⟨e, _⟩ | e
          · cases e
          · cases s1 with
            | nil => cases e
            | cons x r => cases x <;> first | (cases e; exact ⟨_, rfl, rfl⟩) | cases e
        rw [decide_eq_false n1]
        refine iteF ⟨_, rfl, rfl, _, rfl, ?_⟩
        rw [dec_eq hh]
        rw [names_cons] at hD3
        refine iteT ⟨_, rfl, _, rfl, D, _, _, _, rfl, rfl, hD3, by rw [List.length_map, List.length_append]; exact ix_last, ⟨_, _, rfl⟩, fin _ (namesOf s' ++ [("else" : Str)]) (names_cons .els s').symm ?_⟩
        rw [List.map_append, List.map_append, List.set_append_right _ _ (by rw [List.length_map]; exact Nat.le_refl _), List.length_map, Nat.sub_self]
        rfl
      | key =>
        have hh : h = "key" := hho
        have n1 : h ∉ opensL ∧ h ≠ "else" := by rw [hh]; decide +kernel
        obtain ⟨b, s', rfl, rfl⟩ : ∃ b s', s1 = b :: s' ∧ s2 = .key :: s' := by
          rcases hst with ⟨e, _⟩ | e
          · cases e
          · cases s1 with
            | nil => cases e
            | cons x r => cases x <;> first | (cases e; exact ⟨_, _, rfl, rfl⟩) | cases e
        rw [decide_eq_false n1.1]
        refine iteF ⟨_, rfl, rfl, _, rfl, ?_⟩
        rw [dec_ne n1.2]
        refine iteF ⟨_, rfl, rfl, _, rfl, ?_⟩
        rw [dec_eq hh]
        rw [names_cons] at hD3
        refine iteT ⟨_, rfl, _, rfl, D, _, _, _, rfl, rfl, hD3, by rw [List.length_map, List.length_append]; exact ix_last, ⟨_, _, rfl⟩, fin _ (namesOf s' ++ [("key" : Str)]) (names_cons .key s').symm ?_⟩
        rw [List.map_append, List.map_append, List.set_append_right _ _ (by rw [List.length_map]; exact Nat.le_refl _), List.length_map, Nat.sub_self]
        rfl
      | nd =>
        have hh : h = "end" := hho
        have n1 : h ∉ opensL ∧ h ≠ "else" ∧ h ≠ "key" := by rw [hh]; decide +kernel
        obtain ⟨b, rfl⟩ : ∃ b, s1 = b :: s2 := by
          rcases hst with ⟨e, _⟩ | e
          · cases e
          · cases s1 with
            | nil => cases e
            | cons x r => cases x <;> first | (cases e; exact ⟨_, rfl⟩) | cases e
        rw [decide_eq_false n1.1]
        refine iteF ⟨_, rfl, rfl, _, rfl, ?_⟩
        rw [dec_ne n1.2.1]
        refine iteF ⟨_, rfl, rfl, _, rfl, ?_⟩
        rw [dec_ne n1.2.2]
        refine iteF ⟨_, rfl, rfl, _, rfl, ?_⟩
        rw [dec_eq hh]
        rw [names_cons, List.map_append] at hD3
        refine iteT ⟨_, rfl, .inl ⟨rfl, _, SqL.of hD3⟩, D, _, .str (bn b), rfl, rfl, hD3, ?_, ⟨_, _, rfl⟩, fin _ (namesOf s2) rfl ?_⟩
        · rw [List.length_append]
          simp
        · rw [show [bn b].map V.str = [.str (bn b)] from rfl, List.dropLast_concat]
          rfl
    · rintro σ' H' ⟨⟨v2, v3, rfl⟩, S, s1, hD1, hr1⟩
      rw [List.length_map, List.length_cons, Nat.add_sub_cancel, List.take_length] at hr1
      cases hrun.symm.trans hr1
      exact ⟨_, rfl, k H' D hD1 (fun c o e => S c o (ne_of_none e hD) (Same.laid hD _ _ e))⟩
def sp_lends : Sp := fun vs H Q _ => ∃ (l : Addr) (s : List BK), vs = [.ref l] ∧ H l = some (.lst ((namesOf s).map V.str)) ∧ s.length ≤ 6 ∧ ∀ H' d, H' d = some (.lst ((endsP s).map V.str)) → Same H H' → Q (.ref d) H'
theorem ends_take (s : List BK) : ∀ {i : Nat} {b : BK}, s[i]? = some b → endsP (s.take (i + 1)) = endsP (s.take i) ++ (if b = .iff then [("else" : Str), "end"] else ["end"]) := by
  induction s with
  | nil => intro i b h; simp at h
  | cons x r ih =>
    intro i b h
    cases i with
    | zero =>
      cases h
      rw [List.take_succ_cons, List.take_zero]
      cases x <;> rfl
    | succ i =>
      have := ih (i := i) (b := b) h
      rw [List.take_succ_cons, List.take_succ_cons]
      cases x <;> simp only [endsP, this, List.cons_append]
theorem names_at (s : List BK) {i : Nat} {b : BK} (h : s[i]? = some b) : (namesOf s)[s.length - 1 - i]? = some (bn b) := by
  obtain ⟨hi, e⟩ := List.getElem?_eq_some_iff.mp h
  unfold namesOf
  rw [List.getElem?_map, List.getElem?_reverse (by omega), show s.length - 1 - (s.length - 1 - i) = i by omega, h]
  rfl
theorem bn_if {b : BK} : bn b = "if" ↔ b = .iff := by cases b <;> decide +kernel
theorem sc__law_ends : FnScope ["_law_blocks", "_law_ends_here", "_law_k"] ["_law_blocks"] (defScope (top 62)) := ⟨rfl, rfl, rfl, by decide +kernel, rfl, by decide +kernel, by decide +kernel⟩
theorem ok__law_ends (T : Txt K mg w) : FnOk P w K mg base CX0 1 T._law_ends.f T._law_ends.fd ["_law_blocks"] sp_lends := by
  refine T._law_ends.F.ok sc__law_ends (fun vs H Q E h => ?_) (fun cdv A outer s0 H vs Q E hr h => ?_)
  · obtain ⟨l, s, rfl, _⟩ := h
    rfl
  · obtain ⟨l, s, rfl, hl, h6, k⟩ := h
    refine ⟨_, (pss_cons (ps_set (i := 1) sc__law_ends.nd rfl (Or.inl rfl) (pe_lst pa_nil))
      (pss_cons (ps_for PassesOwn.never rfl (pi_range1 rfl T.n_range (pa_cons (pe_callB call_len_seq (by rfl) T.n_len (by decide +kernel) (pa_cons (pv 0) pa_nil)) pa_nil)) (pg_name (i := 2) sc__law_ends.nd rfl (Or.inl rfl)) (pss_cons (ps_if (pt_cmpR op_eq (pe_ix ix_list (pv 0) (pe_op op_sub (pe_op op_sub (pe_callB call_len_seq (by rfl) T.n_len (by decide +kernel) (pa_cons (pv 0) pa_nil)) pe_int) (pv 2)) (fun _ _ => rfl)) pe_str (nomark _)) (pss_one (ps_expr (pe_bm PySem.F.plainAttrs_list PySem.F.slot_list_append PySem.F.type_list_append mt_append (pv 1) (pa_cons pe_str pa_nil)))) pss_nil)
      (pss_one (ps_expr (pe_bm PySem.F.plainAttrs_list PySem.F.slot_list_append PySem.F.type_list_append mt_append (pv 1) (pa_cons pe_str pa_nil))))))
      (pss_one (ps_ret (pv 1))))), ?_⟩
    refine ⟨Nat.zero_le _, fun D hD => ?_⟩
    have nlD : l ≠ D := ne_of_none hl hD
    have hl1 : upd H D (.lst []) l = some (.lst ((namesOf s).map V.str)) := Same.laid hD _ _ hl
    have hlen : ((namesOf s).map V.str).length = s.length := by rw [List.length_map, names_len]
    refine ⟨_, rfl, l, _, rfl, .inl (SqL.of hl1), _, rfl, by rw [hlen]; omega, by rw [hlen]; omega, ?_⟩
    rw [show (((((namesOf s).map V.str).length : Nat) : Int)).toNat = s.length by rw [hlen]; rfl]
    refine for_range (lo := 0) (n := s.length) (fun i σ' H' => (∃ v2, σ' = [some (.ref l), some (.ref D), v2]) ∧ SB D (upd H D (.lst [])) H' ∧ H' D = some (.lst ((endsP (s.take i)).map V.str))) ?_ ?_ ?_
    · exact ⟨⟨_, rfl⟩, SB.refl _ _, upd_same⟩
    · rintro i σ H1 hi ⟨⟨v2, rfl⟩, S, hD1⟩
      obtain ⟨b, hb⟩ : ∃ b, s[i]? = some b := ⟨_, List.getElem?_eq_getElem hi⟩
      have hl2 := S l _ nlD hl1
      have hat := names_at s hb
      have htk := ends_take s hb
      have hel := ends_len (s.take i)
      rw [List.length_take] at hel
      refine ⟨_, rfl, _, rfl, l, _, rfl, .inl (SqL.of hl2), _, _, rfl, rfl, _, rfl, _, _, rfl, rfl, l, _, _, .str (bn b), rfl, rfl, SqL.of hl2, at_of (j := s.length - 1 - i) (by rw [hlen]; omega) (by rw [List.getElem?_map, hat]; rfl), rfl, _, rfl, ?_⟩
      by_cases hif : b = .iff
      · rw [dec_eq (bn_if.mpr hif)]
        rw [if_pos hif] at htk
        refine iteT ⟨_, rfl, .inl ⟨rfl, _, SqL.of hD1⟩, D, _, _, rfl, rfl, hD1, by rw [List.length_map]; exact small1000 (by omega), ?_⟩
        refine ⟨_, rfl, .inl ⟨rfl, _, SqL.of upd_same⟩, D, _, _, rfl, rfl, upd_same, by rw [List.length_append, List.length_map]; exact small1000 (by simp only [List.length_cons, List.length_nil]; omega), ⟨_, rfl⟩, fun c o n e => ?_, ?_⟩
        · rw [upd_ne n, upd_ne n]
          exact S c o n e
        · rw [upd_same, htk, List.map_append, List.append_assoc]
          rfl
      · rw [dec_ne (fun z => hif (bn_if.mp z))]
        rw [if_neg hif] at htk
        refine iteF ⟨_, rfl, .inl ⟨rfl, _, SqL.of hD1⟩, D, _, _, rfl, rfl, hD1, by rw [List.length_map]; exact small1000 (by omega), ⟨_, rfl⟩, fun c o n e => ?_, ?_⟩
        · rw [upd_ne n]
          exact S c o n e
        · rw [upd_same, htk, List.map_append]
          rfl
    · rintro σ H1 ⟨⟨v2, rfl⟩, S, hD1⟩
      rw [List.take_length] at hD1
      exact ⟨_, rfl, k H1 D hD1 (fun c o e => S c o (ne_of_none e hD) (Same.laid hD _ _ e))⟩
end
end BD
/-! W30: _law_not_here, _law_read. -/
namespace BD
open PySem PySem.Spec L2 TL
open PyProof.Rows hiding St
local macro_rules | `(tactic| walk_at "p") => `(tactic| (show (0 : Int) < _; decide))
def rIsG (K : PySem.W.Frag) (D a : Addr) (cls : Value) (d : Option Addr) : List V → Hp → VK → Prop := fun xs H Q => cls = .ref D ∧ ∃ dd, d = some dd ∧ rIsD K D a dd xs H Q
theorem call_isG {X : Cx} {a D : Addr} {cls : Value} {d : Option Addr} {oe : Obj} {pn : List (Addr × Obj)} (C : ExcC X.K D) (hz : Zc cls d oe) (hf : ∃ vs, oe.data = .fields vs) : CallR (X.suite a ((a, oe) :: pn)) (.builtin "isinstance") (rIsG X.K D a cls d) := by
  intro pins s σ H xs us Q I r h
  obtain ⟨rfl, dd, rfl, h⟩ := h
  exact call_isD C hz hf pins s σ H xs us Q I r h
def tsRead (K : PySem.W.Frag) (aT aE aG : Addr) : Addr → Value → Option Addr → TS := fun a cls d => tAsg (tTup (tCons (tC (.bl false)) (tCons (tXf a cls d aT "row" (tVar 2)) (tCons (tAndV (tCB (rIsG K aT a cls d) (tCons (tVar 2) (tCons (tC (.ref aE)) tNil)))
  (tAndV (tCB (rIsG K aT a cls d) (tCons (tVar 2) (tCons (tC (.ty "ValueError")) tNil))) (tNotV (tCB (rIsG K aT a cls d) (tCons (tVar 2) (tCons (tC (.ref aG)) tNil)))))) tNil)))) (gName 1)
section
variable {P : Program} {w : World} {K : PySem.W.Frag} {mg : Str → Option Value} {base : Heap}
def sp_lread : Sp := fun vs H Q _ => ∃ text : Str, vs = [.str text] ∧ text.length + 4 ≤ sizeLine ∧ (readP (rowsOf text) = none → ∀ H' p v, H' p = some (.tup [.bl true, v, .bl false]) → ProgAt H' v (rowsOf text) → Same H H' → Q (.ref p) H') ∧
  (∀ n : Nat, readP (rowsOf text) = some n → ∀ H' p, H' p = some (.tup [.bl false, .int n, .bl true]) → Same H H' → Q (.ref p) H')
theorem sc__law_read : FnScope ["_law_text", "_law_told", "e"] ["_law_text"] (defScope (top 63)) := ⟨rfl, rfl, rfl, by decide +kernel, rfl, by decide +kernel, by decide +kernel⟩
theorem ok__law_read (T : Txt K mg w) : FnOk P w K mg base CX0 34 T._law_read.f T._law_read.fd ["_law_text"] sp_lread := by
  refine T._law_read.F.ok sc__law_read (fun vs H Q E h => ?_) (fun cdv A outer s H vs Q E hr h => ?_)
  · obtain ⟨text, rfl, _⟩ := h
    rfl
  · obtain ⟨text, rfl, hz, kS, kN⟩ := h
    refine ⟨_, (pss_cons (ps_set (i := 1) sc__law_read.nd rfl (Or.inl rfl) (pe_tup (pa_cons pe_bl (pa_cons pe_int (pa_cons pe_bl pa_nil)))))
      (pss_cons (ps_try_as (i := 2) (tb := fun W => tAsg (tTup (tCons (tC (.bl true)) (tCons (tCallS (sp_read T.aT) (WE W) (tCons (tVar 0) tNil)) (tCons (tC (.bl false)) tNil)))) (gName 1)) (ts := tsRead K T.aT T.aE T.aG) (Wout := fun _ _ _ _ => False) rfl rfl sc__law_read.nd rfl rfl ⟨rfl, by decide, Or.inl T.g_BadText⟩ takes0 (fun W pn xe tk _ => by exact (pss_one (ps_set (i := 1) sc__law_read.nd rfl (Or.inl rfl) (pe_tup (pa_cons pe_bl (pa_cons (pe_callS (ok_read T) (hr.mono (by first | decide | omega)) rfl T.read.g T.read.F.kp T.read.b (fun σ => passAt tk σ) (pa_cons (pv 0) pa_nil)) (pa_cons pe_bl pa_nil))))))) (fun a oe cls d pn hz hf => by exact (pss_one (ps_set (i := 1) sc__law_read.nd rfl (Or.inl rfl) (pe_tup (pa_cons pe_bl (pa_cons (pe_xf T.xfB T.noRow hz hf (pv 2)) (pa_cons (pe_and (pe_callB (call_isG T.excB hz hf) (by rfl) T.n_isinstance (by decide +kernel) (pa_cons (pv 2) (pa_cons (pe_cst rfl T.c_BlurError) pa_nil))) (pe_and (pe_callB (call_isG T.excB hz hf) (by rfl) T.n_isinstance (by decide +kernel) (pa_cons (pv 2) (pa_cons (pe_bltn (v := .ty "ValueError") (u := .type "ValueError") rfl T.n_ValueError (by decide +kernel) rfl) pa_nil))) (pe_one (pe_not (pe_callB (call_isG T.excB hz hf) (by rfl) T.n_isinstance (by decide +kernel) (pa_cons (pv 2) (pa_cons (pe_cst rfl T.c_BadProgram) pa_nil))))))) pa_nil))))))))
      (pss_one (ps_ret (pv 1))))), ?_⟩
    refine ⟨sz3, fun t0 ht0 => ?_⟩
    have S0 := Same.laid (o := .tup [.bl true, .int 0, .bl false]) ht0
    refine ⟨_, rfl, text, rfl, hz, fun e v H' hv S => ⟨sz3, fun p hp => ?_⟩, fun n e d H' hd S => ?_⟩
    · refine ⟨_, rfl, kS e _ p v upd_same ?_ (Same.trans' (Same.trans' S0 S) (Same.laid hp))⟩
      obtain ⟨a, n, x, r0, t, ls, h1, h2, h3, h4, h5, h6⟩ := hv
      exact ⟨a, n, x, r0, t, ls, h1, Same.laid hp _ _ h2, h3, h4, RowsAt.mono (tups_laid hp) h5, h6⟩
    · refine ⟨true, T.eT, fun _ a0 _ => ?_, fun q => Bool.noConfusion q⟩
      refine ⟨_, rfl, rfl, rfl, d, _, _, rfl, hd, lk_eq, ?_⟩
      refine ⟨_, rfl, rfl, d, rfl, _, .ref T.aE, true, _, rfl, hd, fun u r => by cases r; rfl, T.kitE, _, rfl, iteT ?_⟩
      refine ⟨_, rfl, rfl, d, rfl, _, .type "ValueError", true, _, rfl, hd, fun u r => by cases r; rfl, T.kitV, _, rfl, iteT ?_⟩
      refine ⟨_, rfl, rfl, d, rfl, _, .ref T.aG, false, _, rfl, hd, fun u r => by cases r; rfl, T.kitG, _, rfl, sz3, fun p hp => ?_⟩
      exact ⟨_, rfl, kN n e _ p upd_same (Same.trans' (Same.trans' S0 S) (Same.laid hp))⟩
end
end BD
/-! W31: _law_not_here. -/
namespace BD
open PySem PySem.Spec L2 TL
open PyProof.Rows hiding St
def lastN (s : List BK) : Str := match s.head? with
  | none => "none"
  | some b => bn b
abbrev NR (s : List BK) (x : Str) : Prop := lineP x s = none ∧ 10 ∉ tl x ∧ x.length ≤ 200
theorem at_lastN (s : List BK) : atI (([("none" : Str)] ++ namesOf s).map V.str) (-1) = some (.str (lastN s)) := by
  unfold atI
  have e : (([("none" : Str)] ++ namesOf s).map V.str).length = s.length + 1 := by rw [List.length_map, List.length_append, names_len]; simp only [List.length_cons, List.length_nil]; omega
  rw [e, ix_last]
  show (([("none" : Str)] ++ namesOf s).map V.str)[s.length]? = _
  cases s with
  | nil => rfl
  | cons b s =>
    rw [List.getElem?_map, names_cons, ← List.append_assoc, List.getElem?_append_right (by rw [List.length_append, names_len]; simp only [List.length_cons, List.length_nil]; omega), List.length_append, names_len]
    have : (b :: s).length - ([("none" : Str)].length + s.length) = 0 := by simp only [List.length_cons, List.length_nil]; omega
    rw [this]
    rfl
theorem kinds_rows : rowP "width 3" = some .width ∧ rowP "end" = some .nd ∧ rowP "else" = some .els ∧ rowP "key 5" = some .key ∧ rowP "flat x 0 1 2 count of all" = some .ask ∧ rowP "draw 1 2" = some (.opn .draw) ∧ rowP "if 1" = some (.opn .iff) ∧ rowP "parts 1" = some (.opn .parts) ∧ rowP "on all" = some (.opn .on) := by decide +kernel
theorem rows_nl : ∀ x ∈ ([("width 3" : Str), "end", "else", "key 5", "flat x 0 1 2 count of all", "draw 1 2", "if 1", "parts 1", "on all"] : Ws), 10 ∉ tl x ∧ x.length ≤ 200 := by decide +kernel
theorem line_no {x : Str} {k : RK} {s : List BK} (h : rowP x = some k) (hs : stepP k s = none) : lineP x s = none := by unfold lineP; rw [h]; exact hs
theorem opn_no {b : BK} {s : List BK} (h : s.head? = some .parts ∨ s.length = 6) : stepP (.opn b) s = none := by
  by_cases hp : s.head? = some .parts
  · cases s with
    | nil => cases hp
    | cons x r => cases hp; rfl
  · rw [step_opn hp, if_pos]
    have := h.resolve_left hp
    omega
def moreL : Ws := ["draw 1 2", "if 1", "parts 1", "on all"]
section
variable {P : Program} {w : World} {K : PySem.W.Frag} {mg : Str → Option Value} {base : Heap}
def sp_nothere : Sp := fun vs H Q _ => ∃ (c : Int) (l : Addr) (s : List BK), vs = [.int c, .ref l] ∧ H l = some (.lst ((namesOf s).map V.str)) ∧ s.length ≤ 6 ∧ ∀ x H', NR s x → Same H H' → Q (.str x) H'
/-- what is gathered -/
def NHs (s : List BK) (c : Int) (l : Addr) (H : Hp) (n : Nat) (σ' : L2.St) (H' : Hp) : Prop := ∃ (d : Addr) (xs : Ws), σ' = [some (.int c), some (.ref l), some (.str (lastN s)), some (.ref d)] ∧ H d = none ∧ H' d = some (.lst (xs.map V.str)) ∧ 1 ≤ xs.length ∧ xs.length ≤ n ∧ (∀ x ∈ xs, NR s x) ∧ Same H H'
theorem nh_app {K : PySem.W.Frag} {s : List BK} {c : Int} {l : Addr} {H H1 : Hp} {n : Nat} {σ : L2.St} {x : Str} (h : NHs s c l H n σ H1) (hx : NR s x) (hn : n ≤ 100) :
    tDrop (tBM K "list" rAppend (tVar 3) (tCons (tC (.str x)) tNil)) { nx := NHs s c l H (n + 1), rt := fun _ _ => False, bk := fun _ _ => False, ct := fun _ _ => False } σ H1 := by
  obtain ⟨d, xs, rfl, hd, hd1, h1, h2, h3, S⟩ := h
  refine ⟨_, rfl, .inl ⟨rfl, _, SqL.of hd1⟩, d, _, _, rfl, rfl, hd1, by rw [List.length_map]; exact small1000 (by omega), d, xs ++ [x], rfl, hd, by rw [upd_same, List.map_append]; rfl, by simp, by simp; omega, fun y hy => ?_, fun o u e => ?_⟩
  · rcases List.mem_append.mp hy with h | h
    · exact h3 y h
    · cases List.mem_singleton.mp h
      exact hx
  · rw [upd_ne (ne_of_none e hd)]
    exact S o u e
theorem NHs.le {s : List BK} {c : Int} {l : Addr} {H H1 : Hp} {n m : Nat} {σ : L2.St} (h : NHs s c l H n σ H1) (hn : n ≤ m) : NHs s c l H m σ H1 := by
  obtain ⟨d, xs, e, hd, hd1, h1, h2, h3, S⟩ := h
  exact ⟨d, xs, e, hd, hd1, h1, by omega, h3, S⟩
theorem NHs.v2 {s : List BK} {c : Int} {l : Addr} {H H1 : Hp} {n : Nat} {σ : L2.St} (h : NHs s c l H n σ H1) : σ[2]? = some (some (.str (lastN s))) := by
  obtain ⟨d, xs, rfl, _⟩ := h
  rfl
theorem tells_s {i : Nat} {a b : Str} {σ : L2.St} {H : Hp} (h : σ[i]? = some (some (.str a))) : Tells (tTest (tOp rEq (tVar i) (tC (.str b)))) σ H (decide (a = b)) := fun Q q => by
  refine ⟨_, h, rfl, _, rfl, ?_⟩
  by_cases e : a = b
  · rw [dec_eq e]
    rw [decide_eq_true e] at q
    exact q
  · rw [dec_ne e]
    rw [decide_eq_false e] at q
    exact q
theorem tells_sn {i : Nat} {a b : Str} {σ : L2.St} {H : Hp} (h : σ[i]? = some (some (.str a))) : Tells (tTest (tOp rNe (tVar i) (tC (.str b)))) σ H (!decide (a = b)) := fun Q q => by
  refine ⟨_, h, rfl, _, rfl, ?_⟩
  by_cases e : a = b
  · rw [dec_eq e]
    rw [decide_eq_true e] at q
    exact q
  · rw [dec_ne e]
    rw [decide_eq_false e] at q
    exact q
theorem last_cases (s : List BK) : (lastN s = "none" ↔ s = []) ∧ ∀ b, lastN s = bn b ↔ s.head? = some b := by
  cases s with
  | nil =>
    refine ⟨⟨fun _ => rfl, fun _ => rfl⟩, fun b => ⟨fun h => ?_, fun h => (by cases h)⟩⟩
    exfalso
    revert h
    show ("none" : Str) = bn b → False
    cases b <;> decide +kernel
  | cons x r =>
    refine ⟨⟨fun h => ?_, fun h => (by cases h)⟩, fun b => ⟨fun h => ?_, fun h => (by cases h; rfl)⟩⟩
    · exfalso
      revert h
      show bn x = ("none" : Str) → False
      cases x <;> decide +kernel
    · have h2 : bn x = bn b := h
      have : x = b := by
        revert h2
        cases x <;> cases b <;> decide +kernel
      rw [this]
      rfl
theorem sc__law_not_here : FnScope ["_law_cell", "_law_blocks", "_law_last", "_law_some"] ["_law_cell", "_law_blocks"] (defScope (top 61)) := ⟨rfl, rfl, rfl, by decide +kernel, rfl, by decide +kernel, by decide +kernel⟩
theorem ok__law_not_here (T : Txt K mg w) : FnOk P w K mg base CX0 1 T._law_not_here.f T._law_not_here.fd ["_law_cell", "_law_blocks"] sp_nothere := by
  refine T._law_not_here.F.ok sc__law_not_here (fun vs H Q E h => ?_) (fun cdv A outer s0 H vs Q E hr h => ?_)
  · obtain ⟨c, l, s, rfl, _⟩ := h
    rfl
  · obtain ⟨c, l, s, rfl, hl, h6, k⟩ := h
    refine ⟨_, (pss_cons (ps_set (i := 2) sc__law_not_here.nd rfl (Or.inl rfl) (pe_ix ix_list (pe_op op_cat (pe_lst (pa_cons pe_str pa_nil)) (pv 1)) (pe_un un_neg pe_int) (fun _ _ => rfl)))
      (pss_cons (ps_set (i := 3) sc__law_not_here.nd rfl (Or.inl rfl) (pe_lst (pa_cons pe_str pa_nil)))
      (C8.pss_cut (ps_if (PW.pt (pw_or (pt_cmpR op_eq (pv 2) pe_str (nomark _)) (pw_or1 (pt_cmpR op_eq (pv 2) pe_str (nomark _))))) (pss_one (ps_expr (pe_bm PySem.F.plainAttrs_list PySem.F.slot_list_append PySem.F.type_list_append mt_append (pv 3) (pa_cons pe_str pa_nil)))) pss_nil)
      (C8.pss_cut (ps_if (pt_cmpR op_ne (pv 2) pe_str (nomark _)) (pss_one (ps_expr (pe_bm PySem.F.plainAttrs_list PySem.F.slot_list_append PySem.F.type_list_append mt_append (pv 3) (pa_cons pe_str pa_nil)))) pss_nil)
      (C8.pss_cut (ps_if (PW.pt (pw_and (pt_cmpR op_ne (pv 2) pe_str (nomark _)) (pw_and1 (pt_cmpR op_ne (pv 2) pe_str (nomark _))))) (pss_one (ps_expr (pe_bm PySem.F.plainAttrs_list PySem.F.slot_list_append PySem.F.type_list_append mt_append (pv 3) (pa_cons pe_str pa_nil)))) pss_nil)
      (C8.pss_cut (ps_if (pt_cmpR op_eq (pv 2) pe_str (nomark _)) (pss_one (ps_set (i := 3) sc__law_not_here.nd rfl (Or.inl rfl) (pe_op op_cat (pv 3) (pe_lst (pa_cons pe_str (pa_cons pe_str pa_nil)))))) pss_nil)
      (C8.pss_cut (ps_if (pt_cmpR op_eq (pe_callB call_len_seq (by rfl) T.n_len (by decide +kernel) (pa_cons (pv 1) pa_nil)) pe_int (nomark _)) (pss_one (ps_set (i := 3) sc__law_not_here.nd rfl (Or.inl rfl) (pe_op op_cat (pv 3) (pe_lst (pa_strs (by rfl)))))) pss_nil)
      (pss_one (ps_ret (pe_ix ix_list (pv 3) (pe_op op_mod (pv 0) (pe_callB call_len_seq (by rfl) T.n_len (by decide +kernel) (pa_cons (pv 3) pa_nil))) (fun _ _ => rfl))))))))))), ?_⟩
    obtain ⟨k1, k2, k3, k4, k5, k6, k7, k8, k9⟩ := kinds_rows
    obtain ⟨c1, c2⟩ := last_cases s
    have nr : ∀ x ∈ ([("width 3" : Str), "end", "else", "key 5", "flat x 0 1 2 count of all", "draw 1 2", "if 1", "parts 1", "on all"] : Ws), lineP x s = none → NR s x := fun x hx h => ⟨h, rows_nl x hx⟩
    have nlen := names_len s
    refine ⟨sz1, fun a ha => ⟨_, rfl, cat_ll (pre := [("none" : Str)]) upd_same (Same.laid ha _ _ hl) (by simp only [List.length_cons, List.length_nil]; omega) fun H1 p hp S1 e1 => ⟨_, rfl, p, _, _, _, rfl, rfl, SqL.of e1, at_lastN s, ?_⟩⟩⟩
    have S2 := Same.trans' (Same.laid (o := .lst [.str "none"]) ha) S1
    refine ⟨sz1, fun d hd => ?_⟩
    have N0 : NHs s c l H 1 [some (.int c), some (.ref l), some (.str (lastN s)), some (.ref d)] (upd H1 d (.lst [.str "width 3"])) := ⟨d, [("width 3" : Str)], rfl, fresh_of S2 hd, upd_same, by decide, by decide, fun x hx => (by cases List.mem_singleton.mp hx; exact nr _ (by simp) (line_no k1 rfl)), Same.trans' S2 (Same.laid hd)⟩
    refine ⟨NHs s c l H 2, ?_, fun σ2 G2 N2 => ⟨NHs s c l H 3, ?_, fun σ3 G3 N3 => ⟨NHs s c l H 4, ?_, fun σ4 G4 N4 => ⟨NHs s c l H 6, ?_, fun σ5 G5 N5 => ⟨NHs s c l H 10, ?_, fun σ6 G6 N6 => ?_⟩⟩⟩⟩⟩
    · refine ((tells_s (b := "none") N0.v2).or (tells_s (b := "if") N0.v2)) _ ?_
      cases hb : (decide (lastN s = "none") || decide (lastN s = "if")) with
      | true =>
        rw [Bool.or_eq_true, decide_eq_true_eq, decide_eq_true_eq] at hb
        refine iteT (nh_app N0 (nr _ (by simp) (line_no k2 ?_)) (by decide))
        rcases hb with h | h
        · rw [c1.mp h]
          rfl
        · have := (c2 .iff).mp h
          cases s with
          | nil => cases this
          | cons x r => cases this; rfl
      | false => exact iteF (N0.le (by decide))
    · refine (tells_sn (b := "if") N2.v2) _ ?_
      cases hb : (!decide (lastN s = "if")) with
      | true =>
        have h : lastN s ≠ "if" := by simpa using hb
        refine iteT (nh_app N2 (nr _ (by simp) (line_no k3 ?_)) (by decide))
        cases s with
        | nil => rfl
        | cons x r =>
          cases x with
          | iff => exact absurd rfl h
          | _ => rfl
      | false => exact iteF (N2.le (by decide))
    · refine ((tells_sn (b := "parts") N3.v2).and (tells_sn (b := "key") N3.v2)) _ ?_
      cases hb : (!decide (lastN s = "parts") && !decide (lastN s = "key")) with
      | true =>
        have h : lastN s ≠ "parts" ∧ lastN s ≠ "key" := by simpa using hb
        refine iteT (nh_app N3 (nr _ (by simp) (line_no k4 ?_)) (by decide))
        cases s with
        | nil => rfl
        | cons x r =>
          cases x with
          | parts => exact absurd rfl h.1
          | key => exact absurd rfl h.2
          | _ => rfl
      | false => exact iteF (N3.le (by decide))
    · refine (tells_s (b := "parts") N4.v2) _ ?_
      cases hb : (decide (lastN s = "parts")) with
      | true =>
        have h := (c2 .parts).mp (of_decide_eq_true hb)
        obtain ⟨d4, xs, rfl, hd0, hd4, l1, l2, hx, S4⟩ := N4
        refine iteT ⟨_, rfl, sz2, fun b hb2 => cat_ll (ws := [("flat x 0 1 2 count of all" : Str), "draw 1 2"]) (Same.laid hb2 _ _ hd4) upd_same (by simp only [List.length_cons, List.length_nil]; omega) fun H5 e he S5 e5 => ?_⟩
        refine ⟨e, xs ++ [("flat x 0 1 2 count of all" : Str), "draw 1 2"], rfl, fresh_of (Same.trans' S4 (Same.laid hb2)) he, e5, by simp, by simp; omega, fun x hx2 => ?_, Same.trans' (Same.trans' S4 (Same.laid hb2)) S5⟩
        rcases List.mem_append.mp hx2 with h2 | h2
        · exact hx x h2
        · simp only [List.mem_cons, List.not_mem_nil, or_false] at h2
          rcases h2 with rfl | rfl
          · refine nr _ (by simp) (line_no k5 ?_)
            cases s with
            | nil => cases h
            | cons x r => cases h; rfl
          · exact nr _ (by simp) (line_no k6 (opn_no (.inl h)))
      | false => exact iteF (N4.le (by decide))
    · obtain ⟨d4, xs, rfl, hd0, hd4, l1, l2, hx, S4⟩ := id N5
      have hl4 := S4 _ _ hl
      refine ⟨_, rfl, l, _, rfl, .inl (SqL.of hl4), rfl, _, rfl, ?_⟩
      have elen : (((namesOf s).map V.str).length : Nat) = s.length := by rw [List.length_map, nlen]
      by_cases h66 : s.length = 6
      · rw [di_eq (by rw [elen, h66]; rfl)]
        refine iteT ⟨_, rfl, (sz1000 (by decide) : (moreL.map V.str).length ≤ sizeLine), fun b hb2 => cat_ll (ws := moreL) (Same.laid hb2 _ _ hd4) upd_same (by have : moreL.length = 4 := rfl; omega) fun H5 e he S5 e5 => ?_⟩
        refine ⟨e, xs ++ moreL, rfl, fresh_of (Same.trans' S4 (Same.laid (o := .lst (moreL.map V.str)) hb2)) he, e5, by rw [List.length_append]; omega, by rw [List.length_append, show moreL.length = 4 from rfl]; omega, fun x hx2 => ?_, Same.trans' (Same.trans' S4 (Same.laid (o := .lst (moreL.map V.str)) hb2)) S5⟩
        rcases List.mem_append.mp hx2 with h2 | h2
        · exact hx x h2
        · simp only [moreL, List.mem_cons, List.not_mem_nil, or_false] at h2
          rcases h2 with rfl | rfl | rfl | rfl
          · exact nr _ (by simp) (line_no k6 (opn_no (.inr h66)))
          · exact nr _ (by simp) (line_no k7 (opn_no (.inr h66)))
          · exact nr _ (by simp) (line_no k8 (opn_no (.inr h66)))
          · exact nr _ (by simp) (line_no k9 (opn_no (.inr h66)))
      · rw [di_ne (by rw [elen]; omega)]
        exact iteF (N5.le (by decide))
    · obtain ⟨d4, xs, rfl, hd0, hd4, l1, l2, hx, S4⟩ := N6
      have hpos : (0 : Int) < (((xs.map V.str).length : Nat) : Int) := by rw [List.length_map]; omega
      obtain ⟨j, x, ej, hxj⟩ := mod_at (l := xs.map V.str) (c := c) (n := (((xs.map V.str).length : Nat) : Int)) rfl hpos
      obtain ⟨y, hy, rfl⟩ := List.mem_map.mp (List.mem_of_getElem? hxj)
      exact ⟨_, rfl, _, rfl, _, rfl, d4, _, rfl, .inl (SqL.of hd4), _, _, rfl, rfl, hpos, d4, _, _, .str y, rfl, rfl, SqL.of hd4, at_of ej hxj, k _ _ (hx y hy) S4⟩
end
end BD
/-! W32: _law_changed. -/
namespace BD
open PySem PySem.Spec L2 TL
open PyProof.Rows hiding St
local macro_rules | `(tactic| walk_at "p") => `(tactic| (show (0 : Int) < _; decide))
theorem wt_split {y : Str} (hy : y.length = 1) (ws : Ws) : wt ws ≤ (Txt.join y ws).length + 1 := by
  have := join_sum (y := y) ws
  rw [hy, wt_sum] at this
  exact this
theorem wt_take_drop (ws : Ws) (j : Nat) : wt (ws.take j) + wt (ws.drop j) = wt ws := by rw [← wt_app, List.take_append_drop]
theorem cut_hi {xs : List V} {j : Nat} (h : j ≤ xs.length) : cutV xs none (some (j : Int)) = xs.take j := by
  unfold cutV
  rw [HT.sIx_none, HT.sIx_nat, Nat.min_eq_left h]
  simp
theorem cut_lo {xs : List V} {j : Nat} (h : j ≤ xs.length) : cutV xs (some (j : Int)) none = xs.drop j := by
  unfold cutV
  rw [HT.sIx_none, HT.sIx_nat, Nat.min_eq_left h]
  rw [List.take_of_length_le (by rw [List.length_drop]; exact Nat.le_refl _)]
theorem cut_mid {xs : List V} {j : Nat} (h : j + 1 ≤ xs.length) : cutV xs (some (j : Int)) (some ((j + 1 : Nat) : Int)) = (xs.drop j).take 1 := by
  unfold cutV
  rw [HT.sIx_nat, HT.sIx_nat, Nat.min_eq_left h, Nat.min_eq_left (show j ≤ xs.length by omega), Nat.add_sub_cancel_left]
theorem wt_set (ws : Ws) (i : Nat) (x : Str) : wt (ws.set i x) ≤ wt ws + (x.length + 1) := by
  induction ws generalizing i with
  | nil => simp [wt_nil]
  | cons a r ih =>
    cases i with
    | zero => rw [List.set_cons_zero, wt_cons, wt_cons]; omega
    | succ i => rw [List.set_cons_succ, wt_cons, wt_cons]; have := ih i; omega
theorem wt_mem {ws : Ws} {x : Str} (h : x ∈ ws) : x.length + 1 ≤ wt ws := by
  induction ws with
  | nil => cases h
  | cons a r ih =>
    rw [wt_cons]
    rcases List.mem_cons.mp h with h | h
    · rw [h]; omega
    · have := ih h; omega
theorem ixN_nat {n j : Nat} (h : j < n) : ixN n (j : Int) = some j := by
  unfold ixN
  rw [if_pos (by omega), if_pos (by omega)]
  rfl
def signsS : Str := " \n'.-0129abdefiklnotuy~A+_"
theorem signs_len : signsS.length ≤ 1000 ∧ 0 < signsS.length ∧ signsS.length = signsS.cps.toList.length := by decide +kernel
section
variable {P : Program} {w : World} {K : PySem.W.Frag} {mg : Str → Option Value} {base : Heap}
def sp_changed : Sp := fun vs H Q _ => ∃ (text : Str) (c : Int), vs = [.str text, .int c] ∧ text.length ≤ 3000000 ∧ ∀ x H', x.length ≤ 2 * text.length + 2 → Same H H' → Q (.str x) H'
theorem sc__law_changed : FnScope ["_law_text", "_law_cell", "_law_way", "_law_at_here", "_law_signs", "_law_sign", "_law_words", "_law_rows", "_law_k"] ["_law_text", "_law_cell"] (defScope (top 64)) := ⟨rfl, rfl, rfl, by decide +kernel, rfl, by decide +kernel, by decide +kernel⟩
theorem ok__law_changed (T : Txt K mg w) : FnOk P w K mg base CX0 1 T._law_changed.f T._law_changed.fd ["_law_text", "_law_cell"] sp_changed := by
  refine T._law_changed.F.ok sc__law_changed (fun vs H Q E h => ?_) (fun cdv A outer s0 H vs Q E hr h => ?_)
  · obtain ⟨text, c, rfl, _⟩ := h
    rfl
  · obtain ⟨text, c, rfl, hz, k⟩ := h
    refine ⟨_, (pss_cons (ps_set (i := 2) sc__law_changed.nd rfl (Or.inl rfl) (pe_op op_mod (pv 1) pe_int))
      (pss_cons (ps_set (i := 3) sc__law_changed.nd rfl (Or.inl rfl) (pe_op op_mod (pe_op op_fdiv (pv 1) pe_int) (pe_op op_add (pe_callB call_len_str (by rfl) T.n_len (by decide +kernel) (pa_cons (pv 0) pa_nil)) pe_int)))
      (pss_cons (ps_set (i := 4) sc__law_changed.nd rfl (Or.inl rfl) pe_str)
      (pss_cons (ps_set (i := 5) sc__law_changed.nd rfl (Or.inl rfl) (pe_ix ix_str (pv 4) (pe_op op_mod (pe_op op_fdiv (pv 1) pe_int) (pe_callB call_len_str (by rfl) T.n_len (by decide +kernel) (pa_cons (pv 4) pa_nil))) (fun _ _ => rfl)))
      (pss_cons (ps_if (pt_cmpR op_lt (pv 2) pe_int (nomark _)) (pss_one (ps_ret (pe_op op_add_str (pe_op op_add_str (pe_slice sl_str (pv 0) po_none (po_some (pv 3))) (pe_ix ix_list (pe_lst (pa_cons pe_str (pa_cons (pv 5) pa_nil))) (pe_callB (call_min2 rfl) (by rfl) T.n_min (by decide +kernel) (pa_cons (pv 2) (pa_cons pe_int pa_nil))) (fun _ _ => rfl))) (pe_slice sl_str (pv 0) (po_some (pe_op op_add (pv 3) (pe_ix ix_list (pe_lst (pa_cons pe_int (pa_cons pe_int (pa_cons pe_int pa_nil)))) (pv 2) (fun _ _ => rfl)))) po_none)))) pss_nil)
      (pss_cons (ps_set (i := 6) sc__law_changed.nd rfl (Or.inl rfl) (pe_split (pv 0) pe_str))
      (pss_cons (ps_if (pt_cmpR op_eq (pv 2) pe_int (nomark _)) (pss_cons (ps_asg (pe_ix ix_list (pv 6) (pe_op op_mod (pe_op op_fdiv (pv 1) pe_int) (pe_callB call_len_seq (by rfl) T.n_len (by decide +kernel) (pa_cons (pv 6) pa_nil))) (fun _ _ => rfl)) (pg_sub (pv 6) (pe_op op_mod (pe_op op_fdiv (pv 1) pe_int) (pe_callB call_len_seq (by rfl) T.n_len (by decide +kernel) (pa_cons (pv 6) pa_nil))) set_list))
      (pss_one (ps_ret (pe_join pe_str (pv 6))))) pss_nil)
      (pss_cons (ps_set (i := 7) sc__law_changed.nd rfl (Or.inl rfl) (pe_split (pv 0) pe_str))
      (pss_cons (ps_set (i := 8) sc__law_changed.nd rfl (Or.inl rfl) (pe_op op_mod (pe_op op_fdiv (pv 1) pe_int) (pe_callB call_len_seq (by rfl) T.n_len (by decide +kernel) (pa_cons (pv 7) pa_nil))))
      (pss_one (ps_ret (pe_join pe_str (pe_op op_cat (pe_op op_cat (pe_slice sl_list (pv 7) po_none (po_some (pv 8))) (pe_op op_rep (pe_slice sl_list (pv 7) (po_some (pv 8)) (po_some (pe_op op_add (pv 8) pe_int))) (pe_op op_mul pe_int (pe_op op_sub (pv 2) pe_int)))) (pe_slice sl_list (pv 7) (po_some (pe_op op_add (pv 8) pe_int)) po_none)))))))))))))), ?_⟩
    have e16 : sizeLine = 16777216 := rfl
    have hzl : text.length ≤ sizeLine := by omega
    obtain ⟨z1, z2, z3⟩ := signs_len
    refine ⟨_, rfl, _, _, rfl, rfl, by walk_at "p", ?_⟩
    have hp1 : (0 : Int) < (text.length : Nat) + 1 := by omega
    refine ⟨_, rfl, _, _, rfl, rfl, ⟨by decide, by decide⟩, _, rfl, _, rfl, hzl, _, _, rfl, rfl, _, _, rfl, rfl, hp1, ?_⟩
    obtain ⟨at0, hat⟩ : ∃ a : Int, a = c / 6 % ((text.length : Nat) + 1) := ⟨_, rfl⟩
    obtain ⟨j0, x0, ej0, hx0⟩ := mod_at (l := signsS.cps.toList) (c := c / 64) (n := ((signsS.length : Nat) : Int)) (by rw [z3]) (by omega)
    refine ⟨_, rfl, _, rfl, _, _, rfl, rfl, ⟨by decide, by decide⟩, _, rfl, signsS, rfl, sz1000 z1, _, _, rfl, rfl, (show (0 : Int) < ((signsS.length : Nat) : Int) by omega), signsS, _, x0, rfl, rfl, sz1000 z1, ?_, ?_⟩
    · show atI signsS.cps.toList (c / 64 % ((signsS.length : Nat) : Int)) = some x0
      rw [ej0]
      unfold atI
      rw [ixN_nat (List.getElem?_eq_some_iff.mp hx0).1]
      exact hx0
    refine ⟨_, rfl, _, _, rfl, rfl, _, rfl, ?_⟩
    refine ite2 (fun h3 => ?_) (fun h3 => ?_)
    · have w3 : c % 6 < 3 := of_decide_eq_true h3
      have w0 := Int.emod_nonneg c (show (6 : Int) ≠ 0 by decide)
      obtain ⟨wn, hwn, w2⟩ : ∃ n : Nat, c % 6 = (n : Int) ∧ n ≤ 2 := ⟨(c % 6).toNat, by omega, by omega⟩
      obtain ⟨pc, hpc, hpl⟩ : ∃ pc : Str, atI [V.str "", V.str (⟨#[x0]⟩ : Str)] (if (1 : Int) < c % 6 then (1 : Int) else c % 6) = some (.str pc) ∧ pc.length ≤ 1 := by
        by_cases h1 : (1 : Int) < c % 6
        · exact ⟨⟨#[x0]⟩, by rw [if_pos h1]; rfl, Nat.le_refl _⟩
        · rw [if_neg h1]
          by_cases h0 : c % 6 = 0
          · exact ⟨"", by rw [h0]; rfl, by decide +kernel⟩
          · exact ⟨⟨#[x0]⟩, by rw [show c % 6 = 1 by omega]; rfl, Nat.le_refl _⟩
      obtain ⟨m, hm⟩ : ∃ m : Int, atI [V.int 1, .int 1, .int 0] (c % 6) = some (.int m) := by
        rw [hwn]
        match wn, w2 with
        | 0, _ => exact ⟨1, rfl⟩
        | 1, _ => exact ⟨1, rfl⟩
        | 2, _ => exact ⟨0, rfl⟩
      have la := J1.cutS_len_le text none (some (c / 6 % ((text.length : Nat) + 1)))
      refine ⟨_, rfl, _, rfl, _, rfl, text, rfl, hzl, _, rfl, sz2, fun t ht => ⟨_, rfl, _, _, rfl, t, _, _, .str pc, rfl, rfl, SqL.of upd_same, hpc, _, _, rfl, rfl, by omega, _, rfl, _, rfl, sz3, fun u hu => ⟨_, rfl, u, _, _, .int m, rfl, rfl, SqL.of upd_same, hm, _, _, rfl, rfl, _, rfl, text, rfl, hzl, _, _, rfl, rfl, ?_, ?_⟩⟩⟩
      · rw [len_tl, tl_append, List.length_append, ← len_tl, ← len_tl]
        have := J1.cutS_len_le text (some (c / 6 % ((text.length : Nat) + 1) + m)) none
        omega
      · refine k _ _ ?_ (Same.trans' (Same.laid ht) (Same.laid hu))
        rw [len_tl, tl_append, tl_append, List.length_append, List.length_append, ← len_tl, ← len_tl, ← len_tl]
        have := J1.cutS_len_le text (some (c / 6 % ((text.length : Nat) + 1) + m)) none
        omega
    · refine ⟨_, rfl, ⟨_, rfl⟩, _, _, rfl, rfl, by decide +kernel, by omega, fun W hW => ?_⟩
      rw [words_eq]
      have wl := wt_split (y := sp1) (by decide +kernel) (wordsOf text)
      rw [join_words] at wl
      have wcnt := words_cnt text
      have wne : 0 < (wordsOf text).length := by
        cases e : wordsOf text with
        | nil => exact absurd e (wordsOf_ne text)
        | cons a r => simp
      have hW1 : upd H W (.lst ((wordsOf text).map V.str)) W = some (.lst ((wordsOf text).map V.str)) := upd_same
      have hWp : (0 : Int) < ((((wordsOf text).map V.str).length : Nat) : Int) := by rw [List.length_map]; omega
      refine ⟨_, rfl, rfl, _, rfl, ?_⟩
      refine ite2 (fun _ => ?_) (fun h4 => ?_)
      · obtain ⟨j1, x1, ej1, hx1⟩ := mod_at (l := (wordsOf text).map V.str) (c := c / 97) (n := ((((wordsOf text).map V.str).length : Nat) : Int)) rfl hWp
        obtain ⟨y1, hy1, rfl⟩ := List.mem_map.mp (List.mem_of_getElem? hx1)
        obtain ⟨j2, x2, ej2, hx2⟩ := mod_at (l := (wordsOf text).map V.str) (c := c / 6) (n := ((((wordsOf text).map V.str).length : Nat) : Int)) rfl hWp
        have hj2 := (List.getElem?_eq_some_iff.mp hx2).1
        refine ⟨_, rfl, _, rfl, _, _, rfl, rfl, ⟨by decide, by decide⟩, _, rfl, W, _, rfl, .inl (SqL.of hW1), _, _, rfl, rfl, hWp, W, _, _, .str y1, rfl, rfl, SqL.of hW1, at_of ej1 hx1, _, rfl, _, rfl, _, _, rfl, rfl, ⟨by decide, by decide⟩, _, rfl, W, _, rfl, .inl (SqL.of hW1), _, _, rfl, rfl, hWp, W, _, _, j2, rfl, rfl, hW1, by rw [ej2]; exact ixN_nat hj2, ?_⟩
        have ews : ((wordsOf text).map V.str).set j2 (.str y1) = ((wordsOf text).set j2 y1).map V.str := by rw [List.map_set]
        have w1 := wt_set (wordsOf text) j2 y1
        have w2 := wt_mem hy1
        refine ⟨⟨_, rfl⟩, _, rfl, sp1, W, (wordsOf text).set j2 y1, rfl, rfl, .inl (SqL.of (by rw [upd_same, ews])), join_ok (b := 16000000) (by omega) (by decide), ?_⟩
        refine k _ _ ?_ (fun o u e => ?_)
        · have := join_wt sp1 (by decide +kernel) ((wordsOf text).set j2 y1)
          omega
        · rw [upd_ne (ne_of_none e hW)]
          exact Same.laid hW _ _ e
      · refine ⟨_, rfl, ⟨_, rfl⟩, _, _, rfl, rfl, by decide +kernel, by omega, fun R hR => ?_⟩
        rw [rows_eq]
        have rl := wt_split (y := nl1) (by decide +kernel) (rowsOf text)
        rw [join_rows] at rl
        have rcnt := rows_cnt text
        have rne : 0 < (rowsOf text).length := by
          cases e : rowsOf text with
          | nil => exact absurd e (rowsOf_ne text)
          | cons a r => simp
        have S2 := Same.trans' (Same.laid (o := .lst ((wordsOf text).map V.str)) hW) (Same.laid (o := .lst ((rowsOf text).map V.str)) hR)
        obtain ⟨G, eG⟩ : ∃ G, G = upd (upd H W (.lst ((wordsOf text).map V.str))) R (.lst ((rowsOf text).map V.str)) := ⟨_, rfl⟩
        have hRR : G R = some (.lst ((rowsOf text).map V.str)) := by rw [eG]; exact upd_same
        rw [← eG] at S2 ⊢
        have hRp : (0 : Int) < ((((rowsOf text).map V.str).length : Nat) : Int) := by rw [List.length_map]; omega
        obtain ⟨j, x, ej, hx⟩ := mod_at (l := (rowsOf text).map V.str) (c := c / 6) (n := ((((rowsOf text).map V.str).length : Nat) : Int)) rfl hRp
        have hj := (List.getElem?_eq_some_iff.mp hx).1
        have w3 : ¬ c % 6 < 3 := of_decide_eq_false (by simpa using h3)
        have w4 : ¬ c % 6 = 3 := fun z => h4 (di_eq z)
        have w5 := Int.emod_lt_of_pos c (show (0 : Int) < 6 by decide)
        refine ⟨_, rfl, _, _, rfl, rfl, ⟨by decide, by decide⟩, _, rfl, R, _, rfl, .inl (SqL.of hRR), _, _, rfl, rfl, hRp, ?_⟩
        obtain ⟨wv, hwv⟩ : ∃ wv : Int, wv = c % 6 := ⟨_, rfl⟩
        have ec1 : cutV ((rowsOf text).map V.str) none (some (c / 6 % ((((rowsOf text).map V.str).length : Nat) : Int))) = ((rowsOf text).take j).map V.str := by rw [ej, cut_hi (by omega), ← List.map_take]
        have ec2 : cutV ((rowsOf text).map V.str) (some (c / 6 % ((((rowsOf text).map V.str).length : Nat) : Int))) (some (c / 6 % ((((rowsOf text).map V.str).length : Nat) : Int) + 1)) = (((rowsOf text).drop j).take 1).map V.str := by rw [ej, show ((j : Int) + 1) = ((j + 1 : Nat) : Int) from rfl, cut_mid (by omega), ← List.map_drop, ← List.map_take]
        have ec3 : cutV ((rowsOf text).map V.str) (some (c / 6 % ((((rowsOf text).map V.str).length : Nat) : Int) + 1)) none = ((rowsOf text).drop (j + 1)).map V.str := by rw [ej, show ((j : Int) + 1) = ((j + 1 : Nat) : Int) from rfl, cut_lo (by omega), ← List.map_drop]
        obtain ⟨n2, hn2, n22⟩ : ∃ n : Nat, 2 * (c % 6 - 4) = (n : Int) ∧ n ≤ 2 := ⟨(2 * (c % 6 - 4)).toNat, by omega, by omega⟩
        refine ⟨⟨_, rfl⟩, _, rfl, _, rfl, _, rfl, R, _, rfl, SqL.of hRR, fun p1 hp1 => ?_⟩
        rw [ec1]
        have T1 := Same.laid (o := .lst (((rowsOf text).take j).map V.str)) hp1
        refine ⟨_, rfl, _, rfl, _, rfl, _, rfl, _, _, rfl, rfl, _, rfl, R, _, rfl, SqL.of (T1 _ _ hRR), fun p2 hp2 => ?_⟩
        rw [ec2]
        have T2 := Same.trans' T1 (Same.laid (o := .lst ((((rowsOf text).drop j).take 1).map V.str)) hp2)
        have l1 : (((rowsOf text).drop j).take 1).length ≤ 1 := by rw [List.length_take]; exact Nat.min_le_left _ _
        refine ⟨_, rfl, _, _, rfl, rfl, _, _, rfl, rfl, .inl ⟨by decide, by decide⟩, p2, 2 * (c % 6 - 4), _, rfl, rfl, upd_same, by omega, by omega, ?_, fun p3 hp3 => ?_⟩
        · rw [hn2, List.length_map]
          have : (((rowsOf text).drop j).take 1).length * ((n2 : Int)).toNat ≤ 1 * 2 := Nat.mul_le_mul l1 (by omega)
          omega
        have erep : (List.replicate (2 * (c % 6 - 4)).toNat ((((rowsOf text).drop j).take 1).map V.str)).flatten = ((List.replicate n2 (((rowsOf text).drop j).take 1)).flatten).map V.str := by
          rw [hn2]
          show (List.replicate n2 _).flatten = _
          rw [List.map_flatten, List.map_replicate]
        rw [erep]
        have T3 := Same.trans' T2 (Same.laid (o := .lst (((List.replicate n2 (((rowsOf text).drop j).take 1)).flatten).map V.str)) hp3)
        obtain ⟨mid, hmid⟩ : ∃ mid : Ws, mid = (List.replicate n2 (((rowsOf text).drop j).take 1)).flatten := ⟨_, rfl⟩
        rw [← hmid] at T3 ⊢
        have wd : wt ((rowsOf text).take j) + (wt (((rowsOf text).drop j).take 1) + wt ((rowsOf text).drop (j + 1))) = wt (rowsOf text) := by
          rw [← List.drop_drop, wt_take_drop, wt_take_drop]
        have wm : wt mid ≤ 2 * wt (((rowsOf text).drop j).take 1) := by
          rw [hmid]
          match n2, n22 with
          | 0, _ => exact Nat.zero_le _
          | 1, _ => simp only [List.replicate, List.flatten_cons, List.flatten_nil, wt_app, wt_nil]; omega
          | 2, _ => simp only [List.replicate, List.flatten_cons, List.flatten_nil, wt_app, wt_nil]; omega
        have lm := wt_len mid
        have lt := wt_len ((rowsOf text).take j)
        have ld := wt_len ((rowsOf text).drop (j + 1))
        refine cat_ll (Same.laid hp3 _ _ (Same.laid hp2 _ _ upd_same)) upd_same (by omega) fun H4 p4 hp4 S4 e4 => ?_
        refine ⟨_, rfl, _, rfl, _, _, rfl, rfl, _, rfl, R, _, rfl, SqL.of (S4 _ _ (T3 _ _ hRR)), fun p5 hp5 => ?_⟩
        rw [ec3]
        refine cat_ll (Same.laid hp5 _ _ e4) upd_same (by rw [List.length_append]; omega) fun H6 p6 hp6 S6 e6 => ?_
        have wall : wt ((rowsOf text).take j ++ mid ++ (rowsOf text).drop (j + 1)) ≤ 2 * text.length + 2 := by
          rw [wt_app, wt_app]
          omega
        refine ⟨nl1, p6, _, rfl, rfl, .inl (SqL.of e6), ?_, ?_⟩
        · rw [show nl1.length = 1 by decide +kernel, wt_sum]
          omega
        · refine k _ _ ?_ (Same.trans' S2 (Same.trans' T3 (Same.trans' S4 (Same.trans' (Same.laid hp5) S6))))
          have := join_wt nl1 (by decide +kernel) ((rowsOf text).take j ++ mid ++ (rowsOf text).drop (j + 1))
          omega
end
end BD
/-! W33: _law_any. -/
namespace BD
open PySem PySem.Spec L2 TL
open PyProof.Rows hiding St
local macro_rules | `(tactic| walk_at "p") => `(tactic| (show (0 : Int) < _; decide))
theorem eqv_bi (b : Bool) (n : Int) : PyData.eqv (.tuple [.bool b, .int n]) (.tuple [.bool b, .int n]) = true := by simp [PyData.eqv, PyData.eqvAll]
theorem eqv_ib (b : Bool) (n : Int) : PyData.eqv (.tuple [.int n, .bool b]) (.tuple [.int n, .bool b]) = true := by simp [PyData.eqv, PyData.eqvAll]
theorem sh_bi (b : Bool) (n : Int) : SeqAt.shaped (.tuple [.bool b, .int n]) = true := rfl
theorem sh_ib (b : Bool) (n : Int) : SeqAt.shaped (.tuple [.int n, .bool b]) = true := rfl
theorem cut2 {a b c : V} : cutV [a, b, c] none (some 2) = [a, b] := rfl
theorem cut2_whole {a b c : V} : ¬ (HT.sIx [a, b, c].length 0 none = 0 ∧ HT.sIx [a, b, c].length [a, b, c].length (some 2) = [a, b, c].length) := fun h => by
  have h2 := h.2
  have e : HT.sIx [a, b, c].length [a, b, c].length (some 2) = 2 := rfl
  rw [e] at h2
  simp at h2
/-- (False, row) == (False, row) -/
theorem cmp_bi {K : PySem.W.Frag} {H : Hp} {p q : Addr} {b : Bool} {n m : Int} {Q : VK} (e : n = m) (hp : H p = some (.tup [.bl b, .int n])) (hq : H q = some (.tup [.bl b, .int m])) (k : Q (.bl true) H) : rEqD K (.ref p) (.ref q) H Q := by
  subst e
  refine ⟨.tuple [.bool b, .int n], .tuple [.bool b, .int n], .tup (SqT.of hp) (.cons (.bl b) (.cons (.int n) .nil)), .tup (SqT.of hq) (.cons (.bl b) (.cons (.int n) .nil)), sh_bi b n, sh_bi b n, ?_⟩
  rw [eqv_bi]
  exact k
theorem cmp_ib {K : PySem.W.Frag} {H : Hp} {p q : Addr} {b : Bool} {n m : Int} {Q : VK} (e : n = m) (hp : H p = some (.tup [.int n, .bl b])) (hq : H q = some (.tup [.int m, .bl b])) (k : Q (.bl true) H) : rEqD K (.ref p) (.ref q) H Q := by
  subst e
  refine ⟨.tuple [.int n, .bool b], .tuple [.int n, .bool b], .tup (SqT.of hp) (.cons (.int n) (.cons (.bl b) .nil)), .tup (SqT.of hq) (.cons (.int n) (.cons (.bl b) .nil)), sh_ib b n, sh_ib b n, ?_⟩
  rw [eqv_ib]
  exact k
theorem ends_nl (s : List BK) : ∀ r ∈ endsP s, 10 ∉ tl r := by
  have h1 : 10 ∉ tl (("else" : Str)) := by decide +kernel
  have h2 : 10 ∉ tl (("end" : Str)) := by decide +kernel
  induction s with
  | nil => intro r hr; cases hr
  | cons b s ih =>
    intro r hr
    cases b <;> simp only [endsP, List.mem_cons] at hr
    · rcases hr with h | h | h
      · rw [h]; exact h1
      · rw [h]; exact h2
      · exact ih r h
    all_goals
      rcases hr with h | h
      · rw [h]; exact h2
      · exact ih r h
section
variable {P : Program} {w : World} {K : PySem.W.Frag} {mg : Str → Option Value} {base : Heap}
def sp_any : Sp := fun vs H Q _ => ∃ text : Str, vs = [.str text] ∧ text.length ≤ 10000000 ∧ ∀ H', Q (.bl true) H'
theorem sc__law_any : FnScope ["_law_text", "_law_told", "_law_found", "_law_rows", "_law_row", "_law_ends_here"] ["_law_text"] (defScope (top 65)) := ⟨rfl, rfl, rfl, by decide +kernel, rfl, by decide +kernel, by decide +kernel⟩
theorem ok__law_any (T : Txt K mg w) : FnOk P w K mg base CX0 49 T._law_any.f T._law_any.fd ["_law_text"] sp_any := by
  refine T._law_any.F.ok sc__law_any (fun vs H Q E h => ?_) (fun cdv A outer s0 H vs Q E hr h => ?_)
  · obtain ⟨text, rfl, _⟩ := h
    rfl
  · obtain ⟨text, rfl, hz, k⟩ := h
    refine ⟨_, (pss_cons (ps_set (i := 1) sc__law_any.nd rfl (Or.inl rfl) (pe_call (ok__law_read T) (hr.mono (by first | decide | omega)) rfl T._law_read.g T._law_read.F.kp T._law_read.b .nil pass0 (pa_cons (pv 0) pa_nil)))
      (pss_cons (ps_if (pt_val (pe_ix ix_tup (pv 1) pe_int (fun _ _ => rfl))) (pss_cons (ps_set (i := 2) sc__law_any.nd rfl (Or.inl rfl) (pe_call (ok_written T) (hr.mono (by first | decide | omega)) rfl T.written.g T.written.F.kp T.written.b .nil pass0 (pa_cons (pe_ix ix_tup (pv 1) pe_int (fun _ _ => rfl)) pa_nil)))
      (pss_one (ps_ret (pe_and (pe_callB call_isi (by rfl) T.n_isinstance (by decide +kernel) (pa_cons (pv 2) (pa_cons (pe_bltn (v := .ty "str") (u := .type "str") rfl T.n_str (by decide +kernel) rfl) pa_nil))) (pe_one (pe_cmpR op_eq (pv 2) (pv 0) (nomark _))))))) pss_nil)
      (pss_cons (ps_set (i := 3) sc__law_any.nd rfl (Or.inl rfl) (pe_split (pv 0) pe_str))
      (pss_cons (ps_set (i := 4) sc__law_any.nd rfl (Or.inl rfl) (pe_ix ix_tup (pv 1) pe_int (fun _ _ => rfl)))
      (pss_cons (ps_if (PW.pt (pw_or (pt_not (pt_val (pe_call (ok__law_whole T) (hr.mono (by first | decide | omega)) rfl T._law_whole.g T._law_whole.F.kp T._law_whole.b .nil pass0 (pa_cons (pv 4) pa_nil)))) (pw_or (pt_not (pt_val (pe_ix ix_tup (pv 1) pe_int (fun _ _ => rfl)))) (pw_or (pt_cmpR op_lt (pv 4) pe_int (nomark _)) (pw_or1 (pt_cmpR op_gt (pv 4) (pe_op op_add (pe_callB call_len_seq (by rfl) T.n_len (by decide +kernel) (pa_cons (pv 3) pa_nil)) pe_int) (nomark _))))))) (pss_one (ps_ret pe_bl)) pss_nil)
      (pss_cons (ps_set (i := 5) sc__law_any.nd rfl (Or.inl rfl) (pe_lst pa_nil))
      (C8.pss_cut (ps_if (pt_cmpR op_gt (pv 4) pe_int (nomark _)) (pss_cons (ps_set (i := 5) sc__law_any.nd rfl (Or.inl rfl) (pe_call (ok__law_ends T) (hr.mono (by first | decide | omega)) rfl T._law_ends.g T._law_ends.F.kp T._law_ends.b .nil pass0 (pa_cons (pe_call (ok__law_open T) (hr.mono (by first | decide | omega)) rfl T._law_open.g T._law_open.F.kp T._law_open.b .nil pass0 (pa_cons (pe_slice sl_list (pv 3) po_none (po_some (pe_op op_sub (pv 4) pe_int))) pa_nil)) pa_nil)))
      (pss_one (ps_if (pt_not (pt_val (pe_ix ix_tup (pe_call (ok__law_read T) (hr.mono (by first | decide | omega)) rfl T._law_read.g T._law_read.F.kp T._law_read.b .nil pass0 (pa_cons (pe_join pe_str (pe_op op_cat (pe_slice sl_list (pv 3) po_none (po_some (pe_op op_sub (pv 4) pe_int))) (pv 5))) pa_nil)) pe_int (fun _ _ => rfl)))) (pss_one (ps_ret pe_bl)) pss_nil))) pss_nil)
      (pss_one (ps_ret (pe_or (pe_cmpR op_gt (pv 4) (pe_callB call_len_seq (by rfl) T.n_len (by decide +kernel) (pa_cons (pv 3) pa_nil)) (nomark _)) (pe_one (pe_cmpR (op_eqD hr.units) (pe_slice sl_tup (pe_call (ok__law_read T) (hr.mono (by first | decide | omega)) rfl T._law_read.g T._law_read.F.kp T._law_read.b .nil pass0 (pa_cons (pe_join pe_str (pe_slice sl_list (pv 3) po_none (po_some (pv 4)))) pa_nil)) po_none (po_some pe_int)) (pe_tup (pa_cons pe_bl (pa_cons (pv 4) pa_nil))) (nomark _))))))))))))), ?_⟩
    have e16 : sizeLine = 16777216 := rfl
    refine ⟨_, rfl, text, rfl, by omega, fun e H1 p v hp hv S1 => ?_, fun n e H1 p hp S1 => ?_⟩
    · refine ⟨_, rfl, p, _, 0, .bl true, rfl, rfl, SqT.of hp, at_of (j := 0) rfl rfl, _, rfl, iteT ?_⟩
      refine ⟨_, rfl, p, _, 1, v, rfl, rfl, SqT.of hp, at_of (j := 1) rfl rfl, v, text, rfl, hv, by omega, fun H2 S2 => ?_⟩
      refine ⟨_, rfl, ⟨_, _, _, _, true, rfl, .ty _, .base (.str _), kit_ty (by decide +kernel), _, rfl, iteT ⟨_, rfl, _, rfl, rfl, ?_⟩⟩⟩
      rw [dec_eq rfl]
      exact k _
    · have hne := rowsOf_ne text
      obtain ⟨a1, a2, a3, a4⟩ := any_some e hne
      have rcnt := rows_cnt text
      have rl := wt_split (y := nl1) (by decide +kernel) (rowsOf text)
      rw [join_rows] at rl
      refine ⟨_, rfl, p, _, 0, .bl false, rfl, rfl, SqT.of hp, at_of (j := 0) rfl rfl, _, rfl, iteF ?_⟩
      refine ⟨_, rfl, ⟨_, rfl⟩, _, _, rfl, rfl, by decide +kernel, by omega, fun R hR => ?_⟩
      rw [rows_eq]
      have hp2 := Same.laid (o := .lst ((rowsOf text).map V.str)) hR _ _ hp
      obtain ⟨G, eG⟩ : ∃ G, G = upd H1 R (.lst ((rowsOf text).map V.str)) := ⟨_, rfl⟩
      have hRR : G R = some (.lst ((rowsOf text).map V.str)) := by rw [eG]; exact upd_same
      rw [← eG] at hp2 ⊢
      refine ⟨_, rfl, p, _, 1, .int n, rfl, rfl, SqT.of hp2, at_of (j := 1) rfl rfl, ?_⟩
      refine ⟨_, rfl, _, rfl, _, rfl, iteF ⟨_, rfl, p, _, 2, .bl true, rfl, rfl, SqT.of hp2, at_of (j := 2) rfl rfl, _, rfl, iteF ⟨_, rfl, _, _, rfl, rfl, _, rfl, ?_⟩⟩⟩
      rw [decide_eq_false (show ¬ (n : Int) < 1 by omega)]
      refine iteF ⟨_, rfl, _, rfl, R, _, rfl, .inl (SqL.of hRR), _, _, rfl, rfl, _, _, rfl, rfl, _, rfl, ?_⟩
      rw [decide_eq_false (by rw [List.length_map]; omega)]
      refine iteF ⟨Nat.zero_le _, fun e0 he0 => ?_⟩
      have hRR2 := Same.laid (o := .lst []) he0 _ _ hRR
      have hp3 := Same.laid (o := .lst []) he0 _ _ hp2
      refine ⟨fun σ' H' => ∃ o, σ' = [some (.str text), some (.ref p), none, some (.ref R), some (.int n), some o] ∧ H' R = some (.lst ((rowsOf text).map V.str)), ?_, ?_⟩
      · refine ⟨_, rfl, _, _, rfl, rfl, _, rfl, ?_⟩
        refine ite2 (fun h => ?_) (fun h => ⟨_, rfl, hRR2⟩)
        have h1 : 1 < n := by have := of_decide_eq_true h; omega
        obtain ⟨s, hrun, hw, hread⟩ := a3 h1
        have hso := step_len_runP hrun (show SOk [] from ⟨by decide, by simp⟩)
        obtain ⟨r0, rs, er⟩ : ∃ r0 rs, (rowsOf text).take (n - 1) = r0 :: rs := by
          cases q : (rowsOf text).take (n - 1) with
          | nil =>
            have := congrArg List.length q
            rw [List.length_take, List.length_nil] at this
            have : 0 < (rowsOf text).length := List.length_pos_iff.mpr hne
            omega
          | cons a r => exact ⟨a, r, rfl⟩
        have ec : cutV ((rowsOf text).map V.str) none (some ((n : Int) - 1)) = ((rowsOf text).take (n - 1)).map V.str := by
          rw [show (n : Int) - 1 = ((n - 1 : Nat) : Int) by omega, cut_hi (by rw [List.length_map]; omega), ← List.map_take]
        have hw0 : rowP r0 = some .width := by
          have : (rowsOf text).headD "" = r0 := by
            cases q : rowsOf text with
            | nil => exact absurd q hne
            | cons a r =>
              rw [q] at er
              rw [show n - 1 = (n - 2) + 1 by omega, List.take_succ_cons] at er
              cases er
              rfl
          rw [← this]
          exact hw
        have htl : ((rowsOf text).take (n - 1)).tail = rs := by rw [er]; rfl
        rw [htl] at hrun
        refine ⟨_, rfl, _, rfl, _, _, rfl, rfl, _, rfl, R, _, rfl, SqL.of hRR2, fun q1 hq1 => ?_⟩
        rw [ec]
        have hRR3 := Same.laid (o := .lst (((rowsOf text).take (n - 1)).map V.str)) hq1 _ _ hRR2
        refine ⟨q1, r0, rs, s, rfl, by rw [upd_same, er], hw0, hrun, fun r hr2 => ?_, ?_, fun H4 d hd4 S4 => ⟨d, s, rfl, hd4, hso.1, fun H5 d5 hd5 S5 => ?_⟩⟩
        · rw [← er] at hr2
          have := rows_sm text (List.mem_of_mem_take hr2)
          omega
        · rw [← er, List.length_take]
          omega
        have hRR5 := S5 _ _ (S4 _ _ hRR3)
        refine ⟨⟨_, rfl⟩, _, rfl, _, rfl, _, _, rfl, rfl, _, rfl, R, _, rfl, SqL.of hRR5, fun q2 hq2 => ?_⟩
        rw [ec]
        have wtk := wt_take_drop (rowsOf text) (n - 1)
        have wen := ends_wt s
        have h6 := hso.1
        have wl : wt ((rowsOf text).take (n - 1) ++ endsP s) ≤ text.length + 70 := by rw [wt_app]; omega
        refine ⟨_, rfl, cat_ll upd_same (Same.laid hq2 _ _ hd5) (by have := wt_len ((rowsOf text).take (n - 1)); have := ends_len s; omega) fun H6 q3 hq3 S6 e6 => ?_⟩
        refine ⟨nl1, q3, _, rfl, rfl, .inl (SqL.of e6), ?_, ?_⟩
        · rw [show nl1.length = 1 by decide +kernel, wt_sum]
          omega
        have hjr : rowsOf (Txt.join nl1 ((rowsOf text).take (n - 1) ++ endsP s)) = (rowsOf text).take (n - 1) ++ endsP s := rows_join (by rw [er]; simp) fun r hr2 => by
          rcases List.mem_append.mp hr2 with h | h
          · exact rows_free text r (List.mem_of_mem_take h)
          · exact ends_nl s r h
        have jl := join_wt nl1 (by decide +kernel) ((rowsOf text).take (n - 1) ++ endsP s)
        refine ⟨_, rfl, by omega, fun _ H7 p7 v7 hp7 _ S7 => ?_, fun n7 e7 => ?_⟩
        · refine ⟨p7, _, 0, .bl true, rfl, rfl, SqT.of hp7, at_of (j := 0) rfl rfl, _, rfl, iteF ⟨_, rfl, ?_⟩⟩
          exact S7 _ _ (S6 _ _ (Same.laid hq2 _ _ hRR5))
        · rw [hjr, hread] at e7
          cases e7
      · rintro σ' H4 ⟨o, rfl, hR4⟩
        refine ⟨_, rfl, _, rfl, R, _, rfl, .inl (SqL.of hR4), _, _, rfl, rfl, _, rfl, ?_⟩
        refine ite2 (fun _ => k _) (fun h => ?_)
        have h1 : n ≤ (rowsOf text).length := by simpa using h
        have hread := a4 h1
        have ec : cutV ((rowsOf text).map V.str) none (some (n : Int)) = ((rowsOf text).take n).map V.str := by rw [cut_hi (by rw [List.length_map]; omega), ← List.map_take]
        refine ⟨⟨_, rfl⟩, _, rfl, _, rfl, _, rfl, R, _, rfl, SqL.of hR4, fun q1 hq1 => ?_⟩
        rw [ec]
        have wtk := wt_take_drop (rowsOf text) n
        have hjr : rowsOf (Txt.join nl1 ((rowsOf text).take n)) = (rowsOf text).take n := rows_join (fun z => by
          have := congrArg List.length z
          rw [List.length_take, List.length_nil] at this
          omega) fun r hr2 => rows_free text r (List.mem_of_mem_take hr2)
        have jl := join_wt nl1 (by decide +kernel) ((rowsOf text).take n)
        refine ⟨nl1, q1, _, rfl, rfl, .inl (SqL.of upd_same), ?_, ?_⟩
        · rw [show nl1.length = 1 by decide +kernel, wt_sum]
          omega
        refine ⟨_, rfl, by omega, fun e7 => ?_, fun n7 e7 H7 p7 hp7 S7 => ?_⟩
        · rw [hjr, hread] at e7
          cases e7
        · rw [hjr, hread] at e7
          cases e7
          refine ⟨_, rfl, p7, _, rfl, SqT.of hp7, cut2_whole, fun q2 hq2 => ?_⟩
          rw [cut2]
          refine ⟨_, rfl, sz2, fun q3 hq3 => ?_⟩
          exact cmp_bi rfl (Same.laid hq3 _ _ upd_same) upd_same (k _)
end
end BD
/-! W34: the law. -/
namespace BD
open PySem PySem.Spec L2 TL
open PyProof.Rows hiding St
local macro_rules | `(tactic| walk_at "p") => `(tactic| (show (0 : Int) < _; decide))
def headsL : Ws := ["width", "width x", "Width 2", "", "width 2 ", "width 1 2", "end", "flat x 0 1 2 count of all"]
theorem heads_ok : ∀ x ∈ headsL, rowP x ≠ some .width ∧ 10 ∉ tl x ∧ x.length ≤ 200 := by decide +kernel
theorem cut_neg {xs : List V} (h : 1 ≤ xs.length) : cutV xs none (some (-1)) = xs.take (xs.length - 1) := by
  unfold cutV
  rw [HT.sIx_none]
  have e : HT.sIx xs.length xs.length (some (-1)) = xs.length - 1 := by
    show (if (-1 : Int) < 0 then ((-1 : Int) + (xs.length : Int)).toNat else min (-1 : Int).toNat xs.length) = _
    rw [if_pos (by omega)]
    omega
  rw [e]
  simp
theorem bad_line {x : Str} (h : BadR x) (s : List BK) : lineP x s = none := by
  unfold lineP
  rcases h.1 with e | e
  · rw [e]
  · rw [e]; rfl
theorem at_neg {xs : List V} {x : V} (h : xs[xs.length - 1]? = some x) : atI xs (-1) = some x := by
  have hl : xs.length - 1 < xs.length := (List.getElem?_eq_some_iff.mp h).1
  unfold atI ixN
  rw [if_neg (by omega), if_pos (by omega)]
  show xs[((-1 : Int) + (xs.length : Int)).toNat]? = _
  rw [show ((-1 : Int) + (xs.length : Int)).toNat = xs.length - 1 by omega]
  exact h
section
variable {P : Program} {w : World} {K : PySem.W.Frag} {mg : Str → Option Value} {base : Heap}
def sp_law (K : PySem.W.Frag) : Sp := fun vs H Q _ => ∃ (a : Addr) (ns : List Int), vs = [.ref a] ∧ SqL K H a (ns.map V.int) ∧ ns.length ≤ 63 ∧ ∀ H', Q (.bl true) H'
theorem sc_law : FnScope ["_law_script", "_law_program", "_law_lines", "_law_cell", "_law_way", "_law_text", "_law_k", "_law_at_here", "_law_heads", "_law_bad", "_law_rows"] ["_law_script"] (defScope (top 66)) := ⟨rfl, rfl, rfl, by decide +kernel, rfl, by decide +kernel, by decide +kernel⟩
theorem ok_law (T : Txt K mg w) : FnOk P w K mg base CX0 50 T.law.f T.law.fd ["_law_script"] (sp_law K) := by
  refine T.law.F.ok sc_law (fun vs H Q E h => ?_) (fun cdv A outer s0 H vs Q E hr h => ?_)
  · obtain ⟨a, ns, rfl, _⟩ := h
    rfl
  · obtain ⟨a, ns, rfl, hsq, hns, k⟩ := h
    refine ⟨_, (pss_cons (ps_asg (pe_call (ok__law_built T) (hr.mono (by first | decide | omega)) rfl T._law_built.g T._law_built.F.kp T._law_built.b .nil pass0 (pa_cons (pe_slice sl_list (pv 0) (po_some pe_int) po_none) pa_nil)) (pg_tup rfl (pgs_cons (pg_name (i := 1) sc_law.nd rfl (Or.inl rfl)) (pgs_cons (pg_name (i := 2) sc_law.nd rfl (Or.inl rfl)) pgs_nil))))
      (pss_cons (ps_set (i := 3) sc_law.nd rfl (Or.inl rfl) (pe_op op_mod (pe_call (ok__law_at T) (hr.mono (by first | decide | omega)) rfl T._law_at.g T._law_at.F.kp T._law_at.b .nil pass0 (pa_cons (pv 0) (pa_cons pe_int pa_nil))) (pe_op op_pow pe_int pe_int)))
      (pss_cons (ps_set (i := 4) sc_law.nd rfl (Or.inl rfl) (pe_op op_mod (pe_call (ok__law_at T) (hr.mono (by first | decide | omega)) rfl T._law_at.g T._law_at.F.kp T._law_at.b .nil pass0 (pa_cons (pv 0) (pa_cons pe_int pa_nil))) pe_int))
      (pss_cons (ps_if (pt_cmpR op_gt (pv 4) pe_int (nomark _)) (pss_cons (ps_set (i := 5) sc_law.nd rfl (Or.inl rfl) (pe_join pe_str (pv 2)))
      (pss_cons (ps_for PassesOwn.never rfl (pi_range1 rfl T.n_range (pa_cons (pe_op op_add pe_int (pe_op op_mod (pv 3) pe_int)) pa_nil)) (pg_name (i := 6) sc_law.nd rfl (Or.inl rfl)) (pss_one (ps_set (i := 5) sc_law.nd rfl (Or.inl rfl) (pe_call (ok__law_changed T) (hr.mono (by first | decide | omega)) rfl T._law_changed.g T._law_changed.F.kp T._law_changed.b .nil pass0 (pa_cons (pv 5) (pa_cons (pe_op op_add (pe_op op_fdiv (pv 3) (pe_op op_add pe_int (pv 6))) (pv 6)) pa_nil))))))
      (pss_one (ps_ret (pe_call (ok__law_any T) (hr.mono (by first | decide | omega)) rfl T._law_any.g T._law_any.F.kp T._law_any.b .nil pass0 (pa_cons (pv 5) pa_nil)))))) pss_nil)
      (pss_cons (ps_set (i := 7) sc_law.nd rfl (Or.inl rfl) (pe_op op_mod (pe_call (ok__law_at T) (hr.mono (by first | decide | omega)) rfl T._law_at.g T._law_at.F.kp T._law_at.b .nil pass0 (pa_cons (pv 0) (pa_cons pe_int pa_nil))) (pe_op op_add (pe_callB call_len_seq (by rfl) T.n_len (by decide +kernel) (pa_cons (pv 2) pa_nil)) pe_int)))
      (pss_cons (ps_if (pt_cmpR op_eq (pv 4) pe_int (nomark _)) (pss_cons (ps_set (i := 8) sc_law.nd rfl (Or.inl rfl) (pe_lst (pa_strs (by rfl))))
      (pss_one (ps_ret (pe_cmpR (op_eqD hr.units) (pe_slice sl_tup (pe_call (ok__law_read T) (hr.mono (by first | decide | omega)) rfl T._law_read.g T._law_read.F.kp T._law_read.b .nil pass0 (pa_cons (pe_join pe_str (pe_op op_cat (pe_lst (pa_cons (pe_ix ix_list (pv 8) (pe_op op_mod (pv 3) pe_int) (fun _ _ => rfl)) pa_nil)) (pe_slice sl_list (pv 2) (po_some pe_int) po_none))) pa_nil)) (po_some pe_int) po_none) (pe_tup (pa_cons pe_int (pa_cons pe_bl pa_nil))) (nomark _))))) pss_nil)
      (pss_cons (ps_if (PW.pt (pw_and (pt_cmpR op_eq (pv 4) pe_int (nomark _)) (pw_and1 (pt_cmpR op_eq (pe_ix ix_list (pv 2) (pe_un un_neg pe_int) (fun _ _ => rfl)) pe_str (nomark _))))) (pss_one (ps_ret (pe_cmpR (op_eqD hr.units) (pe_slice sl_tup (pe_call (ok__law_read T) (hr.mono (by first | decide | omega)) rfl T._law_read.g T._law_read.F.kp T._law_read.b .nil pass0 (pa_cons (pe_join pe_str (pe_slice sl_list (pv 2) po_none (po_some (pe_un un_neg pe_int)))) pa_nil)) (po_some pe_int) po_none) (pe_tup (pa_cons (pe_callB call_len_seq (by rfl) T.n_len (by decide +kernel) (pa_cons (pv 2) pa_nil)) (pa_cons pe_bl pa_nil))) (nomark _)))) pss_nil)
      (pss_cons (ps_set (i := 9) sc_law.nd rfl (Or.inl rfl) (pe_call (ok__law_bad_row T) (hr.mono (by first | decide | omega)) rfl T._law_bad_row.g T._law_bad_row.F.kp T._law_bad_row.b .nil pass0 (pa_cons (pv 3) pa_nil)))
      (C8.pss_cut (ps_if (pt_cmpR op_eq (pv 4) pe_int (nomark _)) (pss_one (ps_set (i := 9) sc_law.nd rfl (Or.inl rfl) (pe_call (ok__law_not_here T) (hr.mono (by first | decide | omega)) rfl T._law_not_here.g T._law_not_here.F.kp T._law_not_here.b .nil pass0 (pa_cons (pv 3) (pa_cons (pe_call (ok__law_open T) (hr.mono (by first | decide | omega)) rfl T._law_open.g T._law_open.F.kp T._law_open.b .nil pass0 (pa_cons (pe_slice sl_list (pv 2) po_none (po_some (pe_callB (call_max2 rfl) (by rfl) T.n_max (by decide +kernel) (pa_cons pe_int (pa_cons (pv 7) pa_nil))))) pa_nil)) pa_nil))))) pss_nil)
      (pss_cons (ps_set (i := 10) sc_law.nd rfl (Or.inl rfl) (pe_op op_cat (pe_op op_cat (pe_slice sl_list (pv 2) po_none (po_some (pe_callB (call_max2 rfl) (by rfl) T.n_max (by decide +kernel) (pa_cons pe_int (pa_cons (pv 7) pa_nil))))) (pe_lst (pa_cons (pv 9) pa_nil))) (pe_slice sl_list (pv 2) (po_some (pe_callB (call_max2 rfl) (by rfl) T.n_max (by decide +kernel) (pa_cons pe_int (pa_cons (pv 7) pa_nil)))) po_none)))
      (pss_one (ps_ret (pe_cmpR (op_eqD hr.units) (pe_slice sl_tup (pe_call (ok__law_read T) (hr.mono (by first | decide | omega)) rfl T._law_read.g T._law_read.F.kp T._law_read.b .nil pass0 (pa_cons (pe_join pe_str (pv 10)) pa_nil)) (po_some pe_int) po_none) (pe_tup (pa_cons (pe_op op_add (pe_callB (call_max2 rfl) (by rfl) T.n_max (by decide +kernel) (pa_cons pe_int (pa_cons (pv 7) pa_nil))) pe_int) (pa_cons pe_bl pa_nil))) (nomark _)))))))))))))), ?_⟩
    have e16 : sizeLine = 16777216 := rfl
    refine ⟨_, rfl, _, rfl, a, _, rfl, hsq, fun t ht => ?_⟩
    obtain ⟨ns', hcut, hns'⟩ : ∃ ns' : List Int, cutV (ns.map V.int) (some 3) none = ns'.map V.int ∧ ns'.length ≤ 63 := by
      refine ⟨(ns.drop (HT.sIx (ns.map V.int).length 0 (some 3))).take (HT.sIx (ns.map V.int).length (ns.map V.int).length none - HT.sIx (ns.map V.int).length 0 (some 3)), ?_, ?_⟩
      · unfold cutV
        rw [← List.map_drop, ← List.map_take]
      · rw [List.length_take, List.length_drop]
        omega
    rw [hcut]
    refine ⟨t, ns', rfl, SqL.of upd_same, hns', fun H1 p v l r0 rs hp hl hw hrun hnl hwt hln S1 => ⟨p, _, rfl, SqT.of hp, rfl, _, _, rfl, _, _, rfl, rfl, ?_⟩⟩
    have hsq1 : SqL K H1 a (ns.map V.int) := sqL_same (Same.trans' (Same.laid ht) S1) hsq
    have lne : (r0 :: rs) ≠ [] := by simp
    have hjr := rows_join lne hnl
    have jl := join_wt nl1 (by decide +kernel) (r0 :: rs)
    have llen : ((r0 :: rs).map V.str).length = rs.length + 1 := by simp
    refine ⟨_, rfl, a, ns, 0, rfl, hsq1, hns, by decide, by decide, fun z1 => ⟨_, _, rfl, rfl, ⟨by decide, by decide, by decide⟩, _, _, rfl, rfl, by walk_at "p", ?_⟩⟩
    refine ⟨_, rfl, a, ns, 1, rfl, hsq1, hns, by decide, by decide, fun z2 => ⟨_, _, rfl, rfl, by walk_at "p", ?_⟩⟩
    refine ⟨_, rfl, _, _, rfl, rfl, _, rfl, ?_⟩
    refine ite2 (fun _ => ?_) (fun _ => ?_)
    · -- changed texts
      refine ⟨⟨_, rfl⟩, _, rfl, nl1, l, r0 :: rs, rfl, rfl, .inl (SqL.of hl), join_ok (b := 600000) hwt (by decide), ?_⟩
      obtain ⟨m, hm, m3⟩ : ∃ m : Nat, 1 + z1 % 10 ^ (30 : Int).toNat % 3 = (m : Int) ∧ m ≤ 3 := by
        have h0 := Int.emod_nonneg (z1 % 10 ^ (30 : Int).toNat) (show (3 : Int) ≠ 0 by decide)
        have h1 := Int.emod_lt_of_pos (z1 % 10 ^ (30 : Int).toNat) (show (0 : Int) < 3 by decide)
        exact ⟨(1 + z1 % 10 ^ (30 : Int).toNat % 3).toNat, by omega, by omega⟩
      refine ⟨_, rfl, _, _, rfl, rfl, by walk_at "p", _, _, rfl, rfl, _, rfl, by omega, by omega, ?_⟩
      rw [show (1 + z1 % 10 ^ (30 : Int).toNat % 3).toNat = m by omega]
      refine for_range (lo := 0) (n := m) (fun i σ' H' => ∃ (x : Str) (o1 o2 o4 o6 : Option V), σ' = [some (.ref a), o1, o2, some (.int (z1 % 10 ^ (30 : Int).toNat)), o4, some (.str x), o6, none, none, none, none] ∧ x.length + 2 ≤ 600002 * 2 ^ i) ?_ ?_ ?_
      · exact ⟨_, _, _, _, _, rfl, by simp only [Nat.pow_zero]; omega⟩
      · rintro i σ H2 hi ⟨x, o1, o2, o4, o6, rfl, hx⟩
        have h4 : 2 ^ i ≤ 2 ^ 2 := Nat.pow_le_pow_right (by decide) (by omega)
        refine ⟨_, rfl, _, rfl, _, rfl, _, _, rfl, rfl, _, _, rfl, rfl, ⟨by omega, by omega⟩, _, rfl, _, _, rfl, rfl, x, _, rfl, by omega, fun y H3 hy S3 => ⟨y, _, _, _, _, rfl, ?_⟩⟩
        rw [Nat.pow_succ]
        omega
      · rintro σ H2 ⟨x, o1, o2, o4, o6, rfl, hx⟩
        have h4 : 2 ^ m ≤ 2 ^ 3 := Nat.pow_le_pow_right (by decide) m3
        exact ⟨_, rfl, x, rfl, by omega, k⟩
    have hp2 : (0 : Int) < ((((r0 :: rs).map V.str).length : Nat) : Int) + 1 := by omega
    refine ⟨_, rfl, a, ns, 2, rfl, hsq1, hns, by decide, by decide, fun z3 => ⟨_, rfl, l, _, rfl, .inl (SqL.of hl), _, _, rfl, rfl, _, _, rfl, rfl, hp2, ?_⟩⟩
    obtain ⟨at0, hat, hat1⟩ : ∃ at0 : Nat, z3 % (((((r0 :: rs).map V.str).length : Nat) : Int) + 1) = (at0 : Int) ∧ at0 ≤ rs.length + 1 := by
      have h1 := Int.emod_nonneg z3 (show (((((r0 :: rs).map V.str).length : Nat) : Int) + 1) ≠ 0 by omega)
      have h2 := Int.emod_lt_of_pos z3 hp2
      rw [llen] at h1 h2 ⊢
      exact ⟨_, (Int.toNat_of_nonneg h1).symm, by omega⟩
    -- what read says at a refused text
    have said : ∀ (ls : Ws) (n : Nat), readP ls = some n → (∀ r ∈ ls, 10 ∉ tl r) → ls ≠ [] → wt ls ≤ 1000000 → (Txt.join nl1 ls).length + 4 ≤ sizeLine ∧ readP (rowsOf (Txt.join nl1 ls)) = some n := fun ls n hr hn he hwl => by
      have h1 := rows_join he hn
      have h2 := join_wt nl1 (by decide +kernel) ls
      exact ⟨by omega, by rw [h1]; exact hr⟩
    refine ⟨_, rfl, rfl, _, rfl, ?_⟩
    refine ite2 (fun _ => ?_) (fun _ => ?_)
    · -- another first row
      refine ⟨(sz1000 (by decide) : (headsL.map V.str).length ≤ sizeLine), fun hh hhh => ?_⟩
      obtain ⟨j, x, ej, hx⟩ := mod_at (l := headsL.map V.str) (c := z1 % 10 ^ (30 : Int).toNat) (n := 8) rfl (by decide)
      obtain ⟨y, hy, rfl⟩ := List.mem_map.mp (List.mem_of_getElem? hx)
      obtain ⟨y1, y2, y3⟩ := heads_ok y hy
      have hl2 := Same.laid (o := .lst (headsL.map V.str)) hhh _ _ hl
      refine ⟨⟨_, rfl⟩, _, rfl, _, rfl, _, _, rfl, rfl, by walk_at "p", hh, headsL.map V.str, _, .str y, rfl, rfl, SqL.of upd_same, at_of ej hx, sz1, fun u hu => ⟨_, rfl, _, rfl, l, _, rfl, SqL.of (Same.laid hu _ _ hl2), fun q hq => ?_⟩⟩
      have ec : cutV ((r0 :: rs).map V.str) (some 1) none = rs.map V.str := cut1
      rw [ec]
      have w1 : wt rs ≤ wt (r0 :: rs) := by rw [wt_cons]; omega
      have lrs := wt_len rs
      refine cat_ll (pre := [y]) (ws := rs) (Same.laid hq _ _ upd_same) upd_same (by simp only [List.length_cons, List.length_nil]; omega) fun H2 q2 hq2 S2 e2 => ?_
      have wy : wt ([y] ++ rs) ≤ 1000000 := by rw [wt_app, wt_one]; omega
      refine ⟨nl1, q2, _, rfl, rfl, .inl (SqL.of e2), join_ok (b := 1000000) wy (by decide), ?_⟩
      have hread : readP ([y] ++ rs) = some 1 := by show (if rowP y = some .width then _ else some 1) = some 1; rw [if_neg y1]
      obtain ⟨sd1, sd2⟩ := said _ 1 hread (fun r hr2 => (by
        rcases List.mem_cons.mp hr2 with h | h
        · rw [h]; exact y2
        · exact hnl r (List.mem_cons_of_mem _ h))) (by simp) wy
      refine ⟨_, rfl, sd1, fun e => ?_, fun n2 e H3 p3 hp3 S3 => ?_⟩
      · rw [sd2] at e
        cases e
      · rw [sd2] at e
        cases e
        refine ⟨_, rfl, p3, _, rfl, SqT.of hp3, cut1_whole, fun q4 hq4 => ?_⟩
        rw [cut1]
        exact ⟨sz2, fun q5 hq5 => cmp_ib rfl (Same.laid hq5 _ _ upd_same) upd_same (k _)⟩
    -- the last row left out
    obtain ⟨ll, hll⟩ : ∃ ll : Str, ((r0 :: rs).map V.str)[((r0 :: rs).map V.str).length - 1]? = some (.str ll) ∧ (r0 :: rs)[rs.length]? = some ll := by
      refine ⟨(r0 :: rs)[rs.length]'(by simp), ?_, List.getElem?_eq_getElem _⟩
      rw [llen, Nat.add_sub_cancel, List.getElem?_map, List.getElem?_eq_getElem (by simp)]
      rfl
    have tst : ∀ (σ : L2.St) (wv : Int), σ[4]? = some (some (.int wv)) → σ[2]? = some (some (.ref l)) → Tells (tAnd (tTest (tOp rEq (tVar 4) (tC (.int 3)))) (tTest (tOp rEq (tOp (rIxL K) (tVar 2) (tUn (rU fun i => .int (-i)) (tC (.int 1)))) (tC (.str "end"))))) σ H1 (decide (wv = 3) && decide (ll = "end")) := fun σ wv h4 h2 => (tells_eq h4).and (fun Q q => by
      refine ⟨_, h2, _, rfl, l, _, _, .str ll, rfl, rfl, SqL.of hl, at_neg hll.1, rfl, _, rfl, ?_⟩
      by_cases e : ll = "end"
      · rw [dec_eq e]
        rw [decide_eq_true e] at q
        exact q
      · rw [dec_ne e]
        rw [decide_eq_false e] at q
        exact q)
    refine tst _ (z2 % 8) rfl rfl _ ?_
    cases hb : (decide (z2 % 8 = 3) && decide (ll = ("end" : Str))) with
    | true =>
      rw [Bool.and_eq_true, decide_eq_true_eq, decide_eq_true_eq] at hb
      obtain ⟨_, hend⟩ := hb
      have hrs : ∃ rs', rs = rs' ++ [("end" : Str)] := by
        rcases List.eq_nil_or_concat rs with e | ⟨rs', x, e⟩
        · exfalso
          rw [e] at hll
          have h2 := hll.2
          simp at h2
          rw [h2, hend, row_end] at hw
          cases hw
        · refine ⟨rs', ?_⟩
          rw [List.concat_eq_append] at e
          have h2 := hll.2
          rw [e] at h2
          rw [List.length_append, ← List.cons_append, List.getElem?_append_right (by simp)] at h2
          simp at h2
          rw [e, h2, hend]
      obtain ⟨rs', rfl⟩ := hrs
      have ec : cutV ((r0 :: (rs' ++ [("end" : Str)])).map V.str) none (some (-1)) = (r0 :: rs').map V.str := by
        rw [cut_neg (by simp), ← List.map_take]
        congr 1
        rw [llen, List.length_append, ← List.cons_append]
        simp
      refine iteT ⟨⟨_, rfl⟩, _, rfl, _, rfl, _, rfl, l, _, rfl, SqL.of hl, fun q hq => ?_⟩
      rw [ec]
      have hl2 := Same.laid (o := .lst ((r0 :: rs').map V.str)) hq _ _ hl
      have hwt1 : wt (r0 :: rs') ≤ 600000 := by
        rw [← List.cons_append, wt_app] at hwt
        omega
      refine ⟨nl1, q, _, rfl, rfl, .inl (SqL.of upd_same), join_ok (b := 1000000) (by omega) (by decide), ?_⟩
      have hread := end_lacks (a := rs') hw hrun
      obtain ⟨sd1, sd2⟩ := said _ (rs'.length + 2) hread (fun r hr2 => hnl r (by
        rcases List.mem_cons.mp hr2 with h | h
        · rw [h]; simp
        · exact List.mem_cons_of_mem _ (List.mem_append_left _ h))) (by simp) (by omega)
      refine ⟨_, rfl, sd1, fun e => by (rw [sd2] at e; cases e), fun n2 e H3 p3 hp3 S3 => ?_⟩
      rw [sd2] at e
      cases e
      refine ⟨_, rfl, p3, _, rfl, SqT.of hp3, cut1_whole, fun q4 hq4 => ?_⟩
      rw [cut1]
      refine ⟨_, rfl, l, _, rfl, .inl (SqL.of (Same.laid hq4 _ _ (S3 _ _ hl2))), sz2, fun q5 hq5 => cmp_ib ?_ (Same.laid hq5 _ _ upd_same) upd_same (k _)⟩
      rw [llen, List.length_append]
      rfl
    | false =>
      refine iteF ⟨_, rfl, _, rfl, fun x H2 hx S2 => ?_⟩
      obtain ⟨m, hm, m1, m2⟩ : ∃ m : Nat, (if z3 % (((((r0 :: rs).map V.str).length : Nat) : Int) + 1) > 1 then z3 % (((((r0 :: rs).map V.str).length : Nat) : Int) + 1) else 1) = (m : Int) ∧ 1 ≤ m ∧ m ≤ rs.length + 1 := by
        rw [hat]
        by_cases h : (at0 : Int) > 1
        · exact ⟨at0, if_pos h, by omega, by omega⟩
        · exact ⟨1, if_neg h, by omega, by omega⟩
      obtain ⟨s1, hs1⟩ := runP_take hrun (m - 1)
      have hso := step_len_runP hs1 (show SOk [] from ⟨by decide, by simp⟩)
      have htk : (r0 :: rs).take m = r0 :: rs.take (m - 1) := by
        rw [show m = (m - 1) + 1 by omega, List.take_succ_cons, Nat.add_sub_cancel]
      have ec1 : cutV ((r0 :: rs).map V.str) none (some (if z3 % (((((r0 :: rs).map V.str).length : Nat) : Int) + 1) > 1 then z3 % (((((r0 :: rs).map V.str).length : Nat) : Int) + 1) else 1)) = ((r0 :: rs).take m).map V.str := by
        rw [hm, cut_hi (by rw [llen]; omega), ← List.map_take]
      have ec2 : cutV ((r0 :: rs).map V.str) (some (if z3 % (((((r0 :: rs).map V.str).length : Nat) : Int) + 1) > 1 then z3 % (((((r0 :: rs).map V.str).length : Nat) : Int) + 1) else 1)) none = ((r0 :: rs).drop m).map V.str := by
        rw [hm, cut_lo (by rw [llen]; omega), ← List.map_drop]
      have hl2 := S2 _ _ hl
      refine ⟨fun σ' H' => ∃ x, σ' = [some (.ref a), some v, some (.ref l), some (.int (z1 % 10 ^ (30 : Int).toNat)), some (.int (z2 % 8)), none, none, some (.int (z3 % (((((r0 :: rs).map V.str).length : Nat) : Int) + 1))), none, some (.str x), none] ∧ lineP x s1 = none ∧ 10 ∉ tl x ∧ x.length ≤ 200 ∧ H' l = some (.lst ((r0 :: rs).map V.str)), ?_, ?_⟩
      · refine ⟨_, rfl, rfl, _, rfl, ?_⟩
        refine ite2 (fun _ => ?_) (fun _ => ⟨x, rfl, bad_line hx s1, hx.2.1, hx.2.2, hl2⟩)
        refine ⟨_, rfl, _, rfl, _, rfl, _, _, rfl, _, rfl, l, _, rfl, SqL.of hl2, fun q hq => ?_⟩
        rw [ec1]
        have hwa : wt (r0 :: rs) ≤ 600000 := hwt
        refine ⟨q, r0, rs.take (m - 1), s1, rfl, by rw [upd_same, htk], hw, hs1, fun r hr2 => ?_, ?_, fun H4 d hd4 S4 => ⟨_, d, s1, rfl, hd4, hso.1, fun y H5 hy S5 => ⟨y, rfl, hy.1, hy.2.1, hy.2.2, S5 _ _ (S4 _ _ (Same.laid hq _ _ hl2))⟩⟩⟩
        · rw [← htk] at hr2
          have := wt_mem (List.mem_of_mem_take hr2)
          omega
        · rw [← htk, List.length_take, List.length_cons]
          omega
      · rintro σ' H3 ⟨x, rfl, hx1, hx2, hx3, hl3⟩
        refine ⟨_, rfl, _, rfl, _, _, rfl, _, rfl, l, _, rfl, SqL.of hl3, fun q1 hq1 => ?_⟩
        rw [ec1]
        have wtd := wt_take_drop (r0 :: rs) m
        have lt := wt_len ((r0 :: rs).take m)
        have ld := wt_len ((r0 :: rs).drop m)
        have hl4 := Same.laid (o := .lst (((r0 :: rs).take m).map V.str)) hq1 _ _ hl3
        refine ⟨_, rfl, sz1, fun q2 hq2 => cat_ll (ws := [x]) (Same.laid hq2 _ _ upd_same) upd_same (by simp only [List.length_cons, List.length_nil]; omega) fun H4 q3 hq3 S4 e4 => ?_⟩
        have hl5 := S4 _ _ (Same.laid hq2 _ _ hl4)
        refine ⟨_, rfl, _, rfl, _, _, rfl, _, rfl, l, _, rfl, SqL.of hl5, fun q4 hq4 => ?_⟩
        rw [ec2]
        refine cat_ll (Same.laid hq4 _ _ e4) upd_same (by rw [List.length_append]; simp only [List.length_cons, List.length_nil]; omega) fun H5 q5 hq5 S5 e5 => ?_
        have wall : wt ((r0 :: rs).take m ++ [x] ++ (r0 :: rs).drop m) ≤ 1000000 := by
          rw [wt_app, wt_app, wt_one]
          omega
        refine ⟨⟨_, rfl⟩, _, rfl, nl1, q5, _, rfl, rfl, .inl (SqL.of e5), join_ok (b := 1000000) wall (by decide), ?_⟩
        have hread : readP ((r0 :: rs).take m ++ [x] ++ (r0 :: rs).drop m) = some (m + 1) := by
          have := spoiled (a := rs.take (m - 1)) (b := (r0 :: rs).drop m) hw hs1 hx1
          rw [htk, List.append_assoc]
          show readP ((r0 :: rs.take (m - 1)) ++ x :: (r0 :: rs).drop m) = _
          rw [this, List.length_take]
          congr 1
          omega
        obtain ⟨sd1, sd2⟩ := said _ (m + 1) hread (fun r hr2 => (by
          rcases List.mem_append.mp hr2 with h | h
          · rcases List.mem_append.mp h with h | h
            · exact hnl r (List.mem_of_mem_take h)
            · cases List.mem_singleton.mp h
              exact hx2
          · exact hnl r (List.mem_of_mem_drop h))) (by rw [htk]; simp) wall
        refine ⟨_, rfl, sd1, fun e => ?_, fun n2 e H6 p6 hp6 S6 => ?_⟩
        · rw [sd2] at e
          cases e
        · rw [sd2] at e
          cases e
          refine ⟨_, rfl, p6, _, rfl, SqT.of hp6, cut1_whole, fun q7 hq7 => ?_⟩
          rw [cut1]
          refine ⟨_, rfl, _, _, rfl, _, _, rfl, rfl, sz2, fun q8 hq8 => cmp_ib ?_ (Same.laid hq8 _ _ upd_same) upd_same (k _)⟩
          rw [hm]
          omega
end
end BD
/-! W35: from facts of K to the text; the end. -/
namespace BD
open PySem PySem.Spec L2 TL
open PyProof.Rows hiding St
section
variable {K : PySem.W.Frag} {h : Heap} {mg : Str → Option Value} {w : World}
abbrev Fobj (oc : Value) (od : Option Addr) (x q : Str) (st : Stmt) (kV doc pm : Value) (an : Option Addr) (cdv ct : Value) (osl : Array (Option Value)) : Obj := ⟨oc, od, .func (PySem.W.fnOf x q (defArgs st) (defBody st) (defScope st) .none kV doc pm an cdv ct), osl⟩
abbrev BindH (x q : Str) (st : Stmt) (ps : List Str) : Prop := ∀ (kV doc pm : Value) (an : Option Addr) (cdv ct : Value) (us : List Value), us.length = ps.length → bindArgs (PySem.W.fnOf x q (defArgs st) (defBody st) (defScope st) .none kV doc pm an cdv ct) ⟨us, []⟩ = pure (ps.zip us)
theorem df_mk {x : Str} {st : Stmt} {ps : List Str} {f : Addr} {od an : Option Addr} {osl : Array (Option Value)} {oc kV doc pm cdv ct : Value} (X : K.In h) (G : h.Ns mainGlobals mg) (a : PySem.W.nsIn K mainGlobals x = some (some (.ref f)))
    (l : K.lookup f = some ⟨oc, od, .func (PySem.W.fnOf x x (defArgs st) (defBody st) (defScope st) .none kV doc pm an cdv ct), osl⟩) (c : PySem.W.codeIn K cdv x = true) (k : PySem.W.keepIn K (.ref f) = true) (hb : BindH x x st ps) : Nonempty (Df K mg x st ps) :=
  ⟨⟨f, _, fun_mk (st := st) l c k, PySem.W.mg_of X G a, (fun_mk (st := st) l c k).binds hb⟩⟩
theorem mf_mk {C : Addr} {m q : Str} {st : Stmt} {ps : List Str} {f : Addr} {od an : Option Addr} {osl : Array (Option Value)} {oc kV doc pm cdv ct : Value} (a : PySem.W.findIn K (.ref C) m = some (some (.ref f))) (i : PySem.W.isFn K (.ref f) = true)
    (l : K.lookup f = some ⟨oc, od, .func (PySem.W.fnOf m q (defArgs st) (defBody st) (defScope st) .none kV doc pm an cdv ct), osl⟩) (c : PySem.W.codeIn K cdv q = true) (k : PySem.W.keepIn K (.ref f) = true) (hb : BindH m q st ps) : Nonempty (Mf K C m q st ps) :=
  ⟨⟨f, _, fun_mk (st := st) l c k, ⟨a, i, k⟩, (fun_mk (st := st) l c k).binds hb⟩⟩
theorem cf_mk {C : Addr} {x q : Str} {st : Stmt} {ps : List Str} {f : Addr} {od an : Option Addr} {osl : Array (Option Value)} {oc kV doc pm cdv ct : Value} (X : K.In h) (G : h.Ns mainGlobals mg) (g : PySem.W.nsIn K mainGlobals x = some (some (.ref C))) (a : PySem.W.findIn K (.ref C) "__init__" = some (some (.ref f))) (i : PySem.W.isFn K (.ref f) = true)
    (mk : PySem.W.makesIn K C = true) (kc : PySem.W.keepIn K (.ref C) = true)
    (l : K.lookup f = some ⟨oc, od, .func (PySem.W.fnOf "__init__" q (defArgs st) (defBody st) (defScope st) .none kV doc pm an cdv ct), osl⟩) (c : PySem.W.codeIn K cdv q = true) (k : PySem.W.keepIn K (.ref f) = true) (hb : BindH "__init__" q st ps) : Nonempty (Cf K mg C x q st ps) :=
  ⟨⟨f, _, fun_mk (st := st) l c k, ⟨mk, a, i, kc⟩, PySem.W.mg_of X G g, (fun_mk (st := st) l c k).binds hb⟩⟩
theorem own_exm {S : Addr} (h1 : PySem.W.subIn K (.ref S) (.type "BaseException") = some true) (h2 : PySem.W.isClsIn K S = true) (h3 : PySem.W.typeIn K (.ref S) = some (.type "type")) (h4 : PySem.W.subIn K (.ref S) (.ref S) = some true) : PySem.W.exmOne K (.ref S) (.ref S) = some true := by
  have h2' : (PySem.W.clsIn K S).isSome = true := h2
  have e1 : (PySem.W.subIn K (.ref S) (.type "BaseException") == some true) = true := by rw [h1] <;> rfl
  have e2 : ((PySem.W.clsIn K S).isSome && PySem.W.typeIn K (.ref S) == some (.type "type")) = true := by
    rw [h2', h3] <;> rfl
  unfold PySem.W.exmOne
  first
    | (rw [if_pos e1, if_pos e2]; exact h4)
    | (show (if (PySem.W.subIn K (.ref S) (.type "BaseException") == some true) = true then (if ((PySem.W.clsIn K S).isSome && PySem.W.typeIn K (.ref S) == some (.type "type")) = true then PySem.W.subIn K (.ref S) (.ref S) else none) else none) = some true
       rw [if_pos e1, if_pos e2]
       exact h4)
theorem cst_str {x z : Str} {t : Tok} (X : K.In h) (G : h.Ns mainGlobals mg) (g : PySem.W.nsIn K mainGlobals x = some (some (.str z t))) : Cst mg x (.str z) := ⟨_, PySem.W.mg_of X G g, ⟨_, rfl⟩⟩
theorem cst_int {x : Str} {z : Int} {t : Tok} (X : K.In h) (G : h.Ns mainGlobals mg) (g : PySem.W.nsIn K mainGlobals x = some (some (.int z t))) : Cst mg x (.int z) := ⟨_, PySem.W.mg_of X G g, ⟨_, rfl⟩⟩
theorem cst_ref {x : Str} {a : Addr} (X : K.In h) (G : h.Ns mainGlobals mg) (g : PySem.W.nsIn K mainGlobals x = some (some (.ref a))) : Cst mg x (.ref a) := ⟨_, PySem.W.mg_of X G g, rfl⟩
/-- PARTS's entries -/
def findE : List DictEntry → Str → Option Value
  | [], _ => none
  | e :: r, z => if e.key.isStr z = true then some e.val else findE r z
theorem findE_ns {d : Addr} {es : Array DictEntry} {n : Nat} (l : K.lookup d = some ⟨.type "dict", none, .dict es n, #[]⟩) (hr : es.toList.any (·.refKey) = false) (z : Str) : PySem.W.nsIn K d z = some (findE es.toList z) := by
  have key : ∀ L : List DictEntry, L.any (·.refKey) = false → (match L.find? (·.key.isStr z) with | some e => some (some e.val) | none => if L.any (·.refKey) then none else some none) = some (findE L z) := fun L hL => by
    rw [hL]
    induction L with
    | nil => rfl
    | cons e r ih =>
      rw [List.any_cons, Bool.or_eq_false_iff] at hL
      unfold findE
      by_cases q : e.key.isStr z = true
      · rw [List.find?_cons_of_pos (p := fun x : DictEntry => x.key.isStr z) q, if_pos q]
      · rw [List.find?_cons_of_neg (p := fun x : DictEntry => x.key.isStr z) q, if_neg q]
        exact ih hL.2
  unfold PySem.W.nsIn
  rw [l]
  exact key es.toList hr
def partsL : List (Str × Int) := [("not", 1), ("add", 2), ("sub", 2), ("mul", 2), ("quo", 2), ("less", 2), ("same", 2), ("both", 2), ("any", 2), ("pick", 3)]
def isEnt (e : DictEntry) (p : Str × Int) : Prop := ∃ t u, e.key = .str p.1 t ∧ e.val = .int p.2 u
theorem parts_mk {d : Addr} {es : Array DictEntry} {n : Nat} (l : K.lookup d = some ⟨.type "dict", none, .dict es n, #[]⟩) (lit : PySem.W.KeysLit w.params es.toList) (low : (d == sysModules) = false) (he : PySem.Paired isEnt es.toList partsL) : PartsT K w d es n := by
  have hr : ∀ {L : List DictEntry} {M : List (Str × Int)}, PySem.Paired isEnt L M → L.any (·.refKey) = false := fun {L M} h => by
    induction h with
    | nil => rfl
    | cons r _ ih =>
      obtain ⟨t, u, e1, _⟩ := r
      rw [List.any_cons, ih, Bool.or_false]
      unfold DictEntry.refKey
      rw [e1]
  have hf : ∀ (z : Str) {L : List DictEntry} {M : List (Str × Int)}, PySem.Paired isEnt L M → (M.lookup z = none → findE L z = none) ∧ (∀ k, M.lookup z = some k → ∃ u, findE L z = some (.int k u)) := fun z {L M} h => by
    induction h with
    | nil => exact ⟨fun _ => rfl, fun k e => by cases e⟩
    | @cons a b la lb r _ ih =>
      obtain ⟨t, u, e1, e2⟩ := r
      unfold findE
      have ek : a.key.isStr z = (b.1 == z) := by rw [e1]; rfl
      rw [ek]
      by_cases q : b.1 = z
      · subst q
        simp only [beq_self_eq_true, if_true]
        refine ⟨fun e => ?_, fun k e => ?_⟩
        · rw [List.lookup_cons] at e
          simp at e
        · rw [List.lookup_cons] at e
          simp at e
          rw [e2, e]
          exact ⟨u, rfl⟩
      · have q1 : (b.1 == z) = false := beq_eq_false_iff_ne.mpr q
        have q2 : (z == b.1) = false := beq_eq_false_iff_ne.mpr fun e => q e.symm
        rw [q1]
        simp only [Bool.false_eq_true, if_false]
        rw [List.lookup_cons, q2]
        exact ih
  have hl : ∀ z, partsL.lookup z = (arity z).map fun k => (k : Int) := fun z => by
    unfold arity
    by_cases n0 : z = "not"
    · subst n0
      decide +kernel
    rw [if_neg n0]
    by_cases n1 : z = "add"
    · subst n1
      decide +kernel
    rw [if_neg n1]
    by_cases n2 : z = "sub"
    · subst n2
      decide +kernel
    rw [if_neg n2]
    by_cases n3 : z = "mul"
    · subst n3
      decide +kernel
    rw [if_neg n3]
    by_cases n4 : z = "quo"
    · subst n4
      decide +kernel
    rw [if_neg n4]
    by_cases n5 : z = "less"
    · subst n5
      decide +kernel
    rw [if_neg n5]
    by_cases n6 : z = "same"
    · subst n6
      decide +kernel
    rw [if_neg n6]
    by_cases n7 : z = "both"
    · subst n7
      decide +kernel
    rw [if_neg n7]
    by_cases n8 : z = "any"
    · subst n8
      decide +kernel
    rw [if_neg n8]
    by_cases n9 : z = "pick"
    · subst n9
      decide +kernel
    rw [if_neg n9]
    unfold partsL
    rw [List.lookup_cons, show (z == ("not" : Str)) = false from beq_eq_false_iff_ne.mpr n0, List.lookup_cons, show (z == ("add" : Str)) = false from beq_eq_false_iff_ne.mpr n1, List.lookup_cons, show (z == ("sub" : Str)) = false from beq_eq_false_iff_ne.mpr n2, List.lookup_cons, show (z == ("mul" : Str)) = false from beq_eq_false_iff_ne.mpr n3, List.lookup_cons, show (z == ("quo" : Str)) = false from beq_eq_false_iff_ne.mpr n4, List.lookup_cons, show (z == ("less" : Str)) = false from beq_eq_false_iff_ne.mpr n5, List.lookup_cons, show (z == ("same" : Str)) = false from beq_eq_false_iff_ne.mpr n6, List.lookup_cons, show (z == ("both" : Str)) = false from beq_eq_false_iff_ne.mpr n7, List.lookup_cons, show (z == ("any" : Str)) = false from beq_eq_false_iff_ne.mpr n8, List.lookup_cons, show (z == ("pick" : Str)) = false from beq_eq_false_iff_ne.mpr n9]
    rfl
  have H := fun z => findE_ns l (hr he) z
  refine ⟨⟨l, lit, low⟩, fun z e => ?_, fun z k e => ?_⟩
  · rw [H z, (hf z he).1 (by rw [hl, e]; rfl)]
  · obtain ⟨u, eu⟩ := (hf z he).2 (k : Int) (by rw [hl, e]; rfl)
    exact ⟨_, by rw [H z, eu], ⟨_, rfl⟩⟩
end
theorem all_fin {l : PySem.W.OpenLaw} {K : PySem.W.Frag} {mg : Str → Option Value} {w : World} {fa : Addr} (T : Txt K mg w) (hfa : mg "law" = some (.ref fa)) :
    ∃ fd : FuncData, (∀ (s : Shared) (v : Value), BindsTo s fd ⟨[v], []⟩ [("_law_script", v)]) ∧ ∀ base : Heap, K.In base → base.Ns mainGlobals mg → FnOk l.prog w K mg base CX0 50 fa fd ["_law_script"] (sp_law K) := by
  have e := hfa.symm.trans T.law.g
  have e2 : fa = T.law.f := by injection e with h; injection h
  subst e2
  obtain ⟨oc, od, kV, doc, pm, an, cdv, ct, osl, efd, _⟩ := T.law.F.ex
  exact ⟨T.law.fd, fun s v => by rw [efd]; exact .of_eq rfl, fun base _ _ => ok_law T⟩
theorem walk {l : PySem.W.OpenLaw} {q : Program} {loose : List Str} {XP : (Str → Option Value) → Heap → Prop} {YP : World → Heap → Prop} {d : DefRec} {K : Params → PySem.W.Frag} (hn : l.most = some 63) (hdf : d.params.defaults = []) (hnm : d.name = "law")
    (hY : ∀ (w : World) (h : Heap), YP w h → (K w.params).In h)
    (F : ∀ (w : World) (mg : Str → Option Value) (h : Heap), (K w.params).In h → h.Ns mainGlobals mg → Nonempty (Txt (K w.params) mg w)) :
    PySem.W.WalkO q loose XP YP l.row.toRowW d [] (fun f vs => PySem.call f vs) :=
  L2.walk_of (n := 63) (k := 50) (x := "_law_script") (CX := fun _ => CX0) (sp := fun w => sp_law (K w.params)) hn (by decide) hdf ⟨rfl, by decide, by decide⟩ hY (fun w mg fa h KX G hmg => by
    obtain ⟨T⟩ := F w mg h KX G
    rw [hnm] at hmg
    exact all_fin T hmg) (fun _ _ a ns hl _ hS => ⟨a, ns, rfl, hS, hl, fun _ => rfl⟩) fun _ _ _ _ _ z => z
end BD
/-! W36: the text out of facts. -/
namespace BD
open PySem PySem.Spec L2 TL
open PyProof.Rows hiding St
theorem txt_of {K : PySem.W.Frag} {h : Heap} {mg : Str → Option Value} {w : World} {aP aL aE aT aG aW aB fT : Addr} {pes : Array DictEntry} {pn : Nat} {t1 t2 t3 t4 t5 t6 : Tok} {nm q : Str} {NN : Addr} {bs bm : List Value} {sn : List Str} {sub : List Value} {ab : Bool} {col : Option Bool} {dd : Option Addr} {k0 k1 k2 k3 k5 : Option Value} {odB anB : Option Addr} {slB : Array (Option Value)} {ocB kVB dcB pmB cdB ctB : Value} (X : K.In h) (G : h.Ns mainGlobals mg)
    (gP : PySem.W.nsIn K mainGlobals "PARTS" = some (some (.ref aP)))
    (gL : PySem.W.nsIn K mainGlobals "Lost" = some (some (.ref aL)))
    (gE : PySem.W.nsIn K mainGlobals "BlurError" = some (some (.ref aE)))
    (gT : PySem.W.nsIn K mainGlobals "BadText" = some (some (.ref aT)))
    (gG : PySem.W.nsIn K mainGlobals "BadProgram" = some (some (.ref aG)))
    (gW : PySem.W.nsIn K mainGlobals "Words" = some (some (.ref aW)))
    (gB : PySem.W.nsIn K mainGlobals "Block" = some (some (.ref aB)))
    (s1 : PySem.W.nsIn K mainGlobals "LETTERS" = some (some (.str "abcdefghijklmnopqrstuvwxyz" t1)))
    (s2 : PySem.W.nsIn K mainGlobals "FIGURES" = some (some (.str "0123456789" t2)))
    (i1 : PySem.W.nsIn K mainGlobals "MOST_FIGURES" = some (some (.int 19 t3)))
    (i2 : PySem.W.nsIn K mainGlobals "TERMS_DEEP" = some (some (.int 14 t4)))
    (i3 : PySem.W.nsIn K mainGlobals "VIEWS_DEEP" = some (some (.int 8 t5)))
    (i4 : PySem.W.nsIn K mainGlobals "BLOCKS_DEEP" = some (some (.int 6 t6)))
    (ldP : K.lookup aP = some ⟨.type "dict", none, .dict pes pn, #[]⟩)
    (litP : PySem.W.KeysLit w.params pes.toList)
    (lowP : (aP == sysModules) = false)
    (heP : PySem.Paired BD.isEnt pes.toList BD.partsL)
    (z_len : PySem.W.nsIn K mainGlobals "len" = some none)
    (z_isinstance : PySem.W.nsIn K mainGlobals "isinstance" = some none)
    (z_str : PySem.W.nsIn K mainGlobals "str" = some none)
    (z_int : PySem.W.nsIn K mainGlobals "int" = some none)
    (z_bool : PySem.W.nsIn K mainGlobals "bool" = some none)
    (z_tuple : PySem.W.nsIn K mainGlobals "tuple" = some none)
    (z_range : PySem.W.nsIn K mainGlobals "range" = some none)
    (z_min : PySem.W.nsIn K mainGlobals "min" = some none)
    (z_max : PySem.W.nsIn K mainGlobals "max" = some none)
    (z_sum : PySem.W.nsIn K mainGlobals "sum" = some none)
    (z_ValueError : PySem.W.nsIn K mainGlobals "ValueError" = some none)
    (xL : PySem.W.excIn K aL [.type "ValueError", .type "Exception", .type "BaseException", .type "object"] "ValueError.__new__" = true)
    (kL : PySem.W.keepIn K (.ref aL) = true)
    (bL : PySem.W.subIn K (.ref aL) (.type "BaseException") = some true)
    (iL : PySem.W.isClsIn K aL = true)
    (tL : PySem.W.typeIn K (.ref aL) = some (.type "type"))
    (sL : PySem.W.subIn K (.ref aL) (.ref aL) = some true)
    (rdE : PySem.W.readsIn K aE (.type "type") = true)
    (gaE : PySem.W.specialIn K (.ref aE) "__getattribute__" = some (some (.builtin "type.__getattribute__")))
    (inE : PySem.W.findCls K (.ref aE) (.type "type") "__init__" = some (.val (.builtin "ValueError.__init__")))
    (xT : K.lookup aT = some (excClassObj nm q aT NN bs bm true sn sub ab col dd k0 k1 k2 k3 k5 "ValueError.__new__"))
    (rvT : PySem.HandSPX.refsVE bm = true)
    (saT : PySem.W.findIn K (.ref aT) "__setattr__" = some (some (.builtin "object.__setattr__")))
    (exT : PySem.W.subIn K (.ref aT) (.type "BaseException") = some true)
    (tyT : PySem.W.typeIn K (.ref aT) = some (.type "type"))
    (kT : PySem.W.keepIn K (.ref aT) = true)
    (iT : PySem.W.isClsIn K aT = true)
    (sT : PySem.W.subIn K (.ref aT) (.ref aT) = some true)
    (nrT : PySem.W.findIn K (.ref aT) "row" = some none)
    (gaT : PySem.W.findIn K (.ref aT) "__getattribute__" = some (some (.builtin "BaseException.__getattribute__")))
    (ggT : PySem.W.findIn K (.ref aT) "__getattr__" = some none)
    (hdT : PySem.W.hasDictIn K aT = true)
    (haT : PySem.W.findIn K (.ref aT) "__class__" = some (some (.builtin "object.__class__")))
    (hnT : PySem.W.specialIn K (.builtin "object.__class__") "__get__" = some (some (.builtin "getset_descriptor.__get__")))
    (htT : PySem.W.takesIn K (.builtin "object.__class__") = some true)
    (hmT : PySem.W.mroIn K aT (.type "object") = some true)
    (keT : PySem.W.kitOne K (.ref aT) (.ref aE) = some true)
    (kvT : PySem.W.kitOne K (.ref aT) (.type "ValueError") = some true)
    (kgT : PySem.W.kitOne K (.ref aT) (.ref aG) = some false)
    (fB : PySem.W.findIn K (.ref aT) "__init__" = some (some (.ref fT)))
    (tB : PySem.W.typeIn K (.ref fT) = some (.type "function"))
    (lB : K.lookup fT = some ⟨ocB, odB, .func (PySem.W.fnOf "__init__" "BadText.__init__" (L2.defArgs (inClass (BD.top 2) 0)) (L2.defBody (inClass (BD.top 2) 0)) (L2.defScope (inClass (BD.top 2) 0)) .none kVB dcB pmB anB cdB ctB), slB⟩)
    (cB : PySem.W.codeIn K cdB "BadText.__init__" = true)
    (kB : PySem.W.keepIn K (.ref fT) = true)
    (pgW : PySem.W.plainGet K aW Str.empty = true)
    (hdW : PySem.W.hasDictIn K aW = true)
    (poW : PySem.W.plainOver K aW = true)
    (saW : PySem.W.findIn K (.ref aW) "__setattr__" = some (some (.builtin "object.__setattr__")))
    (pgB : PySem.W.plainGet K aB Str.empty = true)
    (hdB : PySem.W.hasDictIn K aB = true)
    (poB : PySem.W.plainOver K aB = true)
    (saB : PySem.W.findIn K (.ref aB) "__setattr__" = some (some (.builtin "object.__setattr__")))
    (nW_some : PySem.W.findIn K (.ref aW) "some" = some none)
    (nW_place : PySem.W.findIn K (.ref aW) "place" = some none)
    (nB_head : PySem.W.findIn K (.ref aB) "head" = some none)
    (nB_shut : PySem.W.findIn K (.ref aB) "shut" = some none)
    (nB_rows : PySem.W.findIn K (.ref aB) "rows" = some none)
    (nB_key : PySem.W.findIn K (.ref aB) "key" = some none)
    (Words_init : Nonempty (BD.Cf K mg aW "Words" "Words.__init__" (inClass (BD.top 16) 0) ["self", "row"]))
    (Words_word : Nonempty (BD.Mf K aW "word" "Words.word" (inClass (BD.top 16) 1) ["self"]))
    (Words_number : Nonempty (BD.Mf K aW "number" "Words.number" (inClass (BD.top 16) 2) ["self"]))
    (Words_within : Nonempty (BD.Mf K aW "within" "Words.within" (inClass (BD.top 16) 3) ["self", "low", "high"]))
    (Words_name : Nonempty (BD.Mf K aW "name" "Words.name" (inClass (BD.top 16) 4) ["self"]))
    (Words_must_be : Nonempty (BD.Mf K aW "must_be" "Words.must_be" (inClass (BD.top 16) 5) ["self", "due"]))
    (Words_ended : Nonempty (BD.Mf K aW "ended" "Words.ended" (inClass (BD.top 16) 6) ["self"]))
    (Block_init : Nonempty (BD.Cf K mg aB "Block" "Block.__init__" (inClass (BD.top 25) 0) ["self", "head"]))
    (Block_shuts : Nonempty (BD.Mf K aB "shuts" "Block.shuts" (inClass (BD.top 25) 1) ["self"]))
    (Block_statement : Nonempty (BD.Mf K aB "statement" "Block.statement" (inClass (BD.top 25) 2) ["self"]))
    (d_is_name : Nonempty (BD.Df K mg "is_name" (BD.top 7) ["thing"]))
    (d_number_of : Nonempty (BD.Df K mg "number_of" (BD.top 15) ["word"]))
    (d_term_from : Nonempty (BD.Df K mg "term_from" (BD.top 17) ["words", "deep"]))
    (d_measure_from : Nonempty (BD.Df K mg "measure_from" (BD.top 18) ["words"]))
    (d_lists_from : Nonempty (BD.Df K mg "lists_from" (BD.top 19) ["words"]))
    (d_pairs_from : Nonempty (BD.Df K mg "pairs_from" (BD.top 20) ["words"]))
    (d_view_from : Nonempty (BD.Df K mg "view_from" (BD.top 21) ["words", "deep"]))
    (d_asked_from : Nonempty (BD.Df K mg "asked_from" (BD.top 22) ["words"]))
    (d_asking_from : Nonempty (BD.Df K mg "asking_from" (BD.top 23) ["words", "head"]))
    (d_said_in : Nonempty (BD.Df K mg "said_in" (BD.top 24) ["row"]))
    (d_lies_right : Nonempty (BD.Df K mg "lies_right" (BD.top 26) ["blocks", "said"]))
    (d_row_said : Nonempty (BD.Df K mg "row_said" (BD.top 27) ["row"]))
    (d_read : Nonempty (BD.Df K mg "read" (BD.top 28) ["text"]))
    (d_term_words : Nonempty (BD.Df K mg "term_words" (BD.top 30) ["term"]))
    (d_measure_words : Nonempty (BD.Df K mg "measure_words" (BD.top 31) ["measure"]))
    (d_lists_words : Nonempty (BD.Df K mg "lists_words" (BD.top 32) ["lists"]))
    (d_pairs_words : Nonempty (BD.Df K mg "pairs_words" (BD.top 33) ["pairs"]))
    (d_view_words : Nonempty (BD.Df K mg "view_words" (BD.top 34) ["view"]))
    (d_asked_words : Nonempty (BD.Df K mg "asked_words" (BD.top 35) ["view", "measure"]))
    (d_pick_words : Nonempty (BD.Df K mg "pick_words" (BD.top 36) ["statement"]))
    (d_block_rows : Nonempty (BD.Df K mg "block_rows" (BD.top 37) ["statement"]))
    (d_statement_rows : Nonempty (BD.Df K mg "statement_rows" (BD.top 38) ["statement"]))
    (d_all_rows : Nonempty (BD.Df K mg "all_rows" (BD.top 39) ["rows"]))
    (d_written : Nonempty (BD.Df K mg "written" (BD.top 40) ["program"]))
    (d__law_whole : Nonempty (BD.Df K mg "_law_whole" (BD.top 42) ["_law_found"]))
    (d__law_at : Nonempty (BD.Df K mg "_law_at" (BD.top 43) ["_law_cells", "_law_k"]))
    (d__law_big : Nonempty (BD.Df K mg "_law_big" (BD.top 44) ["_law_cell"]))
    (d__law_word_of : Nonempty (BD.Df K mg "_law_word_of" (BD.top 45) ["_law_cell"]))
    (d__law_leaf_by : Nonempty (BD.Df K mg "_law_leaf_by" (BD.top 46) ["_law_cell"]))
    (d__law_term_by : Nonempty (BD.Df K mg "_law_term_by" (BD.top 47) ["_law_cell"]))
    (d__law_lists_by : Nonempty (BD.Df K mg "_law_lists_by" (BD.top 48) ["_law_cell", "_law_term", "_law_words"]))
    (d__law_pairs_by : Nonempty (BD.Df K mg "_law_pairs_by" (BD.top 49) ["_law_cell"]))
    (d__law_view_by : Nonempty (BD.Df K mg "_law_view_by" (BD.top 50) ["_law_cell", "_law_deep"]))
    (d__law_source_by : Nonempty (BD.Df K mg "_law_source_by" (BD.top 51) ["_law_cell"]))
    (d__law_asking_by : Nonempty (BD.Df K mg "_law_asking_by" (BD.top 52) ["_law_cell", "_law_small"]))
    (d__law_opened : Nonempty (BD.Df K mg "_law_opened" (BD.top 53) ["_law_cell"]))
    (d__law_shut : Nonempty (BD.Df K mg "_law_shut" (BD.top 54) ["_law_blocks", "_law_lines"]))
    (d__law_go_on : Nonempty (BD.Df K mg "_law_go_on" (BD.top 55) ["_law_blocks", "_law_lines", "_law_cell", "_law_small"]))
    (d__law_built : Nonempty (BD.Df K mg "_law_built" (BD.top 56) ["_law_script"]))
    (d__law_bad_asks : Nonempty (BD.Df K mg "_law_bad_asks" (BD.top 57) ["_law_cell"]))
    (d__law_bad_flats : Nonempty (BD.Df K mg "_law_bad_flats" (BD.top 58) ["_law_cell"]))
    (d__law_bad_row : Nonempty (BD.Df K mg "_law_bad_row" (BD.top 59) ["_law_cell"]))
    (d__law_open : Nonempty (BD.Df K mg "_law_open" (BD.top 60) ["_law_lines"]))
    (d__law_not_here : Nonempty (BD.Df K mg "_law_not_here" (BD.top 61) ["_law_cell", "_law_blocks"]))
    (d__law_ends : Nonempty (BD.Df K mg "_law_ends" (BD.top 62) ["_law_blocks"]))
    (d__law_read : Nonempty (BD.Df K mg "_law_read" (BD.top 63) ["_law_text"]))
    (d__law_changed : Nonempty (BD.Df K mg "_law_changed" (BD.top 64) ["_law_text", "_law_cell"]))
    (d__law_any : Nonempty (BD.Df K mg "_law_any" (BD.top 65) ["_law_text"]))
    (d_law : Nonempty (BD.Df K mg "law" (BD.top 66) ["_law_script"])) :
    Nonempty (Txt K mg w) := by
  obtain ⟨Words_init⟩ := Words_init
  obtain ⟨Words_word⟩ := Words_word
  obtain ⟨Words_number⟩ := Words_number
  obtain ⟨Words_within⟩ := Words_within
  obtain ⟨Words_name⟩ := Words_name
  obtain ⟨Words_must_be⟩ := Words_must_be
  obtain ⟨Words_ended⟩ := Words_ended
  obtain ⟨Block_init⟩ := Block_init
  obtain ⟨Block_shuts⟩ := Block_shuts
  obtain ⟨Block_statement⟩ := Block_statement
  obtain ⟨d_is_name⟩ := d_is_name
  obtain ⟨d_number_of⟩ := d_number_of
  obtain ⟨d_term_from⟩ := d_term_from
  obtain ⟨d_measure_from⟩ := d_measure_from
  obtain ⟨d_lists_from⟩ := d_lists_from
  obtain ⟨d_pairs_from⟩ := d_pairs_from
  obtain ⟨d_view_from⟩ := d_view_from
  obtain ⟨d_asked_from⟩ := d_asked_from
  obtain ⟨d_asking_from⟩ := d_asking_from
  obtain ⟨d_said_in⟩ := d_said_in
  obtain ⟨d_lies_right⟩ := d_lies_right
  obtain ⟨d_row_said⟩ := d_row_said
  obtain ⟨d_read⟩ := d_read
  obtain ⟨d_term_words⟩ := d_term_words
  obtain ⟨d_measure_words⟩ := d_measure_words
  obtain ⟨d_lists_words⟩ := d_lists_words
  obtain ⟨d_pairs_words⟩ := d_pairs_words
  obtain ⟨d_view_words⟩ := d_view_words
  obtain ⟨d_asked_words⟩ := d_asked_words
  obtain ⟨d_pick_words⟩ := d_pick_words
  obtain ⟨d_block_rows⟩ := d_block_rows
  obtain ⟨d_statement_rows⟩ := d_statement_rows
  obtain ⟨d_all_rows⟩ := d_all_rows
  obtain ⟨d_written⟩ := d_written
  obtain ⟨d__law_whole⟩ := d__law_whole
  obtain ⟨d__law_at⟩ := d__law_at
  obtain ⟨d__law_big⟩ := d__law_big
  obtain ⟨d__law_word_of⟩ := d__law_word_of
  obtain ⟨d__law_leaf_by⟩ := d__law_leaf_by
  obtain ⟨d__law_term_by⟩ := d__law_term_by
  obtain ⟨d__law_lists_by⟩ := d__law_lists_by
  obtain ⟨d__law_pairs_by⟩ := d__law_pairs_by
  obtain ⟨d__law_view_by⟩ := d__law_view_by
  obtain ⟨d__law_source_by⟩ := d__law_source_by
  obtain ⟨d__law_asking_by⟩ := d__law_asking_by
  obtain ⟨d__law_opened⟩ := d__law_opened
  obtain ⟨d__law_shut⟩ := d__law_shut
  obtain ⟨d__law_go_on⟩ := d__law_go_on
  obtain ⟨d__law_built⟩ := d__law_built
  obtain ⟨d__law_bad_asks⟩ := d__law_bad_asks
  obtain ⟨d__law_bad_flats⟩ := d__law_bad_flats
  obtain ⟨d__law_bad_row⟩ := d__law_bad_row
  obtain ⟨d__law_open⟩ := d__law_open
  obtain ⟨d__law_not_here⟩ := d__law_not_here
  obtain ⟨d__law_ends⟩ := d__law_ends
  obtain ⟨d__law_read⟩ := d__law_read
  obtain ⟨d__law_changed⟩ := d__law_changed
  obtain ⟨d__law_any⟩ := d__law_any
  obtain ⟨d_law⟩ := d_law
  have FB := fun_mk (st := inClass (BD.top 2) 0) lB cB kB
  exact ⟨
    { aP := aP
      aL := aL
      aE := aE
      aT := aT
      aG := aG
      aW := aW
      aB := aB
      pes := pes
      pn := pn
      c_LETTERS := cst_str X G s1
      c_FIGURES := cst_str X G s2
      c_MOST_FIGURES := cst_int X G i1
      c_TERMS_DEEP := cst_int X G i2
      c_VIEWS_DEEP := cst_int X G i3
      c_BLOCKS_DEEP := cst_int X G i4
      c_PARTS := cst_ref X G gP
      pt := parts_mk ldP litP lowP heP
      n_len := PySem.W.mg_none_of X G z_len
      n_isinstance := PySem.W.mg_none_of X G z_isinstance
      n_str := PySem.W.mg_none_of X G z_str
      n_int := PySem.W.mg_none_of X G z_int
      n_bool := PySem.W.mg_none_of X G z_bool
      n_tuple := PySem.W.mg_none_of X G z_tuple
      n_range := PySem.W.mg_none_of X G z_range
      n_min := PySem.W.mg_none_of X G z_min
      n_max := PySem.W.mg_none_of X G z_max
      n_sum := PySem.W.mg_none_of X G z_sum
      n_ValueError := PySem.W.mg_none_of X G z_ValueError
      xL := xL
      g_Lost := PySem.W.mg_of X G gL
      kL := kL
      bL := bL
      tL := tL
      eL := own_exm bL iL tL sL
      g_BlurError := PySem.W.mg_of X G gE
      c_BlurError := cst_ref X G gE
      rdB := ⟨rdE, gaE⟩
      inB := inE
      g_BadText := PySem.W.mg_of X G gT
      oB := ⟨⟨_, _, _, _, _, _, _, _, _, _, _, _, _, _, _, xT, rvT⟩, saT, exT, tyT, kT⟩
      noRow := nrT
      xfB := ⟨gaT, ggT, exT, hdT⟩
      excB := ⟨gaT, ggT, exT, hdT, haT, hnT, htT, hmT⟩
      eT := own_exm exT iT tyT sT
      kitE := keT
      kitV := kvT
      kitG := kgT
      c_BadProgram := cst_ref X G gG
      fT := fT
      fdT := _
      FT := FB
      bT := FB.binds fun _ _ _ _ _ _ us hl => match us, hl with | [_, _, _], _ => rfl
      iB := fB
      tB := tB
      cl_Words := ⟨pgW, hdW, poW, saW⟩
      w_some := nW_some
      w_place := nW_place
      cl_Block := ⟨pgB, hdB, poB, saB⟩
      b_head := nB_head
      b_shut := nB_shut
      b_rows := nB_rows
      b_key := nB_key
      Words_init := Words_init
      Words_word := Words_word
      Words_number := Words_number
      Words_within := Words_within
      Words_name := Words_name
      Words_must_be := Words_must_be
      Words_ended := Words_ended
      Block_init := Block_init
      Block_shuts := Block_shuts
      Block_statement := Block_statement
      is_name := d_is_name
      number_of := d_number_of
      term_from := d_term_from
      measure_from := d_measure_from
      lists_from := d_lists_from
      pairs_from := d_pairs_from
      view_from := d_view_from
      asked_from := d_asked_from
      asking_from := d_asking_from
      said_in := d_said_in
      lies_right := d_lies_right
      row_said := d_row_said
      read := d_read
      term_words := d_term_words
      measure_words := d_measure_words
      lists_words := d_lists_words
      pairs_words := d_pairs_words
      view_words := d_view_words
      asked_words := d_asked_words
      pick_words := d_pick_words
      block_rows := d_block_rows
      statement_rows := d_statement_rows
      all_rows := d_all_rows
      written := d_written
      _law_whole := d__law_whole
      _law_at := d__law_at
      _law_big := d__law_big
      _law_word_of := d__law_word_of
      _law_leaf_by := d__law_leaf_by
      _law_term_by := d__law_term_by
      _law_lists_by := d__law_lists_by
      _law_pairs_by := d__law_pairs_by
      _law_view_by := d__law_view_by
      _law_source_by := d__law_source_by
      _law_asking_by := d__law_asking_by
      _law_opened := d__law_opened
      _law_shut := d__law_shut
      _law_go_on := d__law_go_on
      _law_built := d__law_built
      _law_bad_asks := d__law_bad_asks
      _law_bad_flats := d__law_bad_flats
      _law_bad_row := d__law_bad_row
      _law_open := d__law_open
      _law_not_here := d__law_not_here
      _law_ends := d__law_ends
      _law_read := d__law_read
      _law_changed := d__law_changed
      _law_any := d__law_any
      law := d_law }⟩
end BD
open PySem PySem.W PyProof.Rows
set_option maxRecDepth 100000 in
set_option maxHeartbeats 0 in
theorem PySem.Challenge.cw_blurdesk_k48_whole_texts_holds : PySem.Challenge.rw_blurdesk_k48_whole_texts.Holds := by
  w_on; o_law; k_head; (case hw => w_witness2)
  k_fill
  refine BD.walk (l := PySem.Challenge.rw_blurdesk_k48_whole_texts) rfl rfl rfl (fun w h Y => PySem.W.kIn_of Y) ?F
  case F =>
    intro w mg h KX G
    refine' BD.txt_of KX G ?gP ?gL ?gE ?gT ?gG ?gW ?gB ?s1 ?s2 ?i1 ?i2 ?i3 ?i4 ?ldP ?litP ?lowP ?heP ?z_len ?z_isinstance ?z_str ?z_int ?z_bool ?z_tuple ?z_range ?z_min ?z_max ?z_sum ?z_ValueError ?xL ?kL ?bL ?iL ?tL ?sL ?rdE ?gaE ?inE ?xT ?rvT ?saT ?exT ?tyT ?kT ?iT ?sT ?nrT ?gaT ?ggT ?hdT ?haT ?hnT ?htT ?hmT ?keT ?kvT ?kgT ?fB ?tB ?lB ?cB ?kB ?pgW ?hdW ?poW ?saW ?pgB ?hdB ?poB ?saB ?nW_some ?nW_place ?nB_head ?nB_shut ?nB_rows ?nB_key ?Words_init ?Words_word ?Words_number ?Words_within ?Words_name ?Words_must_be ?Words_ended ?Block_init ?Block_shuts ?Block_statement ?d_is_name ?d_number_of ?d_term_from ?d_measure_from ?d_lists_from ?d_pairs_from ?d_view_from ?d_asked_from ?d_asking_from ?d_said_in ?d_lies_right ?d_row_said ?d_read ?d_term_words ?d_measure_words ?d_lists_words ?d_pairs_words ?d_view_words ?d_asked_words ?d_pick_words ?d_block_rows ?d_statement_rows ?d_all_rows ?d_written ?d__law_whole ?d__law_at ?d__law_big ?d__law_word_of ?d__law_leaf_by ?d__law_term_by ?d__law_lists_by ?d__law_pairs_by ?d__law_view_by ?d__law_source_by ?d__law_asking_by ?d__law_opened ?d__law_shut ?d__law_go_on ?d__law_built ?d__law_bad_asks ?d__law_bad_flats ?d__law_bad_row ?d__law_open ?d__law_not_here ?d__law_ends ?d__law_read ?d__law_changed ?d__law_any ?d_law
    (case gP => k_is)
    (case gL => k_is)
    (case gE => k_is)
    (case gT => k_is)
    (case gG => k_is)
    (case gW => k_is)
    (case gB => k_is)
    (case s1 => k_is)
    (case s2 => k_is)
    (case i1 => k_is)
    (case i2 => k_is)
    (case i3 => k_is)
    (case i4 => k_is)
    (case ldP => k_is)
    (case litP => exact ⟨⟨_, _, rfl, rfl⟩, ⟨_, _, rfl, rfl⟩, ⟨_, _, rfl, rfl⟩, ⟨_, _, rfl, rfl⟩, ⟨_, _, rfl, rfl⟩, ⟨_, _, rfl, rfl⟩, ⟨_, _, rfl, rfl⟩, ⟨_, _, rfl, rfl⟩, ⟨_, _, rfl, rfl⟩, ⟨_, _, rfl, rfl⟩, trivial⟩)
    (case lowP => first | rfl | decide | k_is)
    (case heP => exact .cons ⟨_, _, rfl, rfl⟩ (.cons ⟨_, _, rfl, rfl⟩ (.cons ⟨_, _, rfl, rfl⟩ (.cons ⟨_, _, rfl, rfl⟩ (.cons ⟨_, _, rfl, rfl⟩ (.cons ⟨_, _, rfl, rfl⟩ (.cons ⟨_, _, rfl, rfl⟩ (.cons ⟨_, _, rfl, rfl⟩ (.cons ⟨_, _, rfl, rfl⟩ (.cons ⟨_, _, rfl, rfl⟩ .nil))))))))))
    (case z_len => k_is)
    (case z_isinstance => k_is)
    (case z_str => k_is)
    (case z_int => k_is)
    (case z_bool => k_is)
    (case z_tuple => k_is)
    (case z_range => k_is)
    (case z_min => k_is)
    (case z_max => k_is)
    (case z_sum => k_is)
    (case z_ValueError => k_is)
    (case xL => k_exc)
    (case kL => k_is)
    (case bL => k_is)
    (case iL => k_is)
    (case tL => k_is)
    (case sL => k_is)
    (case rdE => k_is)
    (case gaE => k_is)
    (case inE => k_is)
    (case xT => k_is)
    (case rvT => first | rfl | decide | k_is)
    (case saT => k_is)
    (case exT => k_is)
    (case tyT => k_is)
    (case kT => k_is)
    (case iT => k_is)
    (case sT => k_is)
    (case nrT => k_is)
    (case gaT => k_is)
    (case ggT => k_is)
    (case hdT => k_is)
    (case haT => k_is)
    (case hnT => k_is)
    (case htT => k_is)
    (case hmT => k_is)
    (case keT => first | kit_is | rfl | with_unfolding_all rfl)
    (case kvT => first | kit_is | rfl | with_unfolding_all rfl)
    (case kgT => first | kit_is | rfl | with_unfolding_all rfl)
    (case fB => k_is)
    (case tB => k_is)
    (case lB => k_is)
    (case cB => k_is)
    (case kB => k_is)
    (case pgW => k_is)
    (case hdW => k_is)
    (case poW => k_is)
    (case saW => k_is)
    (case pgB => k_is)
    (case hdB => k_is)
    (case poB => k_is)
    (case saB => k_is)
    (case nW_some => k_is)
    (case nW_place => k_is)
    (case nB_head => k_is)
    (case nB_shut => k_is)
    (case nB_rows => k_is)
    (case nB_key => k_is)
    (case Words_init => refine' BD.cf_mk KX G ?g ?a ?i ?mk ?kc ?l ?c ?k ?b; (case g => k_is); (case a => k_is); (case i => k_is); (case mk => k_is); (case kc => k_is); (case l => k_is); (case c => k_is); (case k => k_is); (case b => exact fun _ _ _ _ _ _ us hl => match us, hl with | [_, _], _ => rfl))
    (case Words_word => refine' BD.mf_mk ?a ?i ?l ?c ?k ?b; (case a => k_is); (case i => k_is); (case l => k_is); (case c => k_is); (case k => k_is); (case b => exact fun _ _ _ _ _ _ us hl => match us, hl with | [_], _ => rfl))
    (case Words_number => refine' BD.mf_mk ?a ?i ?l ?c ?k ?b; (case a => k_is); (case i => k_is); (case l => k_is); (case c => k_is); (case k => k_is); (case b => exact fun _ _ _ _ _ _ us hl => match us, hl with | [_], _ => rfl))
    (case Words_within => refine' BD.mf_mk ?a ?i ?l ?c ?k ?b; (case a => k_is); (case i => k_is); (case l => k_is); (case c => k_is); (case k => k_is); (case b => exact fun _ _ _ _ _ _ us hl => match us, hl with | [_, _, _], _ => rfl))
    (case Words_name => refine' BD.mf_mk ?a ?i ?l ?c ?k ?b; (case a => k_is); (case i => k_is); (case l => k_is); (case c => k_is); (case k => k_is); (case b => exact fun _ _ _ _ _ _ us hl => match us, hl with | [_], _ => rfl))
    (case Words_must_be => refine' BD.mf_mk ?a ?i ?l ?c ?k ?b; (case a => k_is); (case i => k_is); (case l => k_is); (case c => k_is); (case k => k_is); (case b => exact fun _ _ _ _ _ _ us hl => match us, hl with | [_, _], _ => rfl))
    (case Words_ended => refine' BD.mf_mk ?a ?i ?l ?c ?k ?b; (case a => k_is); (case i => k_is); (case l => k_is); (case c => k_is); (case k => k_is); (case b => exact fun _ _ _ _ _ _ us hl => match us, hl with | [_], _ => rfl))
    (case Block_init => refine' BD.cf_mk KX G ?g ?a ?i ?mk ?kc ?l ?c ?k ?b; (case g => k_is); (case a => k_is); (case i => k_is); (case mk => k_is); (case kc => k_is); (case l => k_is); (case c => k_is); (case k => k_is); (case b => exact fun _ _ _ _ _ _ us hl => match us, hl with | [_, _], _ => rfl))
    (case Block_shuts => refine' BD.mf_mk ?a ?i ?l ?c ?k ?b; (case a => k_is); (case i => k_is); (case l => k_is); (case c => k_is); (case k => k_is); (case b => exact fun _ _ _ _ _ _ us hl => match us, hl with | [_], _ => rfl))
    (case Block_statement => refine' BD.mf_mk ?a ?i ?l ?c ?k ?b; (case a => k_is); (case i => k_is); (case l => k_is); (case c => k_is); (case k => k_is); (case b => exact fun _ _ _ _ _ _ us hl => match us, hl with | [_], _ => rfl))
    (case d_is_name => refine' BD.df_mk KX G ?a ?l ?c ?k ?b; (case a => k_is); (case l => k_is); (case c => k_is); (case k => k_is); (case b => exact fun _ _ _ _ _ _ us hl => match us, hl with | [_], _ => rfl))
    (case d_number_of => refine' BD.df_mk KX G ?a ?l ?c ?k ?b; (case a => k_is); (case l => k_is); (case c => k_is); (case k => k_is); (case b => exact fun _ _ _ _ _ _ us hl => match us, hl with | [_], _ => rfl))
    (case d_term_from => refine' BD.df_mk KX G ?a ?l ?c ?k ?b; (case a => k_is); (case l => k_is); (case c => k_is); (case k => k_is); (case b => exact fun _ _ _ _ _ _ us hl => match us, hl with | [_, _], _ => rfl))
    (case d_measure_from => refine' BD.df_mk KX G ?a ?l ?c ?k ?b; (case a => k_is); (case l => k_is); (case c => k_is); (case k => k_is); (case b => exact fun _ _ _ _ _ _ us hl => match us, hl with | [_], _ => rfl))
    (case d_lists_from => refine' BD.df_mk KX G ?a ?l ?c ?k ?b; (case a => k_is); (case l => k_is); (case c => k_is); (case k => k_is); (case b => exact fun _ _ _ _ _ _ us hl => match us, hl with | [_], _ => rfl))
    (case d_pairs_from => refine' BD.df_mk KX G ?a ?l ?c ?k ?b; (case a => k_is); (case l => k_is); (case c => k_is); (case k => k_is); (case b => exact fun _ _ _ _ _ _ us hl => match us, hl with | [_], _ => rfl))
    (case d_view_from => refine' BD.df_mk KX G ?a ?l ?c ?k ?b; (case a => k_is); (case l => k_is); (case c => k_is); (case k => k_is); (case b => exact fun _ _ _ _ _ _ us hl => match us, hl with | [_, _], _ => rfl))
    (case d_asked_from => refine' BD.df_mk KX G ?a ?l ?c ?k ?b; (case a => k_is); (case l => k_is); (case c => k_is); (case k => k_is); (case b => exact fun _ _ _ _ _ _ us hl => match us, hl with | [_], _ => rfl))
    (case d_asking_from => refine' BD.df_mk KX G ?a ?l ?c ?k ?b; (case a => k_is); (case l => k_is); (case c => k_is); (case k => k_is); (case b => exact fun _ _ _ _ _ _ us hl => match us, hl with | [_, _], _ => rfl))
    (case d_said_in => refine' BD.df_mk KX G ?a ?l ?c ?k ?b; (case a => k_is); (case l => k_is); (case c => k_is); (case k => k_is); (case b => exact fun _ _ _ _ _ _ us hl => match us, hl with | [_], _ => rfl))
    (case d_lies_right => refine' BD.df_mk KX G ?a ?l ?c ?k ?b; (case a => k_is); (case l => k_is); (case c => k_is); (case k => k_is); (case b => exact fun _ _ _ _ _ _ us hl => match us, hl with | [_, _], _ => rfl))
    (case d_row_said => refine' BD.df_mk KX G ?a ?l ?c ?k ?b; (case a => k_is); (case l => k_is); (case c => k_is); (case k => k_is); (case b => exact fun _ _ _ _ _ _ us hl => match us, hl with | [_], _ => rfl))
    (case d_read => refine' BD.df_mk KX G ?a ?l ?c ?k ?b; (case a => k_is); (case l => k_is); (case c => k_is); (case k => k_is); (case b => exact fun _ _ _ _ _ _ us hl => match us, hl with | [_], _ => rfl))
    (case d_term_words => refine' BD.df_mk KX G ?a ?l ?c ?k ?b; (case a => k_is); (case l => k_is); (case c => k_is); (case k => k_is); (case b => exact fun _ _ _ _ _ _ us hl => match us, hl with | [_], _ => rfl))
    (case d_measure_words => refine' BD.df_mk KX G ?a ?l ?c ?k ?b; (case a => k_is); (case l => k_is); (case c => k_is); (case k => k_is); (case b => exact fun _ _ _ _ _ _ us hl => match us, hl with | [_], _ => rfl))
    (case d_lists_words => refine' BD.df_mk KX G ?a ?l ?c ?k ?b; (case a => k_is); (case l => k_is); (case c => k_is); (case k => k_is); (case b => exact fun _ _ _ _ _ _ us hl => match us, hl with | [_], _ => rfl))
    (case d_pairs_words => refine' BD.df_mk KX G ?a ?l ?c ?k ?b; (case a => k_is); (case l => k_is); (case c => k_is); (case k => k_is); (case b => exact fun _ _ _ _ _ _ us hl => match us, hl with | [_], _ => rfl))
    (case d_view_words => refine' BD.df_mk KX G ?a ?l ?c ?k ?b; (case a => k_is); (case l => k_is); (case c => k_is); (case k => k_is); (case b => exact fun _ _ _ _ _ _ us hl => match us, hl with | [_], _ => rfl))
    (case d_asked_words => refine' BD.df_mk KX G ?a ?l ?c ?k ?b; (case a => k_is); (case l => k_is); (case c => k_is); (case k => k_is); (case b => exact fun _ _ _ _ _ _ us hl => match us, hl with | [_, _], _ => rfl))
    (case d_pick_words => refine' BD.df_mk KX G ?a ?l ?c ?k ?b; (case a => k_is); (case l => k_is); (case c => k_is); (case k => k_is); (case b => exact fun _ _ _ _ _ _ us hl => match us, hl with | [_], _ => rfl))
    (case d_block_rows => refine' BD.df_mk KX G ?a ?l ?c ?k ?b; (case a => k_is); (case l => k_is); (case c => k_is); (case k => k_is); (case b => exact fun _ _ _ _ _ _ us hl => match us, hl with | [_], _ => rfl))
    (case d_statement_rows => refine' BD.df_mk KX G ?a ?l ?c ?k ?b; (case a => k_is); (case l => k_is); (case c => k_is); (case k => k_is); (case b => exact fun _ _ _ _ _ _ us hl => match us, hl with | [_], _ => rfl))
    (case d_all_rows => refine' BD.df_mk KX G ?a ?l ?c ?k ?b; (case a => k_is); (case l => k_is); (case c => k_is); (case k => k_is); (case b => exact fun _ _ _ _ _ _ us hl => match us, hl with | [_], _ => rfl))
    (case d_written => refine' BD.df_mk KX G ?a ?l ?c ?k ?b; (case a => k_is); (case l => k_is); (case c => k_is); (case k => k_is); (case b => exact fun _ _ _ _ _ _ us hl => match us, hl with | [_], _ => rfl))
    (case d__law_whole => refine' BD.df_mk KX G ?a ?l ?c ?k ?b; (case a => k_is); (case l => k_is); (case c => k_is); (case k => k_is); (case b => exact fun _ _ _ _ _ _ us hl => match us, hl with | [_], _ => rfl))
    (case d__law_at => refine' BD.df_mk KX G ?a ?l ?c ?k ?b; (case a => k_is); (case l => k_is); (case c => k_is); (case k => k_is); (case b => exact fun _ _ _ _ _ _ us hl => match us, hl with | [_, _], _ => rfl))
    (case d__law_big => refine' BD.df_mk KX G ?a ?l ?c ?k ?b; (case a => k_is); (case l => k_is); (case c => k_is); (case k => k_is); (case b => exact fun _ _ _ _ _ _ us hl => match us, hl with | [_], _ => rfl))
    (case d__law_word_of => refine' BD.df_mk KX G ?a ?l ?c ?k ?b; (case a => k_is); (case l => k_is); (case c => k_is); (case k => k_is); (case b => exact fun _ _ _ _ _ _ us hl => match us, hl with | [_], _ => rfl))
    (case d__law_leaf_by => refine' BD.df_mk KX G ?a ?l ?c ?k ?b; (case a => k_is); (case l => k_is); (case c => k_is); (case k => k_is); (case b => exact fun _ _ _ _ _ _ us hl => match us, hl with | [_], _ => rfl))
    (case d__law_term_by => refine' BD.df_mk KX G ?a ?l ?c ?k ?b; (case a => k_is); (case l => k_is); (case c => k_is); (case k => k_is); (case b => exact fun _ _ _ _ _ _ us hl => match us, hl with | [_], _ => rfl))
    (case d__law_lists_by => refine' BD.df_mk KX G ?a ?l ?c ?k ?b; (case a => k_is); (case l => k_is); (case c => k_is); (case k => k_is); (case b => exact fun _ _ _ _ _ _ us hl => match us, hl with | [_, _, _], _ => rfl))
    (case d__law_pairs_by => refine' BD.df_mk KX G ?a ?l ?c ?k ?b; (case a => k_is); (case l => k_is); (case c => k_is); (case k => k_is); (case b => exact fun _ _ _ _ _ _ us hl => match us, hl with | [_], _ => rfl))
    (case d__law_view_by => refine' BD.df_mk KX G ?a ?l ?c ?k ?b; (case a => k_is); (case l => k_is); (case c => k_is); (case k => k_is); (case b => exact fun _ _ _ _ _ _ us hl => match us, hl with | [_, _], _ => rfl))
    (case d__law_source_by => refine' BD.df_mk KX G ?a ?l ?c ?k ?b; (case a => k_is); (case l => k_is); (case c => k_is); (case k => k_is); (case b => exact fun _ _ _ _ _ _ us hl => match us, hl with | [_], _ => rfl))
    (case d__law_asking_by => refine' BD.df_mk KX G ?a ?l ?c ?k ?b; (case a => k_is); (case l => k_is); (case c => k_is); (case k => k_is); (case b => exact fun _ _ _ _ _ _ us hl => match us, hl with | [_, _], _ => rfl))
    (case d__law_opened => refine' BD.df_mk KX G ?a ?l ?c ?k ?b; (case a => k_is); (case l => k_is); (case c => k_is); (case k => k_is); (case b => exact fun _ _ _ _ _ _ us hl => match us, hl with | [_], _ => rfl))
    (case d__law_shut => refine' BD.df_mk KX G ?a ?l ?c ?k ?b; (case a => k_is); (case l => k_is); (case c => k_is); (case k => k_is); (case b => exact fun _ _ _ _ _ _ us hl => match us, hl with | [_, _], _ => rfl))
    (case d__law_go_on => refine' BD.df_mk KX G ?a ?l ?c ?k ?b; (case a => k_is); (case l => k_is); (case c => k_is); (case k => k_is); (case b => exact fun _ _ _ _ _ _ us hl => match us, hl with | [_, _, _, _], _ => rfl))
    (case d__law_built => refine' BD.df_mk KX G ?a ?l ?c ?k ?b; (case a => k_is); (case l => k_is); (case c => k_is); (case k => k_is); (case b => exact fun _ _ _ _ _ _ us hl => match us, hl with | [_], _ => rfl))
    (case d__law_bad_asks => refine' BD.df_mk KX G ?a ?l ?c ?k ?b; (case a => k_is); (case l => k_is); (case c => k_is); (case k => k_is); (case b => exact fun _ _ _ _ _ _ us hl => match us, hl with | [_], _ => rfl))
    (case d__law_bad_flats => refine' BD.df_mk KX G ?a ?l ?c ?k ?b; (case a => k_is); (case l => k_is); (case c => k_is); (case k => k_is); (case b => exact fun _ _ _ _ _ _ us hl => match us, hl with | [_], _ => rfl))
    (case d__law_bad_row => refine' BD.df_mk KX G ?a ?l ?c ?k ?b; (case a => k_is); (case l => k_is); (case c => k_is); (case k => k_is); (case b => exact fun _ _ _ _ _ _ us hl => match us, hl with | [_], _ => rfl))
    (case d__law_open => refine' BD.df_mk KX G ?a ?l ?c ?k ?b; (case a => k_is); (case l => k_is); (case c => k_is); (case k => k_is); (case b => exact fun _ _ _ _ _ _ us hl => match us, hl with | [_], _ => rfl))
    (case d__law_not_here => refine' BD.df_mk KX G ?a ?l ?c ?k ?b; (case a => k_is); (case l => k_is); (case c => k_is); (case k => k_is); (case b => exact fun _ _ _ _ _ _ us hl => match us, hl with | [_, _], _ => rfl))
    (case d__law_ends => refine' BD.df_mk KX G ?a ?l ?c ?k ?b; (case a => k_is); (case l => k_is); (case c => k_is); (case k => k_is); (case b => exact fun _ _ _ _ _ _ us hl => match us, hl with | [_], _ => rfl))
    (case d__law_read => refine' BD.df_mk KX G ?a ?l ?c ?k ?b; (case a => k_is); (case l => k_is); (case c => k_is); (case k => k_is); (case b => exact fun _ _ _ _ _ _ us hl => match us, hl with | [_], _ => rfl))
    (case d__law_changed => refine' BD.df_mk KX G ?a ?l ?c ?k ?b; (case a => k_is); (case l => k_is); (case c => k_is); (case k => k_is); (case b => exact fun _ _ _ _ _ _ us hl => match us, hl with | [_, _], _ => rfl))
    (case d__law_any => refine' BD.df_mk KX G ?a ?l ?c ?k ?b; (case a => k_is); (case l => k_is); (case c => k_is); (case k => k_is); (case b => exact fun _ _ _ _ _ _ us hl => match us, hl with | [_], _ => rfl))
    (case d_law => refine' BD.df_mk KX G ?a ?l ?c ?k ?b; (case a => k_is); (case l => k_is); (case c => k_is); (case k => k_is); (case b => exact fun _ _ _ _ _ _ us hl => match us, hl with | [_], _ => rfl))
