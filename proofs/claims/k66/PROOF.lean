import PyProof.Rows.All
import HandS.Text
import Wide.All
import OpenK.AllK
import Wide.FinOn
import HandS.ForMost
import HandS.Exc
import HandS.ExcOwn
import HandS.RaiseMore
import HandS.ExcInit
import HandS.TryOnly
import HandS.WordsExc
import HandS.Zip
import HandS.IsInst
import HandS.Wide
import HandS.Replace
import HandS.ReplaceDef
import HandS.ReplaceLit
import HandS.ReplaceList
import PyProof.Rows.StrOr
import HandS.ExcField
import PySem.Challenge.RW_tellsasleep_k66_papers_as_text
set_option Elab.async false
set_option linter.all false
set_option maxRecDepth 100000
set_option maxHeartbeats 2000000
/-! K66Math: what the law k66 is about, over lists of code points: written rows, tokens, the stack machine, both readers, the round trip. -/
namespace K66
open PySem L2 PySem.NumText TL
abbrev Cs := List Nat
abbrev D := PyData

def low (c : Nat) : Bool := decide (97 ≤ c ∧ c ≤ 122)
def dig (c : Nat) : Bool := decide (48 ≤ c ∧ c ≤ 57)

/-! ### numbers -/
def intL (i : Int) : Cs := if i < 0 then 45 :: numL i.natAbs else numL i.natAbs
theorem tl_int (i : Int) : tl (Str.ofString (toString i)) = intL i := by
  unfold intL
  by_cases h : i < 0
  · rw [if_pos h]
    obtain ⟨n, rfl⟩ : ∃ n : Nat, i = Int.negSucc n := by
      cases i with
      | ofNat n => exact absurd h (by simp)
      | negSucc n => exact ⟨n, rfl⟩
    have e : (toString (Int.negSucc n) : String) = "-" ++ toString (n + 1) := rfl
    rw [e, tl_ofString, String.toList_append, List.map_append]
    have e2 : (toString (n + 1) : String).toList.map Char.toNat = numL (n + 1) := by
      have z := tl_num (n + 1)
      rw [tl_ofString] at z
      exact z
    rw [e2]
    rfl
  · rw [if_neg h]
    obtain ⟨n, rfl⟩ : ∃ n : Nat, i = (n : Int) := ⟨i.toNat, by omega⟩
    exact tl_num n
theorem intL_nonneg {i : Int} (h : 0 ≤ i) : intL i = numL i.natAbs := if_neg (by omega)
theorem intL_neg {i : Int} (h : i < 0) : intL i = 45 :: numL i.natAbs := if_pos h
theorem numL_head {n : Nat} : n ≠ 0 → ∃ c r, numL n = c :: r ∧ 49 ≤ c ∧ c ≤ 57 := by
  induction n using Nat.strongRecOn with
  | _ n ih =>
    intro h0
    by_cases h : n < 10
    · exact ⟨48 + n, [], numL_lt h, by omega, by omega⟩
    · obtain ⟨c, r, e, h1, h2⟩ := ih (n / 10) (by omega) (by omega)
      exact ⟨c, r ++ [48 + n % 10], by rw [numL_step (by omega), e]; rfl, h1, h2⟩
theorem numL_zero : numL 0 = [48] := numL_lt (by decide)
theorem numL_back {cs : List Nat} (h : AllDigits cs) (h1 : cs ≠ []) (hc : cs.head? ≠ some 48 ∨ cs = [48]) : numL (digitsVal cs) = cs := by
  have hm : (cs.map Char.ofNat).map Char.toNat = cs := by
    rw [List.map_map]
    conv => rhs; rw [← List.map_id cs]
    refine List.map_congr_left fun c hc' => ?_
    have := h c hc'
    show (Char.ofNat c).toNat = c
    have : c.isValidChar := Or.inl (by omega)
    rw [Char.ofNat, dif_pos this]
    rfl
  show (Nat.toDigits 10 (digitsVal cs)).map Char.toNat = cs
  cases cs with
  | nil => exact absurd rfl h1
  | cons c r =>
    have hd := h c (List.mem_cons_self ..)
    rw [toDigits_digitsVal r.length (c :: r) rfl h (by
      rcases hc with hc | hc
      · exact .inr ⟨c, r, rfl, by
          have : c ≠ 48 := fun e => hc (by rw [e]; rfl)
          omega⟩
      · left
        injection hc with _ e
        rw [e]; rfl)]
    exact hm

/-! ### words -/
def allB (p : Nat → Bool) (l : Cs) : Bool := l.all p
def isWord (w : Cs) : Bool := match w with
  | [] => false
  | c :: r => low c && (c :: r).all fun x => low x || dig x
/-- the figures of a word -/
def figs (w : Cs) : Cs := if w.head? = some 45 then w.tail else w
def isNumber (w : Cs) : Bool := decide (figs w ≠ []) && decide ((figs w).length ≤ 1000) && (figs w).all dig && (decide ((figs w).head? ≠ some 48) || decide (w = [48]))
def intVal (w : Cs) : Int := if w.head? = some 45 then -(digitsVal w.tail : Int) else (digitsVal w : Int)
def mkS (l : Cs) : Str := ⟨l.toArray⟩
theorem tl_mkS (l : Cs) : tl (mkS l) = l := rfl
def readWord (w : Cs) : Option D :=
  if w = [45] then some .none else if isNumber w = true then some (.int (intVal w)) else if isWord w = true then some (.str (mkS w)) else none
theorem allDig {l : Cs} : l.all dig = true ↔ AllDigits l := by
  unfold AllDigits
  rw [List.all_eq_true]
  exact ⟨fun h c hc => of_decide_eq_true (h c hc), fun h c hc => decide_eq_true (h c hc)⟩
theorem isNumber_iff {w : Cs} : isNumber w = true ↔ figs w ≠ [] ∧ (figs w).length ≤ 1000 ∧ AllDigits (figs w) ∧ ((figs w).head? ≠ some 48 ∨ w = [48]) := by
  unfold isNumber
  rw [Bool.and_eq_true, Bool.and_eq_true, Bool.and_eq_true, Bool.or_eq_true, decide_eq_true_iff, decide_eq_true_iff, decide_eq_true_iff, decide_eq_true_iff, allDig]
  exact ⟨fun ⟨⟨⟨a, b⟩, c⟩, d⟩ => ⟨a, b, c, d⟩, fun ⟨a, b, c, d⟩ => ⟨⟨⟨a, b⟩, c⟩, d⟩⟩
theorem head45 {w : Cs} (h : w.head? = some 45) : w = 45 :: w.tail := by
  cases w with
  | nil => cases h
  | cons c r => simp only [List.head?_cons, Option.some.injEq] at h; rw [h]; rfl
theorem num_text {w : Cs} (h : isNumber w = true) : intText? (mkS w) = some (intVal w) := by
  obtain ⟨h1, h2, h3, h4⟩ := isNumber_iff.mp h
  unfold intVal
  unfold figs at h1 h2 h3 h4
  by_cases hd : w.head? = some 45
  · rw [if_pos hd] at h1 h2 h3 h4 ⊢
    refine intText_neg (x := mkS w) (cs := w.tail) (head45 hd) h3 h1 ?_
    show w.toArray.size ≤ 4300
    have e := congrArg List.length (head45 hd)
    rw [List.length_cons] at e
    rw [List.size_toArray]
    omega
  · rw [if_neg hd] at h1 h2 h3 h4 ⊢
    refine intText_digits (x := mkS w) h3 h1 ?_
    show w.toArray.size ≤ 4300
    rw [List.size_toArray]
    omega
theorem num_back {w : Cs} (h : isNumber w = true) : intL (intVal w) = w := by
  obtain ⟨h1, h2, h3, h4⟩ := isNumber_iff.mp h
  unfold intVal
  unfold figs at h1 h2 h3 h4
  by_cases hd : w.head? = some 45
  · rw [if_pos hd] at h1 h2 h3 h4 ⊢
    have hw := head45 hd
    have h5 : w.tail.head? ≠ some 48 := by
      rcases h4 with h4 | h4
      · exact h4
      · rw [h4] at hd; cases hd
    have b := numL_back h3 h1 (.inl h5)
    have pos : 0 < digitsVal w.tail := by
      cases hq : w.tail with
      | nil => exact absurd hq h1
      | cons c r =>
        rw [hq] at h5 h3
        have := h3 c (List.mem_cons_self ..)
        have : c ≠ 48 := fun e => h5 (by rw [e]; rfl)
        exact digitsVal_pos (by omega)
    rw [intL_neg (by omega)]
    have e : (-(digitsVal w.tail : Int)).natAbs = digitsVal w.tail := by omega
    rw [e, b]
    exact hw.symm
  · rw [if_neg hd] at h1 h2 h3 h4 ⊢
    rw [intL_nonneg (by omega)]
    have e : ((digitsVal w : Int)).natAbs = digitsVal w := by omega
    rw [e]
    refine numL_back h3 h1 ?_
    rcases h4 with h4 | h4
    · exact .inl h4
    · exact .inr h4

/-! ### written data -/
mutual
def wr : D → Cs
  | .none => [45]
  | .int i => intL i
  | .str s => tl s
  | .tuple xs => 40 :: (wrs xs ++ [41])
  | _ => []
def wrs : List D → Cs
  | [] => []
  | x :: r => wr x ++ wrt r
def wrt : List D → Cs
  | [] => []
  | x :: r => 32 :: (wr x ++ wrt r)
end
def sp (l : List D) : Cs := if l = [] then [] else [32]
theorem wrt_app : ∀ (l m : List D), wrt (l ++ m) = wrt l ++ wrt m
  | [], m => by simp [wrt]
  | x :: l, m => by
    rw [List.cons_append, wrt, wrt, wrt_app l m, List.cons_append, List.append_assoc]
theorem wrs_snoc (l : List D) (x : D) : wrs (l ++ [x]) = wrs l ++ sp l ++ wr x := by
  cases l with
  | nil => simp [wrs, wrt, sp]
  | cons y r =>
    rw [List.cons_append, wrs, wrs, wrt_app]
    have e : sp (y :: r) = [32] := if_neg (by simp)
    rw [e]
    simp [wrt]
theorem wrs_join : ∀ (l : List D), wrs l = joinL [32] (l.map wr)
  | [] => rfl
  | [x] => by simp [wrs, wrt, joinL]
  | x :: y :: r => by
    have ih := wrs_join (y :: r)
    rw [List.map_cons, List.map_cons, joinL, ← List.map_cons, ← ih]
    simp [wrs, wrt]
theorem readWord_wr {w : Cs} {d : D} (h : readWord w = some d) : wr d = w := by
  unfold readWord at h
  split at h
  · rename_i e
    injection h with h
    rw [← h, e]; rfl
  · split at h
    · rename_i e
      injection h with h
      rw [← h]
      exact num_back e
    · split at h
      · injection h with h
        rw [← h]; rfl
      · cases h

/-! ### tokens and the line that has them -/
def put (w : Cs) : List Cs := if w = [] then [] else [w]
def toksGo : Cs → Cs → List Cs
  | w, [] => put w
  | w, c :: r => if c = 40 ∨ c = 41 then put w ++ [c] :: toksGo [] r else if c = 32 then put w ++ toksGo [] r else toksGo (w ++ [c]) r
def toks (l : Cs) : List Cs := toksGo [] l
def lstep (s : Cs × Option Cs) (t : Cs) : Cs × Option Cs :=
  (s.1 ++ (if s.2 ≠ none ∧ t ≠ [41] ∧ s.2 ≠ some [40] then [32] else []) ++ t, some t)
def lfold (ts : List Cs) : Cs × Option Cs := ts.foldl lstep ([], none)
def lineOf (ts : List Cs) : Cs := (lfold ts).1
theorem lfold_snoc (ts : List Cs) (t : Cs) : lfold (ts ++ [t]) = lstep (lfold ts) t := by
  unfold lfold
  rw [List.foldl_append]
  rfl
theorem lfold_last : ∀ (ts : List Cs), (lfold ts).2 = ts.getLast? := fun ts => by
  rcases List.eq_nil_or_concat ts with rfl | ⟨r, t, rfl⟩
  · rfl
  · rw [List.concat_eq_append, lfold_snoc]
    show some t = _
    rw [List.getLast?_append]; rfl

/-! ### the stack machine -/
abbrev Stk := List D × List (List D)
def step (st : Stk) (t : Cs) : Option Stk :=
  if t = [40] then (if st.2.length + 1 = 12 then none else some ([], st.1 :: st.2))
  else if t = [41] then (match st.2 with
    | [] => none
    | b :: bs => some (b ++ [.tuple st.1], bs))
  else (readWord t).map fun m => (st.1 ++ [m], st.2)
def runS : Stk → List Cs → Option Stk
  | st, [] => some st
  | st, t :: r => (step st t).bind fun st' => runS st' r
def readToks (ts : List Cs) : Option (List D) := match runS ([], []) ts with
  | some (row, []) => some row
  | _ => none
theorem runS_app : ∀ (ts us : List Cs) (st : Stk), runS st (ts ++ us) = (runS st ts).bind fun st' => runS st' us
  | [], us, st => rfl
  | t :: ts, us, st => by
    rw [List.cons_append, runS, runS]
    cases step st t with
    | none => rfl
    | some st' => exact runS_app ts us st'
def wbelow : List (List D) → Cs
  | [] => []
  | b :: bs => wbelow bs ++ wrs b ++ sp b ++ [40]
/-- what holds of the stack behind the tokens ts -/
structure SInv (ts : List Cs) (st : Stk) : Prop where
  line : lineOf ts = wbelow st.2 ++ wrs st.1
  last : st.1 = [] ↔ (ts = [] ∨ ts.getLast? = some [40])
  bot : st.2 = [] → (ts = [] ↔ st.1 = [])
theorem sinv_nil : SInv [] ([], []) := ⟨rfl, by simp, by simp⟩
theorem sinv_step {ts : List Cs} {st st' : Stk} {t : Cs} (I : SInv ts st) (h : step st t = some st') : SInv (ts ++ [t]) st' := by
  have ne : ts ++ [t] ≠ [] := by simp
  have la : (ts ++ [t]).getLast? = some t := by rw [List.getLast?_append]; rfl
  have ln : lineOf (ts ++ [t]) = wbelow st.2 ++ wrs st.1 ++ (if t = [41] then [] else sp st.1) ++ t := by
    unfold lineOf
    rw [lfold_snoc]
    show (lfold ts).1 ++ (if (lfold ts).2 ≠ none ∧ t ≠ [41] ∧ (lfold ts).2 ≠ some [40] then [32] else []) ++ t = _
    have e : (lfold ts).1 = wbelow st.2 ++ wrs st.1 := I.line
    rw [e, lfold_last]
    congr 1
    congr 1
    have hl := I.last
    unfold sp
    have hn : ts.getLast? = none ↔ ts = [] := List.getLast?_eq_none_iff
    by_cases ht : t = [41]
    · rw [if_pos ht, if_neg (fun z => z.2.1 ht)]
    · rw [if_neg ht]
      by_cases h1 : st.1 = []
      · rw [if_pos h1, if_neg]
        rintro ⟨z1, _, z3⟩
        rcases hl.mp h1 with q | q
        · exact z1 (hn.mpr q)
        · exact z3 q
      · rw [if_neg h1, if_pos]
        exact ⟨fun q => h1 (hl.mpr (.inl (hn.mp q))), ht, fun q => h1 (hl.mpr (.inr q))⟩
  unfold step at h
  split at h
  · rename_i ht
    split at h
    · cases h
    · injection h with h
      subst h
      refine ⟨?_, ?_, fun z => by cases z⟩
      · rw [ln, if_neg (by rw [ht]; decide), ht]
        show _ = wbelow (st.1 :: st.2) ++ wrs []
        simp [wbelow, wrs]
      · rw [la, ht]
        simp
  · rename_i ht
    split at h
    · rename_i ht2
      split at h
      · cases h
      · rename_i b bs hb
        injection h with h
        subst h
        refine ⟨?_, ?_, fun _ => ?_⟩
        · rw [ln, if_pos ht2, ht2, hb]
          show _ = wbelow bs ++ wrs (b ++ [PyData.tuple st.1])
          rw [wrs_snoc]
          simp [wbelow, wr]
        · rw [la, ht2]
          simp
        · simp
    · rename_i ht2
      cases hw : readWord t with
      | none => rw [hw] at h; cases h
      | some m =>
        rw [hw] at h
        injection h with h
        subst h
        refine ⟨?_, ?_, fun _ => ?_⟩
        · rw [ln, if_neg ht2]
          show _ = wbelow st.2 ++ wrs (st.1 ++ [m])
          rw [wrs_snoc, readWord_wr hw]
          simp
        · rw [la]
          simp [ht]
        · simp
theorem sinv_run : ∀ (us ts : List Cs) (st st' : Stk), SInv ts st → runS st us = some st' → SInv (ts ++ us) st'
  | [], ts, st, st', I, h => by
    injection h with h
    subst h
    rw [List.append_nil]; exact I
  | u :: us, ts, st, st', I, h => by
    rw [runS] at h
    cases hs : step st u with
    | none => rw [hs] at h; cases h
    | some s1 =>
      rw [hs] at h
      have := sinv_run us (ts ++ [u]) s1 st' (sinv_step I hs) h
      rwa [List.append_assoc] at this
theorem readToks_inv {ts : List Cs} {row : List D} (h : readToks ts = some row) : lineOf ts = wrs row ∧ (ts = [] ↔ row = []) := by
  unfold readToks at h
  split at h
  · rename_i r hr
    injection h with h
    subst h
    have I := sinv_run ts [] ([], []) (r, []) sinv_nil hr
    rw [List.nil_append] at I
    exact ⟨I.line, I.bot rfl⟩
  · cases h

/-! ### the two readers of a line -/
def progLine (l : Cs) : Option (List D) := if lineOf (toks l) ≠ l ∨ toks l = [] then none else readToks (toks l)
def lawLine (l : Cs) : Option (List D) := match readToks (toks l) with
  | none => none
  | some row => if row = [] then none else if wrs row = l then some row else none
theorem lines_same (l : Cs) : progLine l = lawLine l := by
  unfold progLine lawLine
  cases h : readToks (toks l) with
  | none => simp
  | some row =>
    obtain ⟨h1, h2⟩ := readToks_inv h
    dsimp only
    rw [h1]
    by_cases hr : row = []
    · rw [if_pos hr, if_pos (.inr (h2.mpr hr))]
    · rw [if_neg hr]
      by_cases hl : wrs row = l
      · rw [if_pos hl, if_neg]
        rintro (z | z)
        · exact z hl
        · exact hr (h2.mp z)
      · rw [if_neg hl, if_pos (.inl hl)]

/-! ### good data: what the law builds -/
mutual
def good : Nat → D → Prop
  | _, .none => True
  | _, .int i => (numL i.natAbs).length ≤ 1000
  | _, .str s => isWord (tl s) = true
  | 0, .tuple _ => False
  | n + 1, .tuple xs => goods n xs
  | _, _ => False
def goods : Nat → List D → Prop
  | _, [] => True
  | n, x :: r => good n x ∧ goods n r
end
theorem goods_mem {n : Nat} : ∀ {l : List D}, goods n l ↔ ∀ d ∈ l, good n d
  | [] => by simp [goods]
  | x :: r => by
    rw [goods, goods_mem (l := r)]
    simp
theorem goods_app {n : Nat} {l m : List D} : goods n (l ++ m) ↔ goods n l ∧ goods n m := by
  rw [goods_mem, goods_mem, goods_mem]
  simp only [List.mem_append]
  exact ⟨fun h => ⟨fun d hd => h d (.inl hd), fun d hd => h d (.inr hd)⟩, fun ⟨a, b⟩ d hd => hd.elim (a d) (b d)⟩
mutual
theorem good_mono : ∀ {n m : Nat} {d : D}, n ≤ m → good n d → good m d
  | n, m, .none, _, _ => by simp [good]
  | n, m, .int i, _, h => by simpa [good] using h
  | n, m, .str s, _, h => by simpa [good] using h
  | 0, m, .tuple xs, _, h => by simp [good] at h
  | n + 1, m, .tuple xs, hm, h => by
    obtain ⟨k, rfl⟩ : ∃ k, m = k + 1 := ⟨m - 1, by omega⟩
    simp only [good] at h ⊢
    exact goods_mono (by omega) h
  | n, m, .bool b, _, h => by simp [good] at h
  | n, m, .list b, _, h => by simp [good] at h
  | n, m, .dict b, _, h => by simp [good] at h
theorem goods_mono : ∀ {n m : Nat} {l : List D}, n ≤ m → goods n l → goods m l
  | _, _, [], _, _ => by simp [goods]
  | n, m, x :: r, hm, h => by
    simp only [goods] at h ⊢
    exact ⟨good_mono hm h.1, goods_mono hm h.2⟩
end

/-! ### the words of good leaves -/
/-- no sign that parts tokens -/
def plain (w : Cs) : Prop := ∀ c ∈ w, c ≠ 32 ∧ c ≠ 40 ∧ c ≠ 41
theorem word_plain {w : Cs} (h : isWord w = true) : w ≠ [] ∧ plain w ∧ (10 ∉ w) ∧ ∃ c r, w = c :: r ∧ 97 ≤ c := by
  cases w with
  | nil => cases h
  | cons c r =>
    unfold isWord at h
    rw [Bool.and_eq_true] at h
    obtain ⟨h1, h2⟩ := h
    rw [List.all_eq_true] at h2
    have k : ∀ x ∈ c :: r, 48 ≤ x := fun x hx => by
      have z := h2 x hx
      rw [Bool.or_eq_true] at z
      rcases z with z | z
      · exact Nat.le_trans (by decide) (of_decide_eq_true z).1
      · exact (of_decide_eq_true z).1
    refine ⟨by simp, fun x hx => ?_, fun hx => absurd (k 10 hx) (by decide), c, r, rfl, (of_decide_eq_true h1).1⟩
    have := k x hx
    omega
theorem intL_plain (i : Int) : intL i ≠ [] ∧ plain (intL i) ∧ 10 ∉ intL i := by
  have k : ∀ c ∈ intL i, c = 45 ∨ (48 ≤ c ∧ c ≤ 57) := fun c hc => by
    unfold intL at hc
    split at hc
    · rcases List.mem_cons.mp hc with e | hc
      · exact .inl e
      · exact .inr (numL_digits _ c hc)
    · exact .inr (numL_digits _ c hc)
  refine ⟨?_, fun c hc => ?_, fun hc => ?_⟩
  · unfold intL
    split
    · simp
    · exact numL_ne _
  · rcases k c hc with h | h <;> omega
  · rcases k 10 hc with h | h <;> omega
theorem read_none : readWord [45] = some .none := if_pos rfl
theorem read_int {i : Int} (h : (numL i.natAbs).length ≤ 1000) : readWord (intL i) = some (.int i) := by
  have key : intL i ≠ [45] ∧ isNumber (intL i) = true ∧ intVal (intL i) = i := by
    by_cases hi : i < 0
    · have e : intL i = 45 :: numL i.natAbs := intL_neg hi
      obtain ⟨c, r, hc, h1, h2⟩ := numL_head (n := i.natAbs) (by omega)
      have hd : (intL i).head? = some 45 := by rw [e]; rfl
      have ht : (intL i).tail = numL i.natAbs := by rw [e]; rfl
      refine ⟨?_, ?_, ?_⟩
      · rw [e, hc]; simp
      · rw [isNumber_iff]
        have ef : figs (intL i) = numL i.natAbs := by unfold figs; rw [if_pos hd, ht]
        rw [ef]
        refine ⟨numL_ne _, h, numL_digits _, .inl ?_⟩
        rw [hc]
        show some c ≠ some 48
        intro z; injection z with z; omega
      · unfold intVal
        rw [if_pos hd, ht, numL_val]
        omega
    · have e : intL i = numL i.natAbs := intL_nonneg (by omega)
      have hdig := numL_digits i.natAbs
      have hd : (numL i.natAbs).head? ≠ some 45 := fun z => by
        have := hdig 45 (List.mem_of_mem_head? z)
        omega
      refine ⟨?_, ?_, ?_⟩
      · rw [e]; intro z; rw [z] at hd; exact hd rfl
      · rw [isNumber_iff, e]
        have ef : figs (numL i.natAbs) = numL i.natAbs := by unfold figs; rw [if_neg hd]
        rw [ef]
        refine ⟨numL_ne _, h, numL_digits _, ?_⟩
        by_cases h0 : i.natAbs = 0
        · right; rw [h0]; exact numL_zero
        · left
          obtain ⟨c, r, hc, h1, h2⟩ := numL_head h0
          rw [hc]
          show some c ≠ some 48
          intro z; injection z with z; omega
      · unfold intVal
        rw [e, if_neg hd, numL_val]
        omega
  unfold readWord
  rw [if_neg key.1, if_pos key.2.1, key.2.2]
theorem read_str {s : Str} (h : isWord (tl s) = true) : readWord (tl s) = some (.str s) := by
  obtain ⟨_, _, _, c, r, e, hc⟩ := word_plain h
  have hn : isNumber (tl s) = false := by
    cases hq : isNumber (tl s) with
    | false => rfl
    | true =>
      obtain ⟨_, _, h3, _⟩ := isNumber_iff.mp hq
      have hd : ¬ (tl s).head? = some 45 := by rw [e]; intro z; injection z with z; omega
      have ef : figs (tl s) = tl s := by unfold figs; rw [if_neg hd]
      rw [ef, e] at h3
      have := h3 c (List.mem_cons_self ..)
      omega
  unfold readWord
  rw [if_neg (by rw [e]; intro z; injection z with z _; omega), hn, if_neg (by decide), if_pos h]
  have : mkS (tl s) = s := mk_tl s
  rw [this]

/-! ### tokens of written data -/
mutual
def dtoks : D → List Cs
  | .tuple xs => [40] :: (dtokss xs ++ [[41]])
  | d => [wr d]
def dtokss : List D → List Cs
  | [] => []
  | x :: r => dtoks x ++ dtokss r
end
/-- what may stand behind a word -/
def cut (r : Cs) : Prop := r = [] ∨ ∃ c q, r = c :: q ∧ (c = 32 ∨ c = 41)
theorem toksGo_word : ∀ (w u r : Cs), plain w → cut r → u ++ w ≠ [] → toksGo u (w ++ r) = (u ++ w) :: toksGo [] r
  | [], u, r, _, hr, hne => by
    rw [List.append_nil] at hne ⊢
    have hp : put u = [u] := if_neg hne
    rcases hr with rfl | ⟨c, q, rfl, rfl | rfl⟩
    · show put u = [u]; exact hp
    · show (if 32 = 40 ∨ 32 = 41 then _ else if 32 = 32 then put u ++ toksGo [] q else _) = u :: toksGo [] (32 :: q)
      rw [if_neg (by decide), if_pos rfl, hp]
      rfl
    · show (if 41 = 40 ∨ 41 = 41 then put u ++ [41] :: toksGo [] q else _) = u :: toksGo [] (41 :: q)
      rw [if_pos (.inr rfl), hp]
      rfl
  | c :: w, u, r, hp, hr, _ => by
    have hc := hp c (List.mem_cons_self ..)
    rw [List.cons_append, toksGo, if_neg (by omega), if_neg (by omega), toksGo_word w (u ++ [c]) r (fun x hx => hp x (List.mem_cons_of_mem _ hx)) hr (by simp)]
    simp
theorem toksGo_leaf {w r : Cs} (hn : w ≠ []) (hp : plain w) (hr : cut r) : toksGo [] (w ++ r) = w :: toksGo [] r := by
  have := toksGo_word w [] r hp hr (by simpa using hn)
  rwa [List.nil_append] at this
mutual
theorem toks_wr : ∀ (n : Nat) (d : D) (r : Cs), good n d → cut r → toksGo [] (wr d ++ r) = dtoks d ++ toksGo [] r
  | n, .none, r, _, hr => toksGo_leaf (w := [45]) (by decide) (by intro c hc; rw [List.mem_singleton.mp hc]; decide) hr
  | n, .int i, r, _, hr => toksGo_leaf (w := intL i) (intL_plain i).1 (intL_plain i).2.1 hr
  | n, .str s, r, h, hr => by
    have h : isWord (tl s) = true := by simpa [good] using h
    exact toksGo_leaf (w := tl s) (word_plain h).1 (word_plain h).2.1 hr
  | 0, .tuple xs, r, h, _ => by simp [good] at h
  | n + 1, .tuple xs, r, h, hr => by
    have h : goods n xs := by simpa [good] using h
    rw [wr, dtoks, List.cons_append, toksGo, if_pos (.inl rfl)]
    show [] ++ [40] :: toksGo [] (wrs xs ++ [41] ++ r) = _
    rw [List.append_assoc, toks_wrs n xs ([41] ++ r) h (.inr ⟨41, r, rfl, .inr rfl⟩)]
    show [] ++ [40] :: (dtokss xs ++ toksGo [] (41 :: r)) = _
    have e : toksGo [] (41 :: r) = [41] :: toksGo [] r := by
      rw [toksGo, if_pos (.inr rfl)]; rfl
    rw [e]
    simp
  | n, .bool b, _, h, _ => by simp [good] at h
  | n, .list b, _, h, _ => by simp [good] at h
  | n, .dict b, _, h, _ => by simp [good] at h
theorem toks_wrs : ∀ (n : Nat) (l : List D) (r : Cs), goods n l → cut r → toksGo [] (wrs l ++ r) = dtokss l ++ toksGo [] r
  | _, [], r, _, _ => rfl
  | n, x :: l, r, h, hr => by
    have h : good n x ∧ goods n l := by simpa [goods] using h
    rw [wrs, dtokss, List.append_assoc, toks_wr n x (wrt l ++ r) h.1 (cut_wrt l hr), toks_wrt n l r h.2 hr, List.append_assoc]
theorem toks_wrt : ∀ (n : Nat) (l : List D) (r : Cs), goods n l → cut r → toksGo [] (wrt l ++ r) = dtokss l ++ toksGo [] r
  | _, [], r, _, _ => rfl
  | n, x :: l, r, h, hr => by
    have h : good n x ∧ goods n l := by simpa [goods] using h
    rw [wrt, dtokss, List.cons_append, toksGo, if_neg (by decide), if_pos rfl]
    show [] ++ toksGo [] (wr x ++ wrt l ++ r) = _
    rw [List.nil_append, List.append_assoc, toks_wr n x (wrt l ++ r) h.1 (cut_wrt l hr), toks_wrt n l r h.2 hr, List.append_assoc]
theorem cut_wrt : ∀ (l : List D) {r : Cs}, cut r → cut (wrt l ++ r)
  | [], r, h => h
  | x :: l, r, _ => .inr ⟨32, _, rfl, .inl rfl⟩
end
mutual
theorem run_dtoks : ∀ (n : Nat) (d : D) (top : List D) (bel : List (List D)), good n d → bel.length + 1 + n ≤ 12 → runS (top, bel) (dtoks d) = some (top ++ [d], bel)
  | n, .none, top, bel, _, _ => rfl
  | n, .int i, top, bel, h, _ => by
    have h : (numL i.natAbs).length ≤ 1000 := by simpa [good] using h
    have hw := read_int h
    have hp := (intL_plain i).2.1
    have ne : ∀ c, c = 40 ∨ c = 41 → intL i ≠ [c] := fun c hc z => by
      have := hp c (by rw [z]; simp)
      omega
    show (step (top, bel) (intL i)).bind _ = _
    unfold step
    rw [if_neg (ne 40 (.inl rfl)), if_neg (ne 41 (.inr rfl)), hw]
    rfl
  | n, .str s, top, bel, h, _ => by
    have h : isWord (tl s) = true := by simpa [good] using h
    have hw := read_str h
    have hp := (word_plain h).2.1
    have ne : ∀ c, c = 40 ∨ c = 41 → tl s ≠ [c] := fun c hc z => by
      have := hp c (by rw [z]; simp)
      omega
    show (step (top, bel) (tl s)).bind _ = _
    unfold step
    rw [if_neg (ne 40 (.inl rfl)), if_neg (ne 41 (.inr rfl)), hw]
    rfl
  | 0, .tuple xs, _, _, h, _ => by simp [good] at h
  | n + 1, .tuple xs, top, bel, h, hb => by
    have h : goods n xs := by simpa [good] using h
    rw [dtoks, runS]
    have e1 : step (top, bel) [40] = some ([], top :: bel) := by
      unfold step
      rw [if_pos rfl, if_neg (by show ¬ bel.length + 1 = 12; omega)]
    rw [e1]
    show runS ([], top :: bel) (dtokss xs ++ [[41]]) = _
    rw [runS_app, run_dtokss n xs [] (top :: bel) h (by rw [List.length_cons]; omega)]
    rfl
  | n, .bool b, _, _, h, _ => by simp [good] at h
  | n, .list b, _, _, h, _ => by simp [good] at h
  | n, .dict b, _, _, h, _ => by simp [good] at h
theorem run_dtokss : ∀ (n : Nat) (l : List D) (top : List D) (bel : List (List D)), goods n l → bel.length + 1 + n ≤ 12 → runS (top, bel) (dtokss l) = some (top ++ l, bel)
  | _, [], top, bel, _, _ => by rw [List.append_nil]; rfl
  | n, x :: l, top, bel, h, hb => by
    have h : good n x ∧ goods n l := by simpa [goods] using h
    rw [dtokss, runS_app, run_dtoks n x top bel h.1 hb]
    show runS (top ++ [x], bel) (dtokss l) = _
    rw [run_dtokss n l (top ++ [x]) bel h.2 hb]
    simp
end
/-- THE ROUND TRIP of a row -/
theorem line_back {row : List D} (h : goods 11 row) (hne : row ≠ []) : progLine (wrs row) = some row := by
  have ht : toks (wrs row) = dtokss row := by
    have z := toks_wrs 11 row [] h (.inl rfl)
    rw [List.append_nil] at z
    unfold toks
    rw [z]
    show dtokss row ++ [] = _
    rw [List.append_nil]
  have hr : readToks (dtokss row) = some row := by
    unfold readToks
    rw [run_dtokss 11 row [] [] h (by decide)]
    rfl
  obtain ⟨h1, h2⟩ := readToks_inv hr
  unfold progLine
  rw [ht, h1, if_neg, hr]
  rintro (z | z)
  · exact z rfl
  · exact hne (h2.mp z)

/-! ### papers -/
mutual
theorem wr_no10 : ∀ (n : Nat) (d : D), good n d → 10 ∉ wr d ∧ wr d ≠ []
  | n, .none, _ => by simp [wr]
  | n, .int i, _ => ⟨(intL_plain i).2.2, (intL_plain i).1⟩
  | n, .str s, h => by
    have h : isWord (tl s) = true := by simpa [good] using h
    exact ⟨(word_plain h).2.2.1, (word_plain h).1⟩
  | 0, .tuple xs, h => by simp [good] at h
  | n + 1, .tuple xs, h => by
    have h : goods n xs := by simpa [good] using h
    have ih := wrs_no10 n xs h
    simp [wr, ih]
  | n, .bool b, h => by simp [good] at h
  | n, .list b, h => by simp [good] at h
  | n, .dict b, h => by simp [good] at h
theorem wrs_no10 : ∀ (n : Nat) (l : List D), goods n l → 10 ∉ wrs l
  | _, [], _ => by simp [wrs]
  | n, x :: l, h => by
    have h : good n x ∧ goods n l := by simpa [goods] using h
    have h1 := (wr_no10 n x h.1).1
    have h2 := wrt_no10 n l h.2
    simp [wrs, h1, h2]
theorem wrt_no10 : ∀ (n : Nat) (l : List D), goods n l → 10 ∉ wrt l
  | _, [], _ => by simp [wrt]
  | n, x :: l, h => by
    have h : good n x ∧ goods n l := by simpa [goods] using h
    have h1 := (wr_no10 n x h.1).1
    have h2 := wrt_no10 n l h.2
    simp [wrt, h1, h2]
end
/-- all lines, or the number of the first that is none (from k on) -/
def readAll (f : Cs → Option (List D)) : Nat → List Cs → Except Nat (List (List D))
  | _, [] => .ok []
  | k, l :: r => match f l with
    | none => .error k
    | some row => match readAll f (k + 1) r with
      | .ok rows => .ok (row :: rows)
      | .error e => .error e
def lines (t : Cs) : List Cs := spl [10] 0 [] t
def paperOf (t : Cs) : Except Nat (List (List D)) := if t = [] then .ok [] else readAll progLine 1 (lines t)
def paperOfL (t : Cs) : Except Nat (List (List D)) := if t = [] then .ok [] else readAll lawLine 1 (lines t)
theorem papers_same (t : Cs) : paperOf t = paperOfL t := by
  unfold paperOf paperOfL
  rw [show progLine = lawLine from funext lines_same]
def ptext (p : List (List D)) : Cs := joinL [10] (p.map wrs)
theorem readAll_back : ∀ (p : List (List D)) (k : Nat), (∀ row ∈ p, goods 11 row ∧ row ≠ []) → readAll progLine k (p.map wrs) = .ok p
  | [], _, _ => rfl
  | row :: p, k, h => by
    have h1 := h row (List.mem_cons_self ..)
    rw [List.map_cons, readAll, line_back h1.1 h1.2, readAll_back p (k + 1) fun r hr => h r (List.mem_cons_of_mem _ hr)]
theorem wrs_ne {row : List D} (h : goods 11 row) (hne : row ≠ []) : wrs row ≠ [] := by
  cases row with
  | nil => exact absurd rfl hne
  | cons x l =>
    have h : good 11 x ∧ goods 11 l := by simpa [goods] using h
    have := (wr_no10 11 x h.1).2
    simp [wrs, this]
/-- THE ROUND TRIP of a paper -/
theorem paper_back {p : List (List D)} (h : ∀ row ∈ p, goods 11 row ∧ row ≠ []) : paperOf (ptext p) = .ok p := by
  unfold paperOf
  cases p with
  | nil => rfl
  | cons row p =>
    have hne : ptext (row :: p) ≠ [] := by
      have h1 := h row (List.mem_cons_self ..)
      have := wrs_ne h1.1 h1.2
      unfold ptext
      cases p with
      | nil => simpa [joinL] using this
      | cons q r => simp [joinL]
    rw [if_neg hne]
    have hl : lines (ptext (row :: p)) = (row :: p).map wrs := by
      unfold lines ptext
      refine spl_join (by simp) fun l hl => ?_
      obtain ⟨r, hr, rfl⟩ := List.mem_map.mp hl
      exact wrs_no10 11 r (h r hr).1
    rw [hl]
    exact readAll_back (row :: p) 1 h
end K66

set_option maxHeartbeats 4000000
/-! HRules: rules of our own, for any law: int(text) and str(int) to 4,300 figures, text * int, a def's call in one word, the law's end with the limit on figures told. -/
namespace PySem.W
open PySem PySem.Calls PySem.NumText PyProof.Rows
namespace HR
theorem wp_long {M : Model} {A : Around} {E : Value → Shared → Prop} {s : Shared} {Q : Value → Shared → Prop} {v : Value} {text : List Nat} {n : Int} (nd : s.heap.NoDigits)
    (hs : ¬ (text.takeWhile (· != 0)).length ≤ 640) (hr : (int_private% "readNumeral") 4300 10 (text.takeWhile (· != 0)) = (int_private% "Numeral.value") n)
    (ha : ((text.takeWhile (· != 0)).length == text.length) = true) (h : Q (.int n s.toks) { s with toks := s.toks + 1 }) :
    wpAny M A ((int_private% "intFromText") v text 10) Q E s := by
  obtain ⟨hp, g, d, tk, os⟩ := s
  obtain ⟨mc, hns, hnone⟩ := nd
  have lim : ∀ {Q' : Nat → Shared → Prop}, Q' 4300 ⟨hp, g, d, tk, os⟩ → wpAny M A Builtin.intMaxStrDigits Q' E ⟨hp, g, d, tk, os⟩ := fun {Q'} q => by
    unfold Builtin.intMaxStrDigits
    refine wpAny_bind (wpAny_nsGet hns ?_)
    rw [hnone]
    exact wpAny_pure q
  repeat (any_goals (first
    | assumption
    | (with_reducible refine wpAny_ite_false (decide_eq_false hs) ?_)
    | (with_reducible refine wpAny_ite_true (decide_eq_true ha) ?_)
    | (with_reducible refine lim ?_)
    | wp_step))
  all_goals (try rw [hr])
  all_goals (try dsimp only)
  repeat (any_goals (first
    | assumption
    | (with_reducible refine wpAny_ite_true (decide_eq_true ha) ?_)
    | wp_step))
structure Hd (p : Prop) : Prop where
  out : p
theorem meets_text {x : PySem.Str} {u : Tok} {n : Int} (hl : x.length ≤ 4300) (hn : PySem.intText? x = some n) :
    Meets (Builtin.«int.__new__» ⟨[.type "int", .str x u], []⟩) (fun _ R s => s.heap.NoDigits ∧ R (.ok (.ret (.int n s.toks))) { s with toks := s.toks + 1 }) :=
  .of_wp fun prog w A R s hS => by
    obtain ⟨nd, h⟩ := hS
    obtain ⟨hp, g, d, tk, os⟩ := s
    have f1 := F.conv_sub_int
    have f2 := F.madeHere_int
    have f3 := KIN.str_int
    have f4 := KIN.str_idx
    have f5 := KIN.str_trunc
    have f6 : typeOf (.str x u) = pure (.type "str") := rfl
    have hsz : x.length ≤ sizeLine := Nat.le_trans hl (by decide)
    have key : ∀ {M : Model} {A : Around} {E : Value → Shared → Prop} {Q : Value → Shared → Prop} {v : Value}, Q (.int n tk) ⟨hp, g, d, tk + 1, os⟩ → wpAny M A ((int_private% "intFromText") v (numTextOf x) 10) Q E ⟨hp, g, d, tk, os⟩ := fun {M A E Q v} q => by
      have hr : (int_private% "readNumeral") (numLimitOf x) 10 (numSeenOf x) = (int_private% "Numeral.value") n ∧ ((numSeenOf x).length == (numTextOf x).length) = true := by
        rcases readAny x hsz with ⟨m, h1, h2, h3⟩ | ⟨h1, _⟩
        · rw [hn] at h1
          injection h1 with h1
          subst h1
          exact ⟨h3, h2⟩
        · rw [hn] at h1
          cases h1
      by_cases hs : (numSeenOf x).length ≤ 640
      · have e : numLimitOf x = 0 := if_pos hs
        rw [e] at hr
        exact KIN.wp_text hs hr.1 hr.2 q
      · have e : numLimitOf x = 4300 := if_neg hs
        rw [e] at hr
        exact wp_long nd hs hr.1 hr.2 q
    have hk := Hd.mk (@key)
    clear key hl hn hsz nd
    repeat (any_goals (first
      | assumption
      | ((with_reducible show wpAny _ _ ((int_private% "intFromText") _ _ _) _ _ _); refine hk.out ?_)
      | wp_step))
    all_goals first | exact ⟨_, rfl, h⟩ | skip
end HR
end PySem.W

namespace HR
open PySem PySem.Spec PyProof.Rows L2
section
variable {X : Cx}
theorem ns_free {K : PySem.W.Frag} {h : Heap} {m : Str → Option Value} {L : Addr} {n : Str} (k : K.In h) (g : h.Ns L m) (e : PySem.W.nsIn K L n = some none) : m n = none := by
  obtain ⟨ob, l1, l2, h1, h2, _, h3⟩ := g
  unfold PySem.W.nsIn at e
  split at e
  · rename_i hq
    have z := k _ _ hq
    rw [h1] at z; cases z; cases h2
    split at e
    · cases e
    · rename_i hz
      rw [← h3]; unfold nsFind findBy; rw [← Array.find?_toList, hz]; rfl
  · cases e
/-- the module's limit on figures stands untouched -/
abbrev NoDig (K : PySem.W.Frag) : Prop := PySem.W.nsIn K cStatics "sys.int_max_str_digits" = some none
theorem nd_at {pins : List (Addr × Obj)} {σ : L2.St} {H : Hp} {s : Shared} (nd : NoDig X.K) (I : Inv X pins σ H s) : s.heap.NoDigits := by
  obtain ⟨mc, hns, _⟩ := I.nolimit
  exact ⟨mc, hns, ns_free I.kIn hns nd⟩
/-- int(text), to 4,300 figures -/
theorem call_intN (nd : NoDig X.K) : CallR X (.type "int") (fun xs H Q => ∃ a n, xs = [.str a] ∧ PySem.intText? a = some n ∧ a.length ≤ 4300 ∧ Q (.int n) H) := by
  intro pins s σ H xs us Q I rs h
  obtain ⟨a, n, rfl, hn, hl, h⟩ := h
  cases rs with
  | cons r1 rs =>
    cases rs
    obtain ⟨t, rfl⟩ := r1
    exact call_int_1 (PySem.W.HR.meets_text hl hn) ⟨nd_at nd I, rfl, .int n, H, I.tok _, ⟨_, rfl⟩, h⟩
/-- str(int), to 4,300 figures -/
theorem call_strN (nd : NoDig X.K) (hc : X.calm = true) : CallR X (.type "str") (fun xs H Q => ∃ i, xs = [.int i] ∧ i.natAbs < 10 ^ 4300 ∧ Q (.str (toString i)) H) := by
  intro pins s σ H xs us Q I r h
  obtain ⟨i, rfl, hz, q⟩ := h
  obtain ⟨u, rfl, t, rfl⟩ := vals1 r
  refine str_of_int_or (I.ok.hd hc) (nd_at nd I) (fun _ => ⟨.str _, H, I.tok _, ⟨_, rfl⟩, q⟩) fun hge => ?_
  omega
/-- str of an int or a text -/
theorem call_strA (nd : NoDig X.K) (hc : X.calm = true) : CallR X (.type "str") (fun xs H Q => (∃ i, xs = [.int i] ∧ i.natAbs < 10 ^ 4300 ∧ Q (.str (toString i)) H) ∨ ∃ a, xs = [.str a] ∧ Q (.str a) H) := CallR.or (call_strN nd hc) SkE.call_str_str
/-- a written sign, many times -/
theorem foldl_rep (c : Nat) : ∀ (n : Nat) (acc : Array Nat), ((List.replicate n #[c]).foldl (· ++ ·) acc) = acc ++ (List.replicate n c).toArray
  | 0, acc => by simp
  | n + 1, acc => by
    rw [List.replicate_succ, List.foldl_cons, foldl_rep c n, List.replicate_succ, Array.append_assoc]
    congr 1
    simp
theorem op_mulS : OpR X (binaryOp .Mult) (fun x y H Q => ∃ (c : Nat) (n : Int), x = .str ⟨#[c]⟩ ∧ y = .int n ∧ 2 ≤ n ∧ n ≤ 100000 ∧ Q (.str ⟨(List.replicate n.toNat c).toArray⟩) H) := by
  intro pins s σ H x y v u Q I rx ry h
  obtain ⟨c, n, rfl, rfl, h1, h2, q⟩ := h
  obtain ⟨t, rfl⟩ := rx
  obtain ⟨t', rfl⟩ := ry
  have e1 : ((⟨#[c]⟩ : Str).length == 0) = false := rfl
  have e2 : (n == 1) = false := by rw [beq_eq_false_iff_ne]; omega
  have hl : Builtin.Str.tooLong ((⟨#[c]⟩ : Str).length * n.toNat) = false := by
    have : (⟨#[c]⟩ : Str).length = 1 := rfl
    rw [this, Nat.one_mul]
    unfold Builtin.Str.tooLong
    rw [decide_eq_false_iff_not]
    have := sizeLine_eq
    omega
  refine PySem.P.mul_str (by
    rw [decide_eq_false (by omega), decide_eq_false (by omega)]; rfl) (fun _ _ => ?_) (fun _ _ => hl) ?_
  · have : (((⟨#[c]⟩ : Str).length : Nat) : Int) = 1 := rfl
    rw [this]
    have h3 : (1 : Int) ≤ (2 ^ 63 - 1) / n := by
      rw [Int.le_ediv_iff_mul_le (by omega)]
      omega
    omega
  · rw [if_neg (by omega), if_neg (by rw [e1, e2]; exact Bool.false_ne_true)]
    refine ⟨?_, .str ⟨(List.replicate n.toNat c).toArray⟩, H, I.tok _, ⟨s.toks, ?_⟩, q⟩
    · have e3 : ((List.replicate n.toNat (#[c] : Array Nat)).foldl (· ++ ·) #[]) = (List.replicate n.toNat c).toArray := by rw [foldl_rep]; simp
      show (⟨(List.replicate n.toNat (#[c] : Array Nat)).foldl (· ++ ·) #[]⟩ : Str).length ≤ sizeLine
      rw [e3]
      show ((List.replicate n.toNat c).toArray).size ≤ sizeLine
      rw [List.size_toArray, List.length_replicate]
      have := sizeLine_eq
      omega
    · have e3 : ((List.replicate n.toNat (#[c] : Array Nat)).foldl (· ++ ·) #[]) = (List.replicate n.toNat c).toArray := by rw [foldl_rep]; simp
      exact congrArg (fun z => Value.str (Str.mk z) s.toks) e3
/-! ### a def of the text in one word -/
/-- the def x stands in the text, at most k calls deep, with the promise sp -/
structure Cal (P : Program) (w : World) (K : PySem.W.Frag) (mg : Str → Option Value) (base : Heap) (CX : CXT) (k : Nat) (x : Str) (ps : List Str) (sp : Sp) : Prop where
  ex : ∃ (f : Addr) (fd : FuncData), FnOk P w K mg base CX k f fd ps sp ∧ mg x = some (.ref f) ∧ PySem.W.keepIn K (.ref f) = true ∧ Binds K fd ps []
theorem pc {k : Nat} {ps : List Str} {sp : Sp} {x : Str} {p pos : Pos} {e : Expr} {es : List Expr} {t : TA} (c : Cal X.prog X.w X.K X.mg X.base CX0 k x ps sp) (hr : Room k X.A) (ha : PA X (e :: es) t) (hg : Gl X x := by rfl)
    (hdb : (x == ("__debug__" : Str)) = false := by decide) (he : starEach (e :: es) X.env = (false, eval e X.env) :: starEach es X.env := by rfl) (hpl : (backTo pos (starEach es X.env)).any (·.1) = false := by rfl) :
    PE X (.Call (.Name x p) (e :: es) [] pos) (tCall sp [] E0 t) := by
  obtain ⟨f, fd, F, hm, hk, hb⟩ := c.ex
  exact pe_call F hr hg hm hk hb .nil pass0 ha hdb he hpl
theorem pc0 {k : Nat} {ps : List Str} {sp : Sp} {x : Str} {p pos : Pos} (c : Cal X.prog X.w X.K X.mg X.base CX0 k x ps sp) (hr : Room k X.A) (hg : Gl X x := by rfl) (hdb : (x == ("__debug__" : Str)) = false := by decide) :
    PE X (.Call (.Name x p) [] [] pos) (tCall sp [] E0 tNil) := by
  obtain ⟨f, fd, F, hm, hk, hb⟩ := c.ex
  exact pe_call0 F hr hg hm hk hb .nil pass0 hdb
/-- a def that may raise -/
theorem pcS {k : Nat} {ps : List Str} {sp : Sp} {x : Str} {p pos : Pos} {e : Expr} {es : List Expr} {t : TA} {E : L2.St → XK} (c : Cal X.prog X.w X.K X.mg X.base (L2.CX X.prog X.w) k x ps sp) (hr : Room k X.A) (hx : ∀ σ, PassesAt (L2.CX X.prog X.w) X σ (E σ)) (ha : PA X (e :: es) t) (hg : Gl X x := by rfl)
    (hdb : (x == ("__debug__" : Str)) = false := by decide) (he : starEach (e :: es) X.env = (false, eval e X.env) :: starEach es X.env := by rfl) (hpl : (backTo pos (starEach es X.env)).any (·.1) = false := by rfl) :
    PE X (.Call (.Name x p) (e :: es) [] pos) (tCallS sp E t) := by
  obtain ⟨f, fd, F, hm, hk, hb⟩ := c.ex
  exact pe_callS F hr hg hm hk hb hx ha hdb he hpl
end
/-- a def stands in the text -/
structure FunAt (K : PySem.W.Frag) (mg : Str → Option Value) (x : Str) (st : Stmt) : Prop where
  ex : ∃ (f : Addr) (fd : FuncData), Fun K x x st f fd ∧ mg x = some (.ref f)
theorem FunAt.cal {P : Program} {w : World} {K : PySem.W.Frag} {mg : Str → Option Value} {base : Heap} {CX : CXT} {k : Nat} {x : Str} {st : Stmt} {ps : List Str} {sp : Sp} (F : FunAt K mg x st)
    (h : ∀ f fd, Fun K x x st f fd → FnOk P w K mg base CX k f fd ps sp)
    (hb : ∀ (kV doc pm : Value) (an : Option Addr) (cdv ct : Value) (us : List Value), us.length = ps.length → bindArgs (PySem.W.fnOf x x (defArgs st) (defBody st) (defScope st) .none kV doc pm an cdv ct) ⟨us, []⟩ = pure (ps.zip us)) : Cal P w K mg base CX k x ps sp := by
  obtain ⟨f, fd, F, hm⟩ := F.ex
  exact ⟨f, fd, h f fd F, hm, F.kp, F.binds hb⟩

/-! ### heaps and data that stay -/
section
variable {K : PySem.W.Frag} {H H' : Hp}
theorem same_new {p : Addr} (h : H p = none) (o : HO) : Same H (upd H p o) := fun b u q => by rw [upd_ne (ne_of_none q h)]; exact q
theorem rd_mono {a : Addr} {u : HO} (e : Same H H') (h : Rd H a u) : Rd H' a u := by
  rcases h with h | ⟨o, h⟩
  · exact .inl (e _ _ h)
  · exact .inr ⟨o, e _ _ h⟩
theorem sqT_mono {a : Addr} {xs : List V} (e : Same H H') (h : SqT K H a xs) : SqT K H' a xs := by
  rcases h with h | h
  · exact .inl (rd_mono e h)
  · exact .inr h
mutual
theorem dp_mono (e : Same H H') : ∀ {v : V} {d : PyData}, Dp K H v d → Dp K H' v d
  | _, _, .non => .non
  | _, _, .bl b => .bl b
  | _, _, .int i => .int i
  | _, _, .str x => .str x
  | _, _, .lst h a => .lst (e.seq h) (dpAll_mono e a)
  | _, _, .tup h a => .tup (sqT_mono e h) (dpAll_mono e a)
theorem dpAll_mono (e : Same H H') : ∀ {vs : List V} {ds : List PyData}, DpAll K H vs ds → DpAll K H' vs ds
  | _, _, .nil => .nil
  | _, _, .cons h a => .cons (dp_mono e h) (dpAll_mono e a)
end
theorem dpAll_app : ∀ {vs us : List V} {ds es : List PyData}, DpAll K H vs ds → DpAll K H us es → DpAll K H (vs ++ us) (ds ++ es)
  | _, _, _, _, .nil, b => b
  | _, _, _, _, .cons h a, b => .cons h (dpAll_app a b)
theorem dpAll_len : ∀ {vs : List V} {ds : List PyData}, DpAll K H vs ds → vs.length = ds.length
  | _, _, .nil => rfl
  | _, _, .cons _ a => by rw [List.length_cons, List.length_cons, dpAll_len a]
theorem dpAll_get : ∀ {vs : List V} {ds : List PyData} {i : Nat} {v : V}, DpAll K H vs ds → vs[i]? = some v → ∃ d, ds[i]? = some d ∧ Dp K H v d
  | _, _, _, _, .nil, e => by simp at e
  | _, _, 0, _, .cons h _, e => by simp at e; subst e; exact ⟨_, rfl, h⟩
  | _, _, i + 1, _, .cons _ a, e => by
    obtain ⟨d, h1, h2⟩ := dpAll_get (i := i) a (by simpa using e)
    exact ⟨d, by simpa using h1, h2⟩
end
end HR

/-! HExc: an own error over an own base, its base's __init__ called by name; an error that leaves from within a list comprehension. -/
namespace HR
open PySem PySem.Spec PyProof.Rows L2

/-! ### S.__init__(self, ..), S a class of one's own over ValueError -/
/-- what the written part says of S -/
structure SupC (K : PySem.W.Frag) (S : Addr) : Prop where
  sp : PySem.W.specialIn K (.ref S) "__getattribute__" = some (some (.builtin "type.__getattribute__"))
  rd : PySem.W.readsIn K S (.type "type") = true
  fi : PySem.W.findCls K (.ref S) (.type "type") "__init__" = some (.val (.builtin "ValueError.__init__"))
section
variable {X : Cx}
theorem pe_sinit {S : Addr} {x : Str} {e : Expr} {es : List Expr} {ta : TA} {p1 p2 pos : Pos} {pl : Sem Bool} (T : SupC X.K S) (hm : X.mg x = some (.ref S)) (ha : PA X (e :: es) ta) (hg : Gl X x := by rfl) (hdb : (x == ("__debug__" : Str)) = false := by decide)
    (hc : eval (.Call (.Attribute (.Name x p1) "__init__" p2) (e :: es) [] pos) X.env = (do
      let o ← eval (.Name x p1) X.env
      standAt p2.atName
      let (g, fst) ← holding [o] (getMethod o "__init__" pl)
      callWith pos g fst (backTo pos (starEach (e :: es) X.env)) (backToKw pos (keywordEach [] X.env))) := by rfl)
    (he : starEach (e :: es) X.env = (false, eval e X.env) :: starEach es X.env := by rfl) (hpl : (backTo pos (starEach es X.env)).any (·.1) = false := by rfl) :
    PE X (.Call (.Attribute (.Name x p1) "__init__" p2) (e :: es) [] pos) (tVeI X.K ta) := by
  refine ⟨fun pins s σ H Q I h => ?_⟩
  refine PySem.W.methodCall_KW (ld_glob I hg hm ?_ hdb) hc
  refine PySem.W.method_cls I.kIn T.sp (PySem.W.cls_value I.kIn T.rd T.fi rfl ?_)
  show wpAny _ _ (callWith pos (Value.builtin "ValueError.__init__") [] (backTo pos (starEach (e :: es) X.env)) []) _ _ _
  refine PyProof.Rows.callWith_method1 (thn (ha.run pos pins _ σ H _ (I.tok _) h) fun us s1 hh => ?_) he hpl
  obtain ⟨vs, H1, I1, r1, a, C, ws, ev, hl, TC, ea, q⟩ := hh
  subst ev
  cases r1 with
  | @cons _ u0 _ ur ra rw' =>
    obtain rfl : u0 = Value.ref a := ra
    exact oinit_ok TC I1 ea (by rw [← Paired.length rw', sizeLine_eq]; omega) fun s' J => ⟨.non, H1, J, rfl, q⟩
end

/-! ### an error out of a comprehension -/
theorem note_frame {e : Value} {c d : Env} (h : c.frame = d.frame) : noteFrame e c = noteFrame e d := by
  unfold noteFrame PySem.frameOf
  rw [h]
/-- an error in flight over the frames of Y -/
def XF (Y : Cx) (W : XK) (u : Value) (s' : Shared) : Prop :=
  ∃ (a : Addr) (B : Heap) (sI : Shared) (pins : List (Addr × Obj)) (σ : L2.St) (H : Hp) (cls : Value) (d : Option Addr), u = .ref a ∧ Inv Y pins σ H sI ∧
    (∀ b o, sI.heap.get? b = some o → b ∉ frs Y.stack → B.get? b = some o) ∧ HandSPX.FlyingZ B Y.stack a (Zc cls d) s'.heap ∧ sI.heap.UpToSlots s'.heap ∧ H a = none ∧ s'.os = sI.os ∧ AllBare s'.gens ∧ W cls d H
theorem xf_call {Y : Cx} {W : XK} {pins : List (Addr × Obj)} {σ : L2.St} {H : Hp} {s s' : Shared} {u : Value} (I : Inv Y pins σ H s) (c : L2.CX Y.prog Y.w Y.stack H s W u s') : XF Y W u s' := by
  obtain ⟨a, B, H', cls, d, eu, fl, hok, ub, na, os, ag, hW⟩ := c
  -- the state without the error: the ground and the frames
  obtain ⟨G, gin, gout⟩ := restrict s'.heap fun b => (B.get? b).isSome || decide (b ∈ frs Y.stack)
  have inB : ∀ b o, B.get? b = some o → G.get? b = some o := fun b o e => (gin b (by rw [e]; rfl)).trans (fl.1 b o e)
  have inF : ∀ b, b ∈ frs Y.stack → G.get? b = s'.heap.get? b := fun b hb => gin b (by rw [decide_eq_true hb, Bool.or_true])
  have back : ∀ b o, G.get? b = some o → s'.heap.get? b = some o ∧ ((B.get? b).isSome = true ∨ b ∈ frs Y.stack) := fun b o e => by
    cases q : (B.get? b).isSome || decide (b ∈ frs Y.stack) with
    | false => rw [gout b q] at e; cases e
    | true =>
      rw [gin b q] at e
      refine ⟨e, ?_⟩
      rw [Bool.or_eq_true, decide_eq_true_iff] at q
      exact q
  have J : Inv Y pins σ H' { s with heap := G, gens := s'.gens, drawn := s'.drawn, toks := s'.toks } :=
    I.call (ch := [])
      { keep := fun b o e n hb _ => inB b o (ub.keep b o e n hb)
        slot := fun b o e n hb _ => by
          obtain ⟨sl, z⟩ := ub.slot b o e hb
          exact ⟨sl, (inF b hb).trans z⟩
        free := fun b o e n _ => ub.free b o e n
        there := fun b o e _ => by
          by_cases hb : b ∈ frs Y.stack
          · obtain ⟨sl, z⟩ := ub.slot b o e hb
            exact ⟨_, (inF b hb).trans z⟩
          · obtain ⟨o2, z⟩ := ub.there b o e hb
            exact ⟨o2, inB b o2 z⟩
        tups := ub.tups, frzs := ub.frzs, tbls := ub.tbls } (hok.kept inB) ag (fun _ z => nomatch z)
  refine ⟨a, B, _, pins, σ, H', cls, d, eu, J, fun b o e hb => ?_, fl, Heap.UpToSlots.of_keeps fun b o e => (back b o e).1, na, os, ag, hW⟩
  obtain ⟨e2, hh⟩ := back b o e
  rcases hh with hh | hh
  · obtain ⟨o2, z⟩ := Option.isSome_iff_exists.mp hh
    have z2 := fl.1 b o2 z
    rw [e2] at z2; cases z2
    exact z
  · exact absurd hh hb

/-- what the block's end is to bring, an error too -/
def postX (M : Model) (A : Around) (E : Value → Shared → Prop) (Q : Value → Shared → Prop) (acc : Value) (ce : Env) (r : Result) (s' : Shared) : Prop :=
  match r with
  | .ok _ => ∃ m, s'.heap.Ns ce.locals m ∧ ∀ h', Heap.SameBut ce.locals s'.heap h' → Q acc { s' with heap := h' }
  | .error x => ∃ m, s'.heap.Ns ce.locals m ∧ ∀ h', Heap.SameBut ce.locals s'.heap h' → wpAny M A (passOn "comprehension.variables-let-go" x ce : Sem Value) (fun _ _ => False) E { s' with heap := h' }
theorem wp_compX {M : Model} {A : Around} {E : Value → Shared → Prop} {s : Shared} {env : Env} {e : Expr} {scope : Scope} {pos : Pos} {newAcc first : Sem Value} {g : Comprehension} {gs : List Comprehension} {cl : List (Str × Addr)} {Q : Value → Shared → Prop}
    (hcl : clausesOf e = g :: gs) (hs : ∀ x, foldedSetIterable g.iter env x = pure x) (hclos : closureFor scope env = pure cl) (hkind : scope.kind = .function) (hnames : ∀ x ∈ scope.names, x.2 = .local → scope.names.lookup x.1 = some .local)
    (h : wpAny M A first (fun x s₁ => wpAny M A (pyIter x) (fun it s₂ => wpAny M A newAcc (fun acc s₃ => wpAny M A (newFunctionEnv scope env.globals cl [] env.qual none .none (some env)) (fun ce s₄ =>
      codeAny M A (.compStart e 0 it acc { ce with scope := relabel scope env }) (postX M A E Q acc { ce with scope := relabel scope env }) s₄) E s₃) E s₂) E s₁) E s) :
    wpAny M A (comprehension e scope env pos newAcc false first none) Q E s := by
  unfold comprehension
  rw [hclos, hcl]
  refine wpAny_bind (wpAny_mono h (fun x s₁ h₁ => ?_) fun _ _ z => z)
  refine wpAny_bind (wpAny_standAt (wpAny_bind (wpAny_of_eq (hs x) (wpAny_bind (wpAny_holding (wpAny_mono h₁ (fun it s₂ h₂ => ?_) fun _ _ z => z))))))
  refine wpAny_standIf (wpAny_bind (wpAny_mono h₂ (fun acc s₃ h₃ => ?_) fun _ _ z => z))
  refine wpAny_bind (wpAny_pure (wpAny_bind (wpAny_mono h₃ (fun ce s₄ h₄ => ?_) fun _ _ z => z)))
  dsimp only
  have hv : ∀ x ∈ (scope.names.filter fun x => (x.2 == .local || x.2 == .cell) && x.1 != (".0" : Str)).reverse, x.2 = .local → Env.kindOf { ce with scope := relabel scope env } x.1 = some .local := fun x hx hl =>
    lookup_relabel_local (hnames x (List.mem_filter.mp (List.mem_reverse.mp hx)).1 hl)
  refine wpAny_holding (wpAny_bind (wpAny_attempt (wpAny_holding (wpAny_run (codeAny_mono h₄ fun r s' hr => ?_)))))
  cases r with
  | ok f =>
    obtain ⟨m, hn, hr⟩ := hr
    exact wpAny_bind (wpAny_holding (wpAny_comp_letGo (cenv := { ce with scope := relabel scope env }) hkind _ s' m hv hn fun h' m' _ hs' => wpAny_pure (hr h' hs')))
  | error x =>
    obtain ⟨m, hn, hr⟩ := hr
    exact wpAny_bind (wpAny_holding (wpAny_comp_letGo (cenv := { ce with scope := relabel scope env }) hkind _ s' m hv hn fun h' m' _ hs' => wpAny_mono (hr h' hs') (fun _ _ f => f.elim) fun _ _ y => y))
theorem ff_move {base B h h' : Heap} : ∀ {l : List Env}, h.FunFrames base l → (∀ L ∈ frs l, h'.get? L = h.get? L ∧ B.get? L = none) → h'.FunFrames B l
  | [], _, _ => trivial
  | env :: l, ⟨hk, ⟨L, o, hf, _, ho, hd⟩, hr⟩, hn => by
    have hL := hn L (List.mem_filterMap.mpr ⟨env, List.mem_cons_self, hf⟩)
    refine ⟨hk, ⟨L, o, hf, hL.2, hL.1.trans ho, hd⟩, ff_move hr fun b hb => hn b ?_⟩
    obtain ⟨e, he, q⟩ := List.mem_filterMap.mp hb
    exact List.mem_filterMap.mpr ⟨e, List.mem_cons_of_mem _ he, q⟩
/-- [elt for target in iter if ..] whose elements may raise: the wish Wb of an error of theirs stands in te already -/
theorem pe_lcX {X : Cx} {Wb : XK} {elt tg iter : Expr} {ifs : List Expr} {scope : Scope} {own : List (Str × Nat)} {pos : Pos} {wi : TI} {g : TG} {tt : TT} {te : TE} (hst : X.stack = X.env :: X.outer) (hfr : X.env.frame = some X.env.locals) (tk : Takes X fun cls d _ H => Wb cls d H)
    (hc : X.calm = true) (hN : X.N.Nodup) (hi : PI X tg iter wi) (ok : BlkOk X.N X.env.scope scope own)
    (hg : ∀ (s : Shared) (H : Hp) (C : Addr) (cl : List (Str × Addr)) (fp : List Addr), PG (X.blk s H scope (compEnvC scope cl C X.env) fp) tg g)
    (ht : ∀ (s : Shared) (H : Hp) (C : Addr) (cl : List (Str × Addr)) (fp : List Addr), PTs (X.blk s H scope (compEnvC scope cl C X.env) fp) ifs tt)
    (he : ∀ (s : Shared) (H : Hp) (C : Addr) (cl : List (Str × Addr)) (fp : List Addr), PE ((X.blk s H scope (compEnvC scope cl C X.env) fp).wish (XF (X.blk s H scope (compEnvC scope cl C X.env) fp) Wb)) elt te)
    (hs : ∀ x, foldedSetIterable iter X.env x = pure x := by intro _; rfl) : PE X (.ListComp elt [⟨tg, iter, ifs, 0⟩] scope pos) (tLc wi g tt te (own.map (·.2))) := by
  refine ⟨fun pins s σ H Q I h => ?_⟩
  rw [eval_ListComp]
  have hfree : ∀ y ∈ scope.names, y.2 = .free → ∃ c, X.env.cells.lookup y.1 = some c := fun y hy e => (ok.free y hy e).elim (fun k => I.ok.has _ (.inl k)) fun k => I.ok.has _ (.inr k)
  refine wp_compX rfl hs (closure_ok hfree) ok.kind (fun y hy e => by rw [ok.uniq y hy, e]) (thn (hi.run pins s σ H _ I h) fun xv s1 hx => thn hx fun itv s2 h2 => ?_)
  obtain ⟨it, fp, tn, J, H2, e, I2, T, st2, f2, q⟩ := h2
  subst e
  refine wpAny_newObj_type (newEnv_comp ?_) (by show 0 ≤ sizeLine; decide)
  generalize hD : s2.heap.objs.size = D
  have hDn : H2 D = none := I2.hok.fresh (Nat.le_of_eq hD)
  obtain ⟨W, ⟨m0, w0⟩, turn⟩ := q D hDn
  generalize hs3 : ({ s2 with heap := s2.heap.push { cls := .type "list", data := .seq ([] : List Value).toArray } } : Shared) = s3
  have I3 : Inv X pins σ (upd H2 D (.lst [])) s3 := by
    rw [← hs3]
    refine I2.laid (t' := s2.toks) (fun b o z => Heap.get?_push_of_some _ z) (Nat.le_of_eq hD) ⟨Nat.zero_le _, [], 0, .nil, ?_⟩
    rw [← hD]
    exact Heap.get?_push_size _ rfl
  have h3 : s3.heap = s2.heap.push { cls := .type "list", data := .seq ([] : List Value).toArray } := by rw [← hs3]
  have sz : ∀ b ∈ fp, b < s2.heap.objs.size := fun b hb => by
    obtain ⟨o, z, _⟩ := T.obj _ _ st2 b hb
    exact Heap.lt_size z
  have f3 : ∀ b ∈ fp, FpOk X pins (upd H2 D (.lst [])) b ∧ b < s3.heap.objs.size := fun b hb => by
    have hlt := sz b hb
    have ne : b ≠ D := by rw [← hD]; exact Nat.ne_of_lt hlt
    exact ⟨⟨(upd_ne ne).trans (f2 b hb).1, (f2 b hb).2⟩, by rw [h3, Heap.size_push]; exact Nat.lt_succ_of_lt hlt⟩
  have st3 : tn 0 s3.heap := T.keep _ _ _ st2 fun b _ o z => by rw [h3]; exact Heap.get?_push_of_some _ z
  have I4 := block_start I3 ok hN f3
  have pg := hg s3 (upd H2 D (.lst [])) s3.heap.objs.size (cellsFrom (s3.heap.objs.size + 1) scope.names (cloFrom X.env.cells scope.names [])) fp
  have pt := ht s3 (upd H2 D (.lst [])) s3.heap.objs.size (cellsFrom (s3.heap.objs.size + 1) scope.names (cloFrom X.env.cells scope.names [])) fp
  have pe := he s3 (upd H2 D (.lst [])) s3.heap.objs.size (cellsFrom (s3.heap.objs.size + 1) scope.names (cloFrom X.env.cells scope.names [])) fp
  show codeAny _ _ (.compStart _ 0 (.ref it) (.ref D) (compEnvC scope (cellsFrom (s3.heap.objs.size + 1) scope.names (cloFrom X.env.cells scope.names [])) s3.heap.objs.size X.env))
    (postX (model X.prog X.w) X.A X.xe _ (.ref D) (compEnvC scope (cellsFrom (s3.heap.objs.size + 1) scope.names (cloFrom X.env.cells scope.names [])) s3.heap.objs.size X.env)) { s3 with heap := pushCells (s3.heap.push { cls := .type "dict", data := .dict #[] }) scope.names }
  have nfp : ∀ b ∈ fp, (upd H2 D (.lst [])) b = none := fun b hb => (f3 b hb).1.1
  generalize hce : compEnvC scope (cellsFrom (s3.heap.objs.size + 1) scope.names (cloFrom X.env.cells scope.names [])) s3.heap.objs.size X.env = ce at I4 pg pt pe ⊢
  have cL : ce.locals = s3.heap.objs.size := by subst hce; rfl
  have cF : ce.frame = X.env.frame := by subst hce; rfl
  generalize hH3 : upd H2 D (.lst []) = H3 at I3 I4 pg pt pe w0 nfp f3
  generalize hs4 : ({ s3 with heap := pushCells (s3.heap.push { cls := .type "dict", data := .dict #[] }) scope.names } : Shared) = s4 at I4 ⊢
  have st4 : tn 0 s4.heap := T.keep _ _ _ st3 fun b _ o z => by rw [← hs4]; exact pushCells_keeps _ _ _ _ (Heap.get?_push_of_some _ z)
  have noP : ∀ {p : Addr × Obj}, p ∉ ([] : List (Addr × Obj)) ++ [] := fun hp => absurd hp (by simp)
  have stat : ∀ {σ' : L2.St} {H' : Hp} {s' : Shared}, Inv (X.blk s3 H3 scope ce fp) [] σ' H' s' → (∀ b ∈ fp, H' b = none) → ∀ b ∈ fp, FpOk (X.blk s3 H3 scope ce fp) [] H' b := fun {σ' H' s'} I' hn b hb =>
    ⟨hn b hb, (I'.ok.exf b hb).1, I'.ok.exfs b hb, .inl hb, fun x c z => (I'.ok.exf b hb).2 x c z, fun p hp => absurd hp noP⟩
  -- an error of an element: noted by the def's own frame, the block's names let go, then on
  have out : ∀ (u : Value) (s' : Shared), XF (X.blk s3 H3 scope ce fp) Wb u s' →
      notedBy (model X.prog X.w) X.A ce (fun e s'' => postX (model X.prog X.w) X.A X.xe (EP X pins σ Q) (.ref D) ce (.error e) s'') u s' := by
    intro u s' ⟨a, B, sI, pn', σ', H', cls, d, eu, I', nb, fl, up, na, os, ag, hW⟩
    subst eu
    have nb : ∀ b o, sI.heap.get? b = some o → b ∉ frs X.stack → B.get? b = some o := nb
    have fl : HandSPX.FlyingZ B X.stack a (Zc cls d) s'.heap := fl
    have hA : X.A.frames = some (X.env :: X.outer) := by rw [I.ok.frames, hst]
    unfold notedBy
    rw [note_frame cF]
    rw [hst] at fl
    refine HandSPX.looks_onZ Zc.steady hA hfr fl fun h1 held up1 => ?_
    have nC : H' s3.heap.objs.size = none := by
      have z : H' ce.locals = none := I'.free
      rwa [cL] at z
    have bel : ∀ {b : Addr} {o : Obj}, s3.heap.get? b = some o → b ≠ s3.heap.objs.size := fun {b o} z => Nat.ne_of_lt (Heap.lt_size z)
    have Cfr : s3.heap.objs.size ∉ frs X.stack := fun hm => by
      obtain ⟨_, o, z, _⟩ := I3.stack.mem hm
      exact bel z rfl
    obtain ⟨m, hns, _⟩ := I'.loc
    have hns : sI.heap.Ns ce.locals m := hns
    have hns1 : h1.Ns ce.locals m := by
      obtain ⟨oC, es, ep, z1, z2, z3⟩ := hns
      exact ⟨oC, es, ep, held.1 _ _ (nb _ _ z1 (by rw [cL]; exact Cfr)), z2, z3⟩
    refine ⟨m, hns1, fun h2 sb => ?_⟩
    rw [cL] at sb
    -- the ground, the state without the block's own names
    obtain ⟨B2, bin, bout⟩ := restrict B fun b => decide (b ≠ s3.heap.objs.size)
    obtain ⟨G, gin, gout⟩ := restrict sI.heap fun b => decide (b ≠ s3.heap.objs.size)
    have Bk : ∀ b, b ≠ s3.heap.objs.size → B2.get? b = B.get? b := fun b hb => bin b (decide_eq_true hb)
    have Gk : ∀ b, b ≠ s3.heap.objs.size → G.get? b = sI.heap.get? b := fun b hb => gin b (decide_eq_true hb)
    have Bn : B2.get? s3.heap.objs.size = none := bout _ (by simp)
    have Gn : G.get? s3.heap.objs.size = none := gout _ (by simp)
    have sm : ∀ {l : Addr}, B.get? l = none → B2.get? l = none := fun {l} hl => by
      by_cases z : l = s3.heap.objs.size
      · rw [z]; exact Bn
      · rw [Bk l z]; exact hl
    obtain ⟨k1, k2, k3, oe, vs, Tb, oT, ts, z1, z2, z3, z4, z5, z6, z7, z8, z9⟩ := held
    have oC : ∃ o, B.get? s3.heap.objs.size = some o := by
      obtain ⟨oC, es, ep, y1, y2, y3⟩ := hns
      exact ⟨oC, nb _ _ (by rw [← cL]; exact y1) Cfr⟩
    obtain ⟨oC, hoC⟩ := oC
    have aC : a ≠ s3.heap.objs.size := fun z => by rw [z, hoC] at k2; cases k2
    have TC : Tb ≠ s3.heap.objs.size := fun z => by rw [z, hoC] at z5; cases z5
    have held2 : HandSPX.HeldZ B2 (X.env :: X.outer) a (Zc cls d) X.env.locals h2 := by
      refine ⟨fun b o z => ?_, sm k2, ff_move k3 fun L hL => ?_, oe, vs, Tb, oT, ts, (sb.2 a aC).trans z1, z2, z3, z4, sm z5, z6, (sb.2 Tb TC).trans z7, z8, z9⟩
      · have hb : b ≠ s3.heap.objs.size := fun y => by rw [y, Bn] at z; cases z
        rw [Bk b hb] at z
        exact (sb.2 b hb).trans (k1 b o z)
      · have hL2 : L ∈ frs X.stack := by rw [hst]; exact hL
        exact ⟨sb.2 L fun y => Cfr (by rw [← y]; exact hL2), sm (k3.mem hL).1⟩
    have JX : Inv X pins σ H' { sI with heap := G } := by
      have U := I'.base
      refine I3.call' (s' := { sI with heap := G }) (ch := fp) I'.os
        { keep := fun b o z n hb hx => (Gk b (bel z)).trans (U.keep b o z n hb hx)
          slot := fun b o z n hb hx => by
            obtain ⟨sl, y⟩ := U.slot b o z n hb hx
            exact ⟨sl, (Gk b (bel z)).trans y⟩
          free := U.free
          there := fun b o z hx => by
            obtain ⟨o2, y⟩ := U.there b o z hx
            exact ⟨o2, (Gk b (bel z)).trans y⟩
          tups := U.tups, frzs := U.frzs, tbls := U.tbls } (fun b o z => ?_) I'.bare fun b hb => ⟨(f3 b hb).1.2.2.2.1, (f3 b hb).1.2.1, (f3 b hb).1.2.2.2.2.1, (f3 b hb).1.2.2.2.2.2⟩
      refine (I'.hok b o z).stay (fun c v hv y => ?_) (fun _ y => y) fun _ _ y => y
      have hcn : c ≠ s3.heap.objs.size := fun w => by
        subst w
        rcases hv with hv | hv
        · rw [hv, z] at nC; cases nC
        · rw [nC] at hv; cases hv
      exact (Gk c hcn).trans y
    have upG : ({ sI with heap := G } : Shared).heap.UpToSlots h2 := fun b o z hnf => by
      have hb : b ≠ s3.heap.objs.size := fun y => by
        have z : G.get? b = some o := z
        rw [y, Gn] at z; cases z
      have z : G.get? b = some o := z
      rw [Gk b hb] at z
      obtain ⟨sl, y⟩ := up b o z hnf
      obtain ⟨sl2, y2⟩ := up1 b _ y hnf
      exact ⟨sl2, (sb.2 b hb).trans y2⟩
    have heldU := held2
    obtain ⟨_, _, _, oe2, vs2, T2, oT2, ts2, y1, y2, y3, y4, _⟩ := held2
    unfold PySem.passOn
    refine wpAny_bind (wpAny_field y1 y3 y4 ?_)
    rw [if_neg (show ¬ ((Value.ref T2 == Value.none) = true) from by simp)]
    have fin : wpAny (model X.prog X.w) X.A (setFlight (.ref a) ce.frame) (fun _ s4 => wpAny (model X.prog X.w) X.A (throw (.ref a) : Sem Value) (fun _ _ => False) X.xe s4) X.xe { s' with heap := h2 } := by
      rw [cF, hfr]
      refine HandSPX.setFlight_onZ heldU fun h4 hh4 up4 => wpAny_throw (tk _ _ ?_)
      refine ⟨a, B2, { sI with heap := G }, pins, σ, H', cls, d, rfl, JX, fun b o z hb => ?_, upG.trans up4, .inr (.inr (by rw [hst]; exact hh4)), na, os, ag, hW⟩
      have hbC : b ≠ s3.heap.objs.size := fun y => by
        have z : G.get? b = some o := z
        rw [y, Gn] at z; cases z
      have z : G.get? b = some o := z
      rw [Gk b hbC] at z
      rw [Bk b hbC]
      exact nb b o z hb
    first
      | exact wpAny_bind (wpAny_pure (wpAny_bind fin))
      | exact wpAny_bind fin
  have loop : codeAny (model X.prog X.w) X.A (.compLoop (.ListComp elt [⟨tg, iter, ifs, 0⟩] scope pos) 0 (.ref it) (.ref D) ce) (postX (model X.prog X.w) X.A X.xe (EP X pins σ Q) (.ref D) ce) s4 := by
    refine compLoop_any (fun n s' => ∃ i H', Inv (X.blk s3 H3 scope ce fp) [] (wipe σ (own.map (·.2))) H' s' ∧ tn i s'.heap ∧ (∀ b ∈ fp, H' b = none) ∧ W i n H') ?_ m0 ⟨0, H3, I4, st4, nfp, w0⟩
    rintro n s5 ⟨i, H5, I5, st5, n5, w5⟩
    rcases turn i n H5 w5 with ⟨stop, qq⟩ | ⟨go, Nx, hNx, step⟩
    · refine thnF (T.done (X.blk s3 H3 scope ce fp) rfl rfl rfl hc i [] s5 _ H5 (fun _ _ => False) I5 (stat I5 n5) st5 stop) fun r s6 ⟨hr, I6⟩ => ?_
      subst hr
      have I7 : Inv X pins σ H5 s6 := I3.call' (ch := fp) I6.os I6.base I6.hok I6.bare fun b hb => ⟨(f3 b hb).1.2.2.2.1, (f3 b hb).1.2.1, (f3 b hb).1.2.2.2.2.1, (f3 b hb).1.2.2.2.2.2⟩
      have nC : H5 s3.heap.objs.size = none := by
        have z : H5 ce.locals = none := I6.free
        rwa [cL] at z
      obtain ⟨m, hn, _⟩ := I6.loc
      obtain ⟨f0, f1, f2', f3', f4, f5⟩ := I3.fpOk (Nat.le_refl _) nC
      refine ⟨m, hn, fun h'' sb => ?_⟩
      rw [cL] at sb
      exact ⟨.ref D, H5, I7.turned (t' := s6.toks) (fun b o hb z => (sb.2 b hb).trans z) f0 f1 f3' f4 f5, rfl, qq⟩
    · refine thnF (T.item (X.blk s3 H3 scope ce fp) rfl rfl rfl hc i [] s5 _ H5 (fun _ _ => False) I5 (stat I5 n5) st5 go) fun r s6 ⟨u, hr, h6⟩ => ?_
      subst hr
      refine thnF h6 fun _ s7 ⟨x, H7, I7, r7, y7, st7, n7⟩ => ?_
      have I7' := I7.pinned (stat I7 n7) (T.obj _ _ st7)
      refine thnF (pg.run _ s7 _ H7 x u _ I7' r7 (step x H7 y7)) fun _ s8 ⟨σ8, H8, I8, hw8, q8⟩ => ?_
      refine thnF (pt.run _ s8 σ8 H8 _ I8 q8) fun b s9 ⟨H9, I9, q9⟩ => ?_
      have fin : ∀ {s' : Shared} {H' : Hp}, Inv (X.blk s3 H3 scope ce fp) ([] ++ pinsAt fp s7.heap) σ8 H' s' → Nx H' →
          ∃ m, m < n ∧ ∃ i H', Inv (X.blk s3 H3 scope ce fp) [] (wipe σ (own.map (·.2))) H' s' ∧ tn i s'.heap ∧ (∀ b ∈ fp, H' b = none) ∧ W i m H' := fun {s' H'} I' nx => by
        obtain ⟨m', hm, w'⟩ := hNx H' nx
        have pin' : ∀ b ∈ fp, ∀ o, s7.heap.get? b = some o → s'.heap.get? b = some o ∧ H' b = none := fun b hb o z =>
          let y := I'.pin (b, o) (List.mem_append_right _ (List.mem_append_right _ (mem_pinsAt hb z)))
          ⟨y.1, y.2.1⟩
        have hl : (wipe σ (own.map (·.2))).length = σ8.length := by rw [← hw8, wipe_length]
        refine ⟨m', hm, i + 1, H', (I'.unpinned (pins := [])).weak hl (fun j v z => ?_), T.keep _ _ _ st7 fun b hb o z => (pin' b hb o z).1, fun b hb => ?_, w'⟩
        · rw [← hw8] at z
          exact (wipe_some z).1
        · obtain ⟨o, z, _⟩ := T.obj _ _ st7 b hb
          exact (pin' b hb o z).2
      cases b with
      | false =>
        simp only [Bool.false_eq_true, if_false] at q9 ⊢
        exact fin I9 q9
      | true =>
        simp only [if_true] at q9 ⊢
        refine wpAny_mono (pe.run _ s9 σ8 H9 _ (I9.wish _) q9) (fun z s10 ⟨yv, H10, I10, r10, acc, hD10, hz10, nx⟩ => ?_) (fun u s10 hx => out u s10 hx)
        exact app_ok (X := X.blk s3 H3 scope ce fp) I10.unwish hD10 hz10 r10 fun s11 I11 => fin I11 nx
  exact codeAny_compStart_list loop (T.self X.A 0 _ _ _ st4 loop)
end HR

/-! HComp: comprehensions and loops by what their source yields; data of tuples. -/
namespace HR
open PySem PySem.Spec PyProof.Rows L2
/-- where P holds J yields the items of xs -/
structure Src (J : It) (P : Hp → Prop) (xs : List V) : Prop where
  go : ∀ i H, P H → i < xs.length → J.go i H
  stop : ∀ H, P H → J.stop xs.length H
  yld : ∀ i H x H', P H → i < xs.length → J.yld i H x H' → H' = H ∧ xs[i]? = some x
theorem src_list {K : PySem.W.Frag} {a : Addr} {xs : List V} : Src (Itl K a) (fun H => SqL K H a xs) xs where
  go := fun i H s hi => ⟨xs, xs[i], s, by simp [hi]⟩
  stop := fun H s => ⟨xs, s, Nat.le_refl _⟩
  yld := fun i H x H' s _ y => ⟨y.1, y.2 xs s⟩
theorem src_tup {K : PySem.W.Frag} {a : Addr} {xs : List V} : Src (Itt K a) (fun H => SqT K H a xs) xs where
  go := fun i H s hi => ⟨xs, xs[i], s, by simp [hi]⟩
  stop := fun H s => ⟨xs, s, Nat.le_refl _⟩
  yld := fun i H x H' s _ y => ⟨y.1, y.2 xs s⟩
def sgns (x : Str) : List V := x.cps.toList.map fun c => V.str ⟨#[c]⟩
theorem sgns_len (x : Str) : (sgns x).length = x.length := by unfold sgns; rw [List.length_map]; rfl
theorem src_str {x : Str} : Src (Its x) (fun _ => True) (sgns x) where
  go := fun i H s hi => by rw [sgns_len] at hi; exact hi
  stop := fun H s => by rw [sgns_len]; exact Nat.le_refl _
  yld := fun i H v H' s _ y => by
    obtain ⟨e, c, hc, rfl⟩ := y
    refine ⟨e, ?_⟩
    unfold sgns
    rw [List.getElem?_map, Array.getElem?_toList, hc]
    rfl
def nums (lo : Int) (n : Nat) : List V := (List.range n).map fun i => V.int (lo + (i : Nat))
theorem nums_len (lo : Int) (n : Nat) : (nums lo n).length = n := by unfold nums; rw [List.length_map, List.length_range]
theorem nums_at {lo : Int} {n i : Nat} (h : i < n) : (nums lo n)[i]? = some (V.int (lo + (i : Nat))) := by
  unfold nums
  rw [List.getElem?_map, List.getElem?_range h]
  rfl
theorem src_range {lo : Int} {n : Nat} : Src (Itr lo n) (fun _ => True) (nums lo n) where
  go := fun i H s hi => by rw [nums_len] at hi; exact hi
  stop := fun H s => by rw [nums_len]; exact Nat.le_refl _
  yld := fun i H v H' s hi y => by
    obtain ⟨e, rfl⟩ := y
    rw [nums_len] at hi
    exact ⟨e, nums_at hi⟩
/-- a loop, its source's condition kept by the invariant -/
theorem for_src {J : It} {P : Hp → Prop} {xs : List V} {g : TG} {tb : TS} {D : Ends} {σ : L2.St} {H : Hp} (S : Src J P xs) (Pv : Nat → L2.St → Hp → Prop) (h0 : Pv 0 σ H) (hl : ∀ i σ H, i ≤ xs.length → Pv i σ H → P H)
    (hs : ∀ i x σ H, xs[i]? = some x → Pv i σ H → g x σ H fun σ2 H2 => tb { D with nx := Pv (i + 1), ct := Pv (i + 1), bk := D.nx } σ2 H2) (hd : ∀ σ H, Pv xs.length σ H → D.nx σ H) :
    ∃ W : Nat → Nat → L2.St → Hp → Prop, (∃ m, W 0 m σ H) ∧ ∀ i m σ H, W i m σ H →
      (J.stop i H ∧ D.nx σ H) ∨ (J.go i H ∧ ∃ N : L2.St → Hp → Prop, (∀ σ' H', N σ' H' → ∃ m', m' < m ∧ W (i + 1) m' σ' H') ∧ ∀ x H', J.yld i H x H' → g x σ H' fun σ2 H2 => tb { D with nx := N, ct := N, bk := D.nx } σ2 H2) := by
  refine ⟨fun i m σ H => m = xs.length - i ∧ i ≤ xs.length ∧ Pv i σ H, ⟨xs.length, by simp, Nat.zero_le _, h0⟩, ?_⟩
  rintro i m σ H ⟨rfl, hi, p⟩
  by_cases hlt : i < xs.length
  · refine .inr ⟨S.go i H (hl i σ H hi p) hlt, Pv (i + 1), fun σ' H' p' => ⟨xs.length - (i + 1), by omega, rfl, hlt, p'⟩, fun x H' y => ?_⟩
    obtain ⟨e, hx⟩ := S.yld i H x H' (hl i σ H hi p) hlt y
    subst e
    exact hs i x σ _ hx p
  · have e : i = xs.length := by omega
    subst e
    exact .inl ⟨S.stop H (hl _ σ H hi p), hd σ H p⟩
/-- the invariant of a comprehension over such a source; D the new list -/
theorem lc_src {J : It} {P : Hp → Prop} {xs : List V} {g : TG} {tt : TT} {te : TE} {vs : List Nat} {σ : L2.St} {H1 : Hp} {D : Addr} {Qd : Hp → Prop} (S : Src J P xs) (Pv : Nat → Hp → Prop) (h0 : Pv 0 (upd H1 D (.lst []))) (hl : ∀ i H, i ≤ xs.length → Pv i H → P H)
    (hs : ∀ i x H, xs[i]? = some x → Pv i H → g x (wipe σ vs) H fun σ2 H2 => wipe σ2 vs = wipe σ vs ∧ tt σ2 H2 fun b H3 =>
      if b = true then te σ2 H3 fun y H4 => ∃ acc, H4 D = some (.lst acc) ∧ acc.length < sizeLine ∧ Pv (i + 1) (upd H4 D (.lst (acc ++ [y]))) else Pv (i + 1) H3) (hd : ∀ H, Pv xs.length H → Qd H) :
    ∃ W : Nat → Nat → Hp → Prop, (∃ m, W 0 m (upd H1 D (.lst []))) ∧ ∀ i m H, W i m H →
      (J.stop i H ∧ Qd H) ∨ (J.go i H ∧ ∃ Nx : Hp → Prop, (∀ H', Nx H' → ∃ m', m' < m ∧ W (i + 1) m' H') ∧ ∀ x H', J.yld i H x H' → g x (wipe σ vs) H' fun σ2 H2 => wipe σ2 vs = wipe σ vs ∧ tt σ2 H2 fun b H3 =>
        if b = true then te σ2 H3 fun y H4 => ∃ acc, H4 D = some (.lst acc) ∧ acc.length < sizeLine ∧ Nx (upd H4 D (.lst (acc ++ [y]))) else Nx H3) := by
  refine ⟨fun i m H => m = xs.length - i ∧ i ≤ xs.length ∧ Pv i H, ⟨xs.length, by simp, Nat.zero_le _, h0⟩, ?_⟩
  rintro i m H ⟨rfl, hi, p⟩
  by_cases hlt : i < xs.length
  · refine .inr ⟨S.go i H (hl i H hi p) hlt, Pv (i + 1), fun H' p' => ⟨xs.length - (i + 1), by omega, rfl, hlt, p'⟩, fun x H' y => ?_⟩
    obtain ⟨e, hx⟩ := S.yld i H x H' (hl i H hi p) hlt y
    subst e
    exact hs i x _ hx p
  · have e : i = xs.length := by omega
    subst e
    exact .inl ⟨S.stop H (hl _ H hi p), hd H p⟩
theorem wipe1 {σ : L2.St} {i : Nat} {x : Option V} : wipe ((wipe σ [i]).set i x) [i] = wipe σ [i] := by
  show (((σ.set i none).set i x).set i none) = σ.set i none
  simp
theorem take_snoc {α : Type} : ∀ {l : List α} {i : Nat} {x : α}, l[i]? = some x → l.take (i + 1) = l.take i ++ [x]
  | [], i, x, h => by simp at h
  | a :: l, 0, x, h => by simp at h; subst h; rfl
  | a :: l, i + 1, x, h => by
    have ih := take_snoc (l := l) (i := i) (x := x) (by simpa using h)
    rw [List.take_succ_cons, ih]; rfl
/-- a comprehension of pure elements: a new list of (xs.filter p).map f -/
theorem lc_fm {J : It} {P : Hp → Prop} {xs : List V} {i0 : Nat} {tt : TT} {te : TE} {σ : L2.St} {H1 : Hp} {D : Addr} {Qd : Hp → Prop} (S : Src J P xs) (p : V → Bool) (f : V → V) (hD : H1 D = none) (hz : xs.length < sizeLine) (hP : ∀ H, Same H1 H → P H)
    (ht : ∀ (i : Nat) (x : V) (H : Hp) (Q : Bool → Hp → Prop), xs[i]? = some x → Same H1 H → (∀ H', Same H H' → Q (p x) H') → tt ((wipe σ [i0]).set i0 (some x)) H Q)
    (he : ∀ (i : Nat) (x : V) (H : Hp) (Q : V → Hp → Prop), xs[i]? = some x → p x = true → Same H1 H → (∀ H', Same H H' → Q (f x) H') → te ((wipe σ [i0]).set i0 (some x)) H Q)
    (hd : ∀ H, Same H1 H → H D = some (.lst ((xs.filter p).map f)) → Qd H) :
    ∃ W : Nat → Nat → Hp → Prop, (∃ m, W 0 m (upd H1 D (.lst []))) ∧ ∀ i m H, W i m H →
      (J.stop i H ∧ Qd H) ∨ (J.go i H ∧ ∃ Nx : Hp → Prop, (∀ H', Nx H' → ∃ m', m' < m ∧ W (i + 1) m' H') ∧ ∀ x H', J.yld i H x H' → gName i0 x (wipe σ [i0]) H' fun σ2 H2 => wipe σ2 [i0] = wipe σ [i0] ∧ tt σ2 H2 fun b H3 =>
        if b = true then te σ2 H3 fun y H4 => ∃ acc, H4 D = some (.lst acc) ∧ acc.length < sizeLine ∧ Nx (upd H4 D (.lst (acc ++ [y]))) else Nx H3) := by
  have ext : ∀ {H : Hp} {o : HO}, Same H1 H → Same H1 (upd H D o) := fun {H o} s b u e => by rw [upd_ne (ne_of_none e hD)]; exact s b u e
  refine lc_src S (fun i H => Same H1 H ∧ H D = some (.lst (((xs.take i).filter p).map f))) ⟨ext (Same.refl _), upd_same⟩ (fun i H _ h => hP H h.1) (fun i x H hx ⟨s, e⟩ => ?_) fun H ⟨s, e⟩ => hd H s (by rw [List.take_length] at e; exact e)
  refine ⟨wipe1, ht i x H _ hx s fun H2 s2 => ?_⟩
  have ts := take_snoc hx
  cases hp : p x with
  | false =>
    rw [if_neg Bool.false_ne_true]
    refine ⟨s.trans s2, ?_⟩
    rw [ts, List.filter_append, List.map_append, List.filter_cons_of_neg (by rw [hp]; exact Bool.false_ne_true)]
    simpa using s2 _ _ e
  | true =>
    rw [if_pos rfl]
    refine he i x H2 _ hx hp (s.trans s2) fun H3 s3 => ⟨_, s3 _ _ (s2 _ _ e), ?_, ext (s.trans (s2.trans s3)), ?_⟩
    · rw [List.length_map]
      refine Nat.lt_of_le_of_lt (Nat.le_trans (List.length_filter_le _ _) ?_) hz
      rw [List.length_take]
      exact Nat.min_le_right _ _
    · rw [upd_same, ts, List.filter_append, List.map_append, List.filter_cons_of_pos hp]
      rfl

/-- a comprehension without a test, the element's value by its place -/
theorem lc_ix {J : It} {P : Hp → Prop} {xs : List V} {i0 : Nat} {te : TE} {σ : L2.St} {H1 : Hp} {D : Addr} {Qd : Hp → Prop} (S : Src J P xs) (f : Nat → V) (hD : H1 D = none) (hz : xs.length < sizeLine) (hP : ∀ H, Same H1 H → P H)
    (he : ∀ (i : Nat) (x : V) (H : Hp) (Q : V → Hp → Prop), xs[i]? = some x → Same H1 H → (∀ H', Same H H' → Q (f i) H') → te ((wipe σ [i0]).set i0 (some x)) H Q)
    (hd : ∀ H, Same H1 H → H D = some (.lst ((List.range xs.length).map f)) → Qd H) :
    ∃ W : Nat → Nat → Hp → Prop, (∃ m, W 0 m (upd H1 D (.lst []))) ∧ ∀ i m H, W i m H →
      (J.stop i H ∧ Qd H) ∨ (J.go i H ∧ ∃ Nx : Hp → Prop, (∀ H', Nx H' → ∃ m', m' < m ∧ W (i + 1) m' H') ∧ ∀ x H', J.yld i H x H' → gName i0 x (wipe σ [i0]) H' fun σ2 H2 => wipe σ2 [i0] = wipe σ [i0] ∧ tYes σ2 H2 fun b H3 =>
        if b = true then te σ2 H3 fun y H4 => ∃ acc, H4 D = some (.lst acc) ∧ acc.length < sizeLine ∧ Nx (upd H4 D (.lst (acc ++ [y]))) else Nx H3) := by
  have ext : ∀ {H : Hp} {o : HO}, Same H1 H → Same H1 (upd H D o) := fun {H o} s b u e => by rw [upd_ne (ne_of_none e hD)]; exact s b u e
  refine lc_src S (fun i H => Same H1 H ∧ i ≤ xs.length ∧ H D = some (.lst ((List.range i).map f))) ⟨ext (Same.refl _), Nat.zero_le _, upd_same⟩ (fun i H _ h => hP H h.1) (fun i x H hx ⟨s, hi, e⟩ => ?_) fun H ⟨s, _, e⟩ => hd H s e
  refine ⟨wipe1, ?_⟩
  unfold tYes
  dsimp only
  rw [if_pos rfl]
  have hlt : i < xs.length := (List.getElem?_eq_some_iff.mp hx).1
  refine he i x H _ hx s fun H3 s3 => ⟨_, s3 _ _ e, ?_, ext (s.trans s3), hlt, ?_⟩
  · rw [List.length_map, List.length_range]
    omega
  · rw [upd_same, List.range_succ, List.map_append]
    rfl
theorem range_get {α β : Type} (g : α → β) (d : α) : ∀ l : List α, (List.range l.length).map (fun i => g (l.getD i d)) = l.map g := fun l => by
  refine List.ext_getElem? fun i => ?_
  rw [List.getElem?_map, List.getElem?_map]
  by_cases h : i < l.length
  · rw [List.getElem?_range h, List.getElem?_eq_getElem h]
    simp [h]
  · rw [List.getElem?_eq_none (by rw [List.length_range]; omega), List.getElem?_eq_none (by omega)]
    rfl
/-- both ways of a conditional expression bring one value -/
theorem tIf_val {t : TT} {ta tb : TE} {σ : L2.St} {H : Hp} {Q : VK} {b : Bool} {v : V} (ht : ∀ Q' : Bool → Hp → Prop, Q' b H → t σ H Q') (h1 : b = true → ∀ Q' : VK, Q' v H → ta σ H Q') (h2 : b = false → ∀ Q' : VK, Q' v H → tb σ H Q') (q : Q v H) : tIf t ta tb σ H Q := by
  refine ht _ ?_
  cases b with
  | true => exact h1 rfl Q q
  | false => exact h2 rfl Q q
/-- an if whose test has a known answer -/
theorem ifS_val {t : TT} {u1 u2 : TS} {D : Ends} {σ : L2.St} {H : Hp} (b : Bool) (h : ∀ Q' : Bool → Hp → Prop, Q' b H → t σ H Q') (q : if b = true then u1 D σ H else u2 D σ H) : tIfS t u1 u2 D σ H := h _ q
/-- an if whose ways meet: what holds of the slots and the heap behind both -/
theorem ifS_cut {t : TT} {u1 u2 : TS} {D : Ends} {σ : L2.St} {H : Hp} (R : L2.St → Hp → Prop) (h : tIfS t u1 u2 { D with nx := R } σ H) (mono : ∀ D' : Ends, tIfS t u1 u2 { D with nx := R } σ H → (∀ σ H, R σ H → D'.nx σ H) → tIfS t u1 u2 D' σ H) (k : ∀ σ H, R σ H → D.nx σ H) : tIfS t u1 u2 D σ H := mono D h k

/-! ### data of None, ints, texts and tuples of such -/
/-- the tuples stay -/
def TS (H H' : Hp) : Prop := ∀ b xs, Rd H b (.tup xs) → Rd H' b (.tup xs)
theorem TS.refl (H : Hp) : TS H H := fun _ _ h => h
theorem TS.trans {H H1 H2 : Hp} (a : TS H H1) (b : TS H1 H2) : TS H H2 := fun c xs h => b c xs (a c xs h)
theorem TS.of {H H' : Hp} (s : Same H H') : TS H H' := fun _ _ h => rd_mono s h
theorem TS.at {H : Hp} {p : Addr} {xs : List V} {o : HO} (h : H p = some (.lst xs)) : TS H (upd H p o) := fun b ys r => by
  have hb : b ≠ p := fun e => by
    subst e
    rcases r with r | ⟨_, r⟩
    · rw [h] at r; cases r
    · rw [h] at r; cases r
  rcases r with r | ⟨u, r⟩
  · exact .inl (by rw [upd_ne hb]; exact r)
  · exact .inr ⟨u, by rw [upd_ne hb]; exact r⟩
theorem sqT_ts {K : PySem.W.Frag} {H H' : Hp} {a : Addr} {xs : List V} (e : TS H H') (h : SqT K H a xs) : SqT K H' a xs := by
  rcases h with h | h
  · exact .inl (e _ _ h)
  · exact .inr h
mutual
inductive Dt (K : PySem.W.Frag) (H : Hp) : V → PyData → Prop
  | non : Dt K H .non .none
  | int (i : Int) : Dt K H (.int i) (.int i)
  | str (x : Str) : Dt K H (.str x) (.str x)
  | tup {a : Addr} {xs : List V} {ds : List PyData} : SqT K H a xs → DtAll K H xs ds → Dt K H (.ref a) (.tuple ds)
inductive DtAll (K : PySem.W.Frag) (H : Hp) : List V → List PyData → Prop
  | nil : DtAll K H [] []
  | cons {v : V} {vs : List V} {d : PyData} {ds : List PyData} : Dt K H v d → DtAll K H vs ds → DtAll K H (v :: vs) (d :: ds)
end
theorem tyx_tup {K : PySem.W.Frag} {H : Hp} {a : Addr} {xs : List V} (h : SqT K H a xs) : TyX K H (.ref a) (.type "tuple") := by
  rcases h with (h | ⟨o, h⟩) | ⟨o, its, n, h1, h2, _⟩
  · exact .base (.tup h)
  · exact .fTuple h
  · exact .kTuple h1 h2
/-- nothing at all is promised at level 0 -/
theorem fn_none {P : Program} {w : World} {K : PySem.W.Frag} {mg : Str → Option Value} {base : Heap} {CX : CXT} {k : Nat} {f : Addr} {fd : FuncData} {ps : List Str} {sp : Sp} (no : ∀ vs H Q E, ¬ sp vs H Q E) : FnOk P w K mg base CX k f fd ps sp :=
  ⟨fun vs H Q E h => absurd h (no vs H Q E), fun A outer s H args us vs Q E _ _ _ _ h => absurd h (no vs H Q E)⟩
section
variable {K : PySem.W.Frag} {H H' : Hp}
mutual
theorem dt_mono (e : TS H H') : ∀ {v : V} {d : PyData}, Dt K H v d → Dt K H' v d
  | _, _, .non => .non
  | _, _, .int i => .int i
  | _, _, .str x => .str x
  | _, _, .tup h a => .tup (sqT_ts e h) (dtAll_mono e a)
theorem dtAll_mono (e : TS H H') : ∀ {vs : List V} {ds : List PyData}, DtAll K H vs ds → DtAll K H' vs ds
  | _, _, .nil => .nil
  | _, _, .cons h a => .cons (dt_mono e h) (dtAll_mono e a)
end
mutual
theorem dt_dp : ∀ {v : V} {d : PyData}, Dt K H v d → Dp K H v d
  | _, _, .non => .non
  | _, _, .int i => .int i
  | _, _, .str x => .str x
  | _, _, .tup h a => .tup h (dtAll_dp a)
theorem dtAll_dp : ∀ {vs : List V} {ds : List PyData}, DtAll K H vs ds → DpAll K H vs ds
  | _, _, .nil => .nil
  | _, _, .cons h a => .cons (dt_dp h) (dtAll_dp a)
end
theorem dtAll_app : ∀ {vs us : List V} {ds es : List PyData}, DtAll K H vs ds → DtAll K H us es → DtAll K H (vs ++ us) (ds ++ es)
  | _, _, _, _, .nil, b => b
  | _, _, _, _, .cons h a, b => .cons h (dtAll_app a b)
theorem dtAll_len : ∀ {vs : List V} {ds : List PyData}, DtAll K H vs ds → vs.length = ds.length
  | _, _, .nil => rfl
  | _, _, .cons _ a => by rw [List.length_cons, List.length_cons, dtAll_len a]
theorem dtAll_get : ∀ {vs : List V} {ds : List PyData} {i : Nat} {v : V}, DtAll K H vs ds → vs[i]? = some v → ∃ d, ds[i]? = some d ∧ Dt K H v d
  | _, _, _, _, .nil, e => by simp at e
  | _, _, 0, _, .cons h _, e => by simp at e; subst e; exact ⟨_, rfl, h⟩
  | _, _, i + 1, _, .cons _ a, e => by
    obtain ⟨d, h1, h2⟩ := dtAll_get (i := i) a (by simpa using e)
    exact ⟨d, by simpa using h1, h2⟩
end
end HR

/-! HTok: a def whose text calls replace; code that wants a token out. -/
namespace HR
open PySem PySem.Spec PyProof.Rows L2 CwR
theorem psst_nox {X : Cx} {l : List Stmt} {t : L2.TS} (h : L2.PSsT X.nox l t) : L2.PSsT X l t := fun pins s σ H D h0 I hw =>
  wpAny_mono (h pins s σ H D h0 (I.wish _) hw) (fun _ _ q => q.unwish) fun _ _ z => False.elim z
theorem fun_okT {P : Program} {w : World} {K : PySem.W.Frag} {mg : Str → Option Value} {base : Heap} {x qual : Str} {st : Stmt} {f : Addr} {fd : FuncData} {N ps : List Str} {k : Nat} {sp : Sp} (F : Fun K x qual st f fd) (S : FnScope N ps (defScope st))
    (hnc : ∀ y ∈ (defScope st).names, y.2 ≠ .cell) (hps : 1 ≤ ps.length) (len : ∀ vs H Q E, sp vs H Q E → vs.length = ps.length)
    (hbody : ∀ (cdv : Value) (A : Around) (outer : List Env) (s : Shared) (H : Hp) (vs : List V) (Q : VK) (E : XK), Room k (A.deeper (envOfC qual (defScope st) s.heap.objs.size f cdv)) → sp vs H Q E →
      ∃ t, PSsT (cxOf CX0 P w K mg base N qual (defScope st) f cdv A outer s H E).nox (defBody st) t ∧ t { nx := fun _ H' => Q .non H', rt := Q } (start N vs) H) : FnOk P w K mg base CX0 (k + 1) f fd ps sp := by
  obtain ⟨oc, od, kV, doc, pm, an, cdv, ct, osl, rfl, lk, hcd⟩ := F.ex
  refine fn_ofT lk hcd S hnc hps len fun A outer s H vs Q E hr hsp => ?_
  obtain ⟨t, h, q⟩ := hbody cdv A outer s H vs Q E hr hsp
  exact ⟨t, psst_nox h, q⟩
section
variable {X : Cx} {o e : Expr} {to te : TE}
theorem pst_set {i : Nat} {x : Str} {pos pos' : Pos} (hN : X.N.Nodup) (hi : X.N[i]? = some x) (hx : Loc X.env.scope x) (he : PET X e te) (hs : swapsWith e (some (.Name x pos')) pos.line X.env = pure false := by rfl)
    (hf : X.fn x = true ∨ X.env.scope.names.lookup x = some .local := by first | exact .inl rfl | exact .inr rfl | assumption) : PST X (.Assign [.Name x pos'] e pos) (tAsg te (gName i)) := by
  intro pins s σ H D h0 I h
  refine wpAny_Assign_Name (thn (he pins s σ H _ h0 I h) fun v s1 ⟨y, H1, I1, r1, q1⟩ => ?_) hs
  exact store_ok I1 hN hi hx r1 (fun s2 I2 => ⟨_, H1, I2, q1⟩) hf
/-- (text that wants a token).split(..) -/
theorem pet_split {apos pos : Pos} (ho : PET X o to) (he : PE X e te) (hs : starEach [e] X.env = [(false, eval e X.env)] := by rfl) (hbase : attributeBase o "split" X.env (eval o X.env) = eval o X.env := by rfl) (hline : (apos.endLine == pos.line) = true := by rfl) :
    PET X (.Call (.Attribute o "split" apos) [e] [] pos) (tM1 (fun x xs H Q => ∃ a b, x = .str a ∧ xs = [.str b] ∧ (b.length == 0) = false ∧ a.length + 2 ≤ sizeLine ∧ rNewStrs (Txt.split a b) H Q) to te) := by
  intro pins s σ H Q h0 I h
  refine PySem.Call_method1 hbase hs hline (thn (ho pins s σ H _ h0 I h) fun v s1 ⟨x, H1, I1, r1, q1⟩ => ?_)
  obtain ⟨⟨a, rfl⟩, q1⟩ := q1
  obtain ⟨t, rfl⟩ := _root_.id r1
  refine ⟨"str", _, F.plainAttrs_str, F.slot_str_split, F.type_str_split, typeIs_str _ _ _, (fun _ e => nomatch e), Calls.callWith_builtin rfl (Calls.evalArgs_plain (Calls.spliced_cons ?_))⟩
  exact thn (he.run pins s1 σ H1 _ I1 q1) fun u s2 ⟨y, H2, I2, r2, q2⟩ => Calls.spliced_nil (mt_split pins s2 σ H2 _ [y] _ [u] Q I2 r1 (.cons r2 .nil) q2)
end
end HR

/-! K66Base: the text of k66 by places, what its top leaves, small words. -/
namespace K66
open PySem PySem.Spec PyProof.Rows L2 HR
def topS (i : Nat) : Stmt := PySem.Challenge.pw_tellsasleep_k66_papers_as_text.main.body.getD i (.Pass ⟨0, 0, 0, 0⟩)
abbrev s_paper_text : Stmt := topS 6
abbrev N_paper_text : List Str := ["paper", "row", "one"]
abbrev P_paper_text : List Str := ["paper"]
theorem sc_paper_text : FnScope N_paper_text P_paper_text (defScope s_paper_text) := ⟨rfl, rfl, rfl, by decide +kernel, rfl, by decide +kernel, by decide +kernel⟩
abbrev s_member_text : Stmt := topS 7
abbrev N_member_text : List Str := ["member", "one"]
abbrev P_member_text : List Str := ["member"]
theorem sc_member_text : FnScope N_member_text P_member_text (defScope s_member_text) := ⟨rfl, rfl, rfl, by decide +kernel, rfl, by decide +kernel, by decide +kernel⟩
abbrev s_is_word : Stmt := topS 8
abbrev N_is_word : List Str := ["word", "sign"]
abbrev P_is_word : List Str := ["word"]
theorem sc_is_word : FnScope N_is_word P_is_word (defScope s_is_word) := ⟨rfl, rfl, rfl, by decide +kernel, rfl, by decide +kernel, by decide +kernel⟩
abbrev s_is_number : Stmt := topS 9
abbrev N_is_number : List Str := ["word", "figures", "sign"]
abbrev P_is_number : List Str := ["word"]
theorem sc_is_number : FnScope N_is_number P_is_number (defScope s_is_number) := ⟨rfl, rfl, rfl, by decide +kernel, rfl, by decide +kernel, by decide +kernel⟩
abbrev s_line_tokens : Stmt := topS 10
abbrev N_line_tokens : List Str := ["line", "found", "word", "at", "sign"]
abbrev P_line_tokens : List Str := ["line"]
theorem sc_line_tokens : FnScope N_line_tokens P_line_tokens (defScope s_line_tokens) := ⟨rfl, rfl, rfl, by decide +kernel, rfl, by decide +kernel, by decide +kernel⟩
abbrev s_line_of : Stmt := topS 11
abbrev N_line_of : List Str := ["tokens", "line", "at"]
abbrev P_line_of : List Str := ["tokens"]
theorem sc_line_of : FnScope N_line_of P_line_of (defScope s_line_of) := ⟨rfl, rfl, rfl, by decide +kernel, rfl, by decide +kernel, by decide +kernel⟩
abbrev s_read_line : Stmt := topS 12
abbrev N_read_line : List Str := ["line", "number", "tokens", "open_rows", "token", "done"]
abbrev P_read_line : List Str := ["line", "number"]
theorem sc_read_line : FnScope N_read_line P_read_line (defScope s_read_line) := ⟨rfl, rfl, rfl, by decide +kernel, rfl, by decide +kernel, by decide +kernel⟩
abbrev s_read_word : Stmt := topS 13
abbrev N_read_word : List Str := ["word", "number"]
abbrev P_read_word : List Str := ["word", "number"]
theorem sc_read_word : FnScope N_read_word P_read_word (defScope s_read_word) := ⟨rfl, rfl, rfl, by decide +kernel, rfl, by decide +kernel, by decide +kernel⟩
abbrev s_paper_from : Stmt := topS 14
abbrev N_paper_from : List Str := ["text", "lines", "at"]
abbrev P_paper_from : List Str := ["text"]
theorem sc_paper_from : FnScope N_paper_from P_paper_from (defScope s_paper_from) := ⟨rfl, rfl, rfl, by decide +kernel, rfl, by decide +kernel, by decide +kernel⟩
abbrev s_law_source : Stmt := topS 16
abbrev N_law_source : List Str := ["script", "at", "limit", "cells", "cell", "state", "great"]
abbrev P_law_source : List Str := ["script", "at"]
theorem sc_law_source : FnScope N_law_source P_law_source (defScope s_law_source) := ⟨rfl, rfl, rfl, by decide +kernel, rfl, by decide +kernel, by decide +kernel⟩
abbrev s_law_pick : Stmt := topS 17
abbrev N_law_pick : List Str := ["source", "many", "found", "state"]
abbrev P_law_pick : List Str := ["source", "many"]
theorem sc_law_pick : FnScope N_law_pick P_law_pick (defScope s_law_pick) := ⟨rfl, rfl, rfl, by decide +kernel, rfl, by decide +kernel, by decide +kernel⟩
abbrev s_law_number : Stmt := topS 18
abbrev N_law_number : List Str := ["source", "limit", "found", "turn"]
abbrev P_law_number : List Str := ["source", "limit"]
theorem sc_law_number : FnScope N_law_number P_law_number (defScope s_law_number) := ⟨rfl, rfl, rfl, by decide +kernel, rfl, by decide +kernel, by decide +kernel⟩
abbrev s_law_shuffled : Stmt := topS 19
abbrev N_law_shuffled : List Str := ["source", "things", "left", "found"]
abbrev P_law_shuffled : List Str := ["source", "things"]
theorem sc_law_shuffled : FnScope N_law_shuffled P_law_shuffled (defScope s_law_shuffled) := ⟨rfl, rfl, rfl, by decide +kernel, rfl, by decide +kernel, by decide +kernel⟩
abbrev s_law_grammar : Stmt := topS 20
abbrev N_law_grammar : List Str := []
abbrev P_law_grammar : List Str := []
theorem sc_law_grammar : FnScope N_law_grammar P_law_grammar (defScope s_law_grammar) := ⟨rfl, rfl, rfl, by decide +kernel, rfl, by decide +kernel, by decide +kernel⟩
abbrev s_law_words : Stmt := topS 21
abbrev N_law_words : List Str := ["source", "many", "letters", "base", "turn", "found", "place", "letter", "k", "start", "taken", "word"]
abbrev P_law_words : List Str := ["source", "many"]
theorem sc_law_words : FnScope N_law_words P_law_words (defScope s_law_words) := ⟨rfl, rfl, rfl, by decide +kernel, rfl, by decide +kernel, by decide +kernel⟩
abbrev s_law_same : Stmt := topS 22
abbrev N_law_same : List Str := ["answer", "due", "key", "one", "other"]
abbrev P_law_same : List Str := ["answer", "due"]
theorem sc_law_same : FnScope N_law_same P_law_same (defScope s_law_same) := ⟨rfl, rfl, rfl, by decide +kernel, rfl, by decide +kernel, by decide +kernel⟩
abbrev s_law_member : Stmt := topS 23
abbrev N_law_member : List Str := ["source", "room", "sort", "turn", "number"]
abbrev P_law_member : List Str := ["source", "room"]
theorem sc_law_member : FnScope N_law_member P_law_member (defScope s_law_member) := ⟨rfl, rfl, rfl, by decide +kernel, rfl, by decide +kernel, by decide +kernel⟩
abbrev s_law_nest : Stmt := topS 24
abbrev N_law_nest : List Str := ["member", "many", "turn"]
abbrev P_law_nest : List Str := ["member", "many"]
theorem sc_law_nest : FnScope N_law_nest P_law_nest (defScope s_law_nest) := ⟨rfl, rfl, rfl, by decide +kernel, rfl, by decide +kernel, by decide +kernel⟩
abbrev s_law_written : Stmt := topS 25
abbrev N_law_written : List Str := ["member", "one"]
abbrev P_law_written : List Str := ["member"]
theorem sc_law_written : FnScope N_law_written P_law_written (defScope s_law_written) := ⟨rfl, rfl, rfl, by decide +kernel, rfl, by decide +kernel, by decide +kernel⟩
abbrev s_law_word : Stmt := topS 26
abbrev N_law_word : List Str := ["word", "figures", "sign", "good"]
abbrev P_law_word : List Str := ["word"]
theorem sc_law_word : FnScope N_law_word P_law_word (defScope s_law_word) := ⟨rfl, rfl, rfl, by decide +kernel, rfl, by decide +kernel, by decide +kernel⟩
abbrev s_law_line : Stmt := topS 27
abbrev N_law_line : List Str := ["line", "open_rows", "words", "word", "one", "done", "good", "member", "row"]
abbrev P_law_line : List Str := ["line"]
theorem sc_law_line : FnScope N_law_line P_law_line (defScope s_law_line) := ⟨rfl, rfl, rfl, by decide +kernel, rfl, by decide +kernel, by decide +kernel⟩
abbrev s_law_read : Stmt := topS 28
abbrev N_law_read : List Str := ["text", "rows", "line", "at"]
abbrev P_law_read : List Str := ["text"]
theorem sc_law_read : FnScope N_law_read P_law_read (defScope s_law_read) := ⟨rfl, rfl, rfl, by decide +kernel, rfl, by decide +kernel, by decide +kernel⟩
abbrev s_law_told : Stmt := topS 29
abbrev N_law_told : List Str := ["text", "told", "error"]
abbrev P_law_told : List Str := ["text"]
theorem sc_law_told : FnScope N_law_told P_law_told (defScope s_law_told) := ⟨rfl, rfl, rfl, by decide +kernel, rfl, by decide +kernel, by decide +kernel⟩
abbrev s_law_spoilt : Stmt := topS 30
abbrev N_law_spoilt : List Str := ["source", "text", "at", "sign"]
abbrev P_law_spoilt : List Str := ["source", "text"]
theorem sc_law_spoilt : FnScope N_law_spoilt P_law_spoilt (defScope s_law_spoilt) := ⟨rfl, rfl, rfl, by decide +kernel, rfl, by decide +kernel, by decide +kernel⟩
abbrev s_law : Stmt := topS 31
abbrev N_law : List Str := ["script", "source", "paper", "turn", "k", "text", "row", "due", "other", "many", "line", "long"]
abbrev P_law : List Str := ["script"]
theorem sc_law : FnScope N_law P_law (defScope s_law) := ⟨rfl, rfl, rfl, by decide +kernel, rfl, by decide +kernel, by decide +kernel⟩

/-- what the top leaves: built-ins, the two constants -/
structure Txt (K : PySem.W.Frag) (mg : Str → Option Value) (tS tF : Tok) : Prop where
  nd : NoDig K
  len : mg "len" = none
  range : mg "range" = none
  tuple : mg "tuple" = none
  int : mg "int" = none
  str : mg "str" = none
  bool : mg "bool" = none
  dict : mg "dict" = none
  list : mg "list" = none
  isinstance : mg "isinstance" = none
  all : mg "all" = none
  min : mg "min" = none
  zip : mg "zip" = none
  g_SMALL : mg "SMALL" = some (.str "abcdefghijklmnopqrstuvwxyz" tS)
  g_FIGURES : mg "FIGURES" = some (.str "0123456789" tF)
abbrev small : Str := "abcdefghijklmnopqrstuvwxyz"
abbrev figures : Str := "0123456789"
abbrev v_SMALL : V := .str small
abbrev v_FIGURES : V := .str figures
theorem tl_small : TL.tl small = [97, 98, 99, 100, 101, 102, 103, 104, 105, 106, 107, 108, 109, 110, 111, 112, 113, 114, 115, 116, 117, 118, 119, 120, 121, 122] := by decide +kernel
theorem tl_figures : TL.tl figures = [48, 49, 50, 51, 52, 53, 54, 55, 56, 57] := by decide +kernel
theorem mem_small (c : Nat) : decide (c ∈ small.cps.toList) = low c := by
  have e : small.cps.toList = _ := tl_small
  rw [e]
  unfold low
  rw [decide_eq_decide]
  simp only [List.mem_cons, List.not_mem_nil, or_false]
  omega
theorem mem_figures (c : Nat) : decide (c ∈ figures.cps.toList) = dig c := by
  have e : figures.cps.toList = _ := tl_figures
  rw [e]
  unfold dig
  rw [decide_eq_decide]
  simp only [List.mem_cons, List.not_mem_nil, or_false]
  omega
theorem mem_both (c : Nat) : decide (c ∈ (small ++ figures).cps.toList) = (low c || dig c) := by
  have e : (small ++ figures).cps.toList = small.cps.toList ++ figures.cps.toList := TL.tl_append _ _
  rw [e, ← mem_small, ← mem_figures]
  simp [List.mem_append]
/-- a text by its signs -/
theorem mkS_tl (s : Str) : mkS (TL.tl s) = s := TL.mk_tl s
theorem mkS_len (l : Cs) : (mkS l).length = l.length := by
  show l.toArray.size = _
  rw [List.size_toArray]
theorem mkS_inj {l m : Cs} (h : mkS l = mkS m) : l = m := by
  have := congrArg TL.tl h
  exact this
theorem mkS_app (l m : Cs) : mkS l ++ mkS m = mkS (l ++ m) := TL.ext_tl (by rw [TL.tl_append]; rfl)
theorem eq_str (a b : Str) : decide (V.str a = V.str b) = decide (TL.tl a = TL.tl b) := by
  rw [decide_eq_decide]
  exact ⟨fun h => by rw [V.str.inj h], fun h => by rw [TL.ext_tl h]⟩
theorem tl_cut (z : Str) (lo hi : Option Int) : TL.tl (cutS z lo hi) = ((TL.tl z).drop (HT.sIx z.length 0 lo)).take (HT.sIx z.length z.length hi - HT.sIx z.length 0 lo) := rfl
theorem cut_from (z : Str) (k : Nat) : TL.tl (cutS z (some (k : Int)) none) = (TL.tl z).drop k := by
  rw [tl_cut, HT.sIx_none, HT.sIx_nat]
  have hl := TL.len_tl z
  by_cases h : k ≤ z.length
  · rw [Nat.min_eq_left h]
    exact List.take_of_length_le (by rw [List.length_drop]; omega)
  · rw [Nat.min_eq_right (by omega), List.drop_eq_nil_of_le (by omega), List.drop_eq_nil_of_le (by omega), List.take_nil]
theorem cut_to (z : Str) (k : Nat) : TL.tl (cutS z none (some (k : Int))) = (TL.tl z).take k := by
  rw [tl_cut, HT.sIx_none, HT.sIx_nat, List.drop_zero, Nat.sub_zero]
  have hl := TL.len_tl z
  by_cases h : k ≤ z.length
  · rw [Nat.min_eq_left h]
  · rw [Nat.min_eq_right (by omega), List.take_of_length_le (by omega), List.take_of_length_le (by omega)]
theorem cut_in (z : Str) : TL.tl (cutS z (some 1) (some (-1))) = ((TL.tl z).drop 1).take (z.length - 2) := by
  rw [tl_cut]
  have h1 : HT.sIx z.length 0 (some 1) = min 1 z.length := HT.sIx_nat z.length 0 1
  have h2 : HT.sIx z.length z.length (some (-1)) = z.length - 1 := by
    unfold HT.sIx
    dsimp only
    rw [if_pos (by decide)]
    omega
  have hl := TL.len_tl z
  rw [h1, h2]
  by_cases h : 1 ≤ z.length
  · rw [Nat.min_eq_left h]
    congr 1
  · have h0 : z.length = 0 := by omega
    rw [h0] at hl ⊢
    have : TL.tl z = [] := List.length_eq_zero_iff.mp hl.symm
    rw [this]; rfl
theorem small_of {n : Nat} (h : n ≤ 1000000) : n ≤ sizeLine := Nat.le_trans h (by decide)
theorem small_lt {n : Nat} (h : n ≤ 1000000) : n < sizeLine := Nat.lt_of_le_of_lt h (by decide)
end K66

/-! K66W1: is_word, is_number. -/
namespace K66
open PySem PySem.Spec PyProof.Rows L2 HR
section
variable {P : Program} {w : World} {K : PySem.W.Frag} {mg : Str → Option Value} {base : Heap} {tS tF : Tok}
def sgn : V → Nat
  | .str z => z.cps.toList.headD 0
  | _ => 0
theorem sign_at {x : Str} {i : Nat} {v : V} (h : (sgns x)[i]? = some v) : ∃ c, v = .str ⟨#[c]⟩ ∧ sgn v = c := by
  unfold sgns at h
  rw [List.getElem?_map] at h
  cases e : x.cps.toList[i]? with
  | none => rw [e] at h; cases h
  | some c => rw [e] at h; cases h; exact ⟨c, rfl, rfl⟩
theorem sgns_map {α : Type} (f : Nat → α) (x : Str) : (sgns x).map (fun v => f (sgn v)) = (TL.tl x).map f := by
  unfold sgns
  rw [List.map_map]
  rfl
theorem filter_true {α : Type} (l : List α) : l.filter (fun _ => true) = l := List.filter_eq_self.mpr fun _ _ => rfl
/-- all(p(sign) for sign in x), by a list -/
theorem all_signs (p : Nat → Bool) (x : Str) : ∃ bs : List Bool, ((sgns x).filter (fun _ => true)).map (fun v => V.bl (p (sgn v))) = bs.map V.bl ∧ bs.all id = (TL.tl x).all p := by
  refine ⟨(TL.tl x).map p, ?_, ?_⟩
  · rw [filter_true, sgns_map (fun c => V.bl (p c)), List.map_map]; rfl
  · rw [List.all_map]; rfl
theorem head_at {x : Str} {c : Nat} {r : Cs} (h : TL.tl x = c :: r) : atI x.cps.toList 0 = some c := by
  have h : x.cps.toList = c :: r := h
  rw [h]
  exact atI_nat (j := 0) rfl
def spIsWord : Sp := fun vs H Q _ => ∃ x : Str, vs = [.str x] ∧ x.length ≤ 100000 ∧ TL.tl x ≠ [] ∧ ∀ H', Same H H' → Q (.bl (isWord (TL.tl x))) H'
theorem cal_is_word (T : Txt K mg tS tF) (F : FunAt K mg "is_word" s_is_word) : Cal P w K mg base CX0 1 "is_word" P_is_word spIsWord := by
  refine F.cal (fun f fd F => ?_) fun _ _ _ _ _ _ us hl => match us, hl with | [_], _ => rfl
  refine F.ok sc_is_word (fun vs H Q E h => ?_) (fun cdv A outer s H vs Q E hr h => ?_)
  · obtain ⟨x, rfl, _⟩ := h
    rfl
  obtain ⟨x, rfl, hz, hne, q⟩ := h
  have hz' : x.length ≤ sizeLine := small_of (by omega)
  refine ⟨_, (pss_one (ps_ret (pe_and (pe_cmpR op_in_sign (pe_ix ix_str (pv 0) pe_int (fun _ _ => rfl)) (pe_glob (v := v_SMALL) rfl T.g_SMALL ⟨_, rfl⟩) rfl) (pe_one (pe_callB (cr_all rfl) (by rfl) T.all (by decide +kernel) (pa_cons (pe_lc (own := [("sign", 1)]) (g := gName 1) (tt := tYes) rfl sc_is_word.nd (pi_str (pv 0)) (blkOk_by (N := N_is_word) (sc := defScope s_is_word) (by decide +kernel)) (fun _ _ _ _ _ => pg_name (i := 1) sc_is_word.nd rfl (Or.inl rfl)) (fun _ _ _ _ _ => pts_nil) (fun _ _ _ _ _ => (pe_cmpR op_in_sign (pv 1) (pe_op op_add_str (pe_glob (v := v_SMALL) rfl T.g_SMALL ⟨_, rfl⟩) (pe_glob (v := v_FIGURES) rfl T.g_FIGURES ⟨_, rfl⟩)) rfl))) pa_nil)))))), ?_⟩
  obtain ⟨c, r, hx⟩ : ∃ c r, TL.tl x = c :: r := by
    cases e : TL.tl x with
    | nil => exact absurd e hne
    | cons c r => exact ⟨c, r, rfl⟩
  have hw : isWord (TL.tl x) = (low c && (TL.tl x).all fun c => low c || dig c) := by rw [hx]; rfl
  refine ⟨.str x, rfl, x, 0, c, rfl, rfl, hz', head_at hx, c, small, rfl, rfl, _, rfl, ?_⟩
  rw [mem_small]
  refine ite2 (fun e => ?_) fun e => ?_
  · refine ⟨.str x, rfl, x, rfl, fun D hD => lc_fm src_str (fun _ => true) (fun v => .bl (low (sgn v) || dig (sgn v))) hD ?_ (fun _ _ => trivial) (fun i v H Q hv s q => q H (Same.refl _)) (fun i v H Q hv _ s q => ?_) fun H s h => ?_⟩
    · rw [sgns_len]; exact small_lt (by omega)
    · obtain ⟨c, rfl, hc⟩ := sign_at hv
      refine ⟨_, rfl, small, figures, rfl, rfl, by decide +kernel, c, _, rfl, rfl, ?_⟩
      rw [mem_both]
      have z := q H (Same.refl _)
      rw [hc] at z
      exact z
    · obtain ⟨bs, h1, h2⟩ := all_signs (fun c => low c || dig c) x
      rw [h1] at h
      refine ⟨D, bs, rfl, SqL.of h, ?_⟩
      rw [h2]
      have z := q H s
      rw [hw, e] at z
      exact z
  · have z := q H (Same.refl _)
    rw [hw, Bool.eq_false_iff.mpr e] at z
    exact z
theorem hd_ne {c : Nat} {r : Cs} {l : Cs} (h : l = c :: r) (b : Nat) : decide (l.head? ≠ some b) = !decide ([c] = [b]) := by
  rw [h]
  by_cases e : c = b
  · subst e; simp
  · simp [e]
def spIsNumber : Sp := fun vs H Q _ => ∃ x : Str, vs = [.str x] ∧ x.length ≤ 100000 ∧ TL.tl x ≠ [] ∧ ∀ H', Same H H' → Q (.bl (isNumber (TL.tl x))) H'
theorem cal_is_number (T : Txt K mg tS tF) (F : FunAt K mg "is_number" s_is_number) : Cal P w K mg base CX0 1 "is_number" P_is_number spIsNumber := by
  refine F.cal (fun f fd F => ?_) fun _ _ _ _ _ _ us hl => match us, hl with | [_], _ => rfl
  refine F.ok sc_is_number (fun vs H Q E h => ?_) (fun cdv A outer s H vs Q E hr h => ?_)
  · obtain ⟨x, rfl, _⟩ := h
    rfl
  obtain ⟨x, rfl, hz, hne, q⟩ := h
  have hz' : x.length ≤ sizeLine := small_of (by omega)
  refine ⟨_, (pss_cons (ps_set (i := 1) sc_is_number.nd rfl (Or.inl rfl) (pe_ifExp (pt_cmpR op_eq (pe_ix ix_str (pv 0) pe_int (fun _ _ => rfl)) pe_str (nomark _)) (pe_slice sl_str (pv 0) (po_some pe_int) po_none) (pv 0)))
  (pss_cons (ps_if (PW.pt (pw_or (pt_cmpR op_eq (pv 1) pe_str (nomark _)) (pw_or (pt_cmpR op_gt (pe_callB call_len_str (by rfl) T.len (by decide +kernel) (pa_cons (pv 1) pa_nil)) pe_int (nomark _)) (pw_or1 (pt_not (pt_val (pe_callB (cr_all rfl) (by rfl) T.all (by decide +kernel) (pa_cons (pe_lc (own := [("sign", 2)]) (g := gName 2) (tt := tYes) rfl sc_is_number.nd (pi_str (pv 1)) (blkOk_by (N := N_is_number) (sc := defScope s_is_number) (by decide +kernel)) (fun _ _ _ _ _ => pg_name (i := 2) sc_is_number.nd rfl (Or.inl rfl)) (fun _ _ _ _ _ => pts_nil) (fun _ _ _ _ _ => (pe_cmpR op_in_sign (pv 2) (pe_glob (v := v_FIGURES) rfl T.g_FIGURES ⟨_, rfl⟩) rfl))) pa_nil)))))))) (pss_one (ps_ret pe_bl)) pss_nil)
  (pss_one (ps_ret (pe_or (pe_cmpR op_ne (pe_ix ix_str (pv 1) pe_int (fun _ _ => rfl)) pe_str (nomark _)) (pe_one (pe_cmpR op_eq (pv 0) pe_str (nomark _)))))))), ?_⟩
  obtain ⟨c, r, hx⟩ : ∃ c r, TL.tl x = c :: r := by
    cases e : TL.tl x with
    | nil => exact absurd e hne
    | cons c r => exact ⟨c, r, rfl⟩
  have hl := TL.len_tl x
  have hfl : (figs (TL.tl x)).length ≤ 100000 := by
    unfold figs
    split
    · rw [List.length_tail]; omega
    · omega
  have e45 : TL.tl ("-" : Str) = [45] := by decide +kernel
  have e48 : TL.tl ("0" : Str) = [48] := by decide +kernel
  have e0 : TL.tl ("" : Str) = [] := by decide +kernel
  refine tIf_val (b := decide (c = 45)) (v := .str (mkS (figs (TL.tl x)))) (fun Q' q' => ?_) (fun e Q' q' => ?_) (fun e Q' q' => ?_) ?_
  · refine ⟨.str x, rfl, x, 0, c, rfl, rfl, hz', head_at hx, rfl, _, rfl, ?_⟩
    rw [eq_str, e45]
    have : decide (TL.tl ⟨#[c]⟩ = [45]) = decide (c = 45) := by rw [decide_eq_decide]; exact ⟨fun h => by injection h, fun h => by rw [h]⟩
    rw [this]
    exact q'
  · have ec : c = 45 := of_decide_eq_true e
    refine ⟨.str x, rfl, 1, rfl, x, rfl, hz', ?_⟩
    have : cutS x (some 1) none = mkS (figs (TL.tl x)) := TL.ext_tl (by
      rw [show (1 : Int) = ((1 : Nat) : Int) from rfl, cut_from, hx, ec]
      rfl)
    rw [this]
    exact q'
  · have ec : ¬ c = 45 := of_decide_eq_false e
    refine ⟨.str x, rfl, ?_⟩
    have : x = mkS (figs (TL.tl x)) := TL.ext_tl (by
      show _ = figs (TL.tl x)
      unfold figs
      rw [if_neg (by rw [hx]; intro z; injection z with z; exact ec z)])
    rw [← this] at q'
    exact q'
  have hy : TL.tl (mkS (figs (TL.tl x))) = figs (TL.tl x) := rfl
  have no : figs (TL.tl x) = [] ∨ ¬ (figs (TL.tl x)).length ≤ 1000 ∨ (figs (TL.tl x)).all dig = false → isNumber (TL.tl x) = false := fun h => by
    unfold isNumber
    rcases h with h | h | h
    · rw [h]; rfl
    · rw [decide_eq_false h]; simp
    · rw [h]; simp
  have qF : ∀ H', Same H H' → (figs (TL.tl x) = [] ∨ ¬ (figs (TL.tl x)).length ≤ 1000 ∨ (figs (TL.tl x)).all dig = false) → Q (.bl false) H' := fun H' s h => by
    have z := q H' s
    rw [no h] at z
    exact z
  -- figures == ''
  refine ⟨_, rfl, rfl, _, rfl, ?_⟩
  rw [eq_str, e0, hy]
  refine ite2 (fun e => qF H (Same.refl _) (.inl (of_decide_eq_true e))) fun e => ?_
  have hf0 : figs (TL.tl x) ≠ [] := of_decide_eq_false (Bool.eq_false_iff.mpr e)
  -- len(figures) > 1000
  refine ⟨_, rfl, mkS (figs (TL.tl x)), rfl, by rw [mkS_len]; exact small_of (by omega), _, _, rfl, rfl, _, rfl, ?_⟩
  rw [mkS_len]
  refine ite2 (fun e => qF H (Same.refl _) (.inr (.inl (by have := of_decide_eq_true e; omega)))) fun e => ?_
  have hf1 : (figs (TL.tl x)).length ≤ 1000 := by
    have := of_decide_eq_false (Bool.eq_false_iff.mpr e)
    omega
  -- not all(..)
  refine ⟨_, rfl, mkS (figs (TL.tl x)), rfl, fun D hD => lc_fm src_str (fun _ => true) (fun v => .bl (dig (sgn v))) hD ?_ (fun _ _ => trivial) (fun i v H Q hv s q => q H (Same.refl _)) (fun i v H2 Q hv _ s q => ?_) fun H2 s h => ?_⟩
  · rw [sgns_len, mkS_len]; exact small_lt (by omega)
  · obtain ⟨c, rfl, hc⟩ := sign_at hv
    refine ⟨_, rfl, c, _, rfl, rfl, ?_⟩
    rw [mem_figures]
    have z := q H2 (Same.refl _)
    rw [hc] at z
    exact z
  obtain ⟨bs, h1, h2⟩ := all_signs dig (mkS (figs (TL.tl x)))
  rw [h1] at h
  refine ⟨D, bs, rfl, SqL.of h, _, rfl, ?_⟩
  rw [h2, hy]
  cases ha : (figs (TL.tl x)).all dig with
  | false => exact iteT (qF H2 s (.inr (.inr ha)))
  | true =>
    refine iteF ?_
    -- figures[0] != '0' or word == '0'
    obtain ⟨c1, r1, hf⟩ : ∃ c r, figs (TL.tl x) = c :: r := by
      cases e : figs (TL.tl x) with
      | nil => exact absurd e hf0
      | cons c r => exact ⟨c, r, rfl⟩
    have val : isNumber (TL.tl x) = (!decide ([c1] = [48]) || decide (TL.tl x = [48])) := by
      unfold isNumber
      rw [decide_eq_true hf0, decide_eq_true hf1, ha, hd_ne hf 48]; rfl
    refine ⟨_, rfl, mkS (figs (TL.tl x)), 0, c1, rfl, rfl, by rw [mkS_len]; exact small_of (by omega), head_at (x := mkS (figs (TL.tl x))) hf, rfl, _, rfl, ?_⟩
    have z := q H2 s
    rw [val] at z
    rw [eq_str, e48]
    refine ite2 (fun e => ?_) fun e => ?_
    · rw [show (!decide ([c1] = [48])) = true from e] at z
      exact z
    · rw [show (!decide ([c1] = [48])) = false from Bool.eq_false_iff.mpr e, Bool.false_or] at z
      refine ⟨.str x, rfl, rfl, ?_⟩
      rw [eq_str, e48]
      exact z
end
end K66

/-! K66W2: member_text and the law's own _law_written. -/
namespace K66
open PySem PySem.Spec PyProof.Rows L2 HR
theorem numL_lt_pow (n : Nat) : n < 10 ^ (TL.numL n).length := by
  induction n using Nat.strongRecOn with
  | _ n ih =>
    by_cases h : n < 10
    · rw [TL.numL_lt h]; exact h
    · have z := ih (n / 10) (by omega)
      rw [TL.numL_step (by omega), List.length_append, List.length_singleton, Nat.pow_succ]
      omega
theorem wrt_len : ∀ l : List D, (wrt l).length = (l.map fun d => (wr d).length).sum + l.length
  | [] => rfl
  | x :: r => by
    rw [wrt, List.length_cons, List.length_append, wrt_len r, List.map_cons, List.sum_cons, List.length_cons]
    omega
theorem wrs_sum (l : List D) : (l.map fun d => (wr d).length).sum + l.length ≤ (wrs l).length + 1 := by
  cases l with
  | nil => exact Nat.zero_le _
  | cons x r =>
    rw [wrs, List.length_append, wrt_len, List.map_cons, List.sum_cons, List.length_cons]
    omega
theorem wrs_count {n : Nat} (l : List D) (h : goods n l) : l.length ≤ (wrs l).length + 1 := by
  have := wrs_sum l
  omega
theorem wr_le_wrs {l : List D} {d : D} (h : d ∈ l) : (wr d).length ≤ (wrs l).length := by
  have key : ∀ {l : List D}, d ∈ l → (wr d).length ≤ (wrt l).length := by
    intro l
    induction l with
    | nil => intro h; cases h
    | cons x r ih =>
      intro h
      rw [wrt, List.length_cons, List.length_append]
      rcases List.mem_cons.mp h with rfl | h
      · omega
      · have := ih h; omega
  cases l with
  | nil => cases h
  | cons x r =>
    rw [wrs, List.length_append]
    rcases List.mem_cons.mp h with rfl | h
    · omega
    · have := key h; omega
section
variable {P : Program} {w : World} {K : PySem.W.Frag} {mg : Str → Option Value} {base : Heap} {tS tF : Tok}

def spText_member_text (K : PySem.W.Frag) (n : Nat) : Sp := fun vs H Q _ => ∃ (m : Nat) (v : V) (d : D), n = m + 1 ∧ vs = [v] ∧ Dt K H v d ∧ good m d ∧ (wr d).length ≤ 100000 ∧ ∀ H', Same H H' → Q (.str (mkS (wr d))) H'
theorem cal_member_text (T : Txt K mg tS tF) (F : FunAt K mg "member_text" s_member_text) : ∀ n : Nat, Cal P w K mg base CX0 n "member_text" P_member_text (spText_member_text K n)
  | 0 => F.cal (fun f fd F => fn_none fun vs H Q E h => by obtain ⟨m, _, _, h, _⟩ := h; cases h) fun _ _ _ _ _ _ us hl => match us, hl with | [_], _ => rfl
  | n + 1 => by
    have c_member_text := cal_member_text T F n
    refine F.cal (fun f fd F => ?_) fun _ _ _ _ _ _ us hl => match us, hl with | [_], _ => rfl
    refine F.ok sc_member_text (fun vs H Q E h => ?_) (fun cdv A outer s H vs Q E hr h => ?_)
    · obtain ⟨m, v, d, _, rfl, _⟩ := h
      rfl
    obtain ⟨m, v, d, hm, rfl, hd, hg, hz, q⟩ := h
    have hm : n = m := by omega
    subst hm
    refine ⟨_, (pss_cons (ps_if (pt_cmpR op_isN (pv 0) pe_non (nomark _)) (pss_one (ps_ret pe_str)) pss_nil)
  (pss_cons (ps_if (pt_val (pe_callB call_isi (by rfl) T.isinstance (by decide +kernel) (pa_cons (pv 0) (pa_cons (pe_bltn (v := .ty "tuple") (u := .type "tuple") (by rfl) T.tuple (by decide +kernel) rfl) pa_nil)))) (pss_one (ps_ret (pe_op op_add_str (pe_op op_add_str pe_str (pe_join pe_str (pe_lc (own := [("one", 1)]) (g := gName 1) (tt := tYes) rfl sc_member_text.nd (pi_tup (pv 0)) (blkOk_by (N := N_member_text) (sc := defScope s_member_text) (by decide +kernel)) (fun _ _ _ _ _ => pg_name (i := 1) sc_member_text.nd rfl (Or.inl rfl)) (fun _ _ _ _ _ => pts_nil) (fun _ _ _ _ _ => (pc c_member_text hr (pa_cons (pv 1) pa_nil)))))) pe_str))) pss_nil)
  (pss_one (ps_ret (pe_callTy (call_strA T.nd rfl) (by rfl) T.str (by decide +kernel) (pa_cons (pv 0) pa_nil)))))), ?_⟩
    cases hd with
    | non =>
      refine ⟨_, rfl, rfl, _, rfl, ite2 (fun _ => ?_) fun e => absurd (decide_eq_true rfl) e⟩
      have z := q H (Same.refl _)
      rw [show mkS (wr .none) = ("-" : Str) from TL.ext_tl (by show [45] = TL.tl ("-" : Str); decide +kernel)] at z
      exact z
    | int i =>
      have hg : (TL.numL i.natAbs).length ≤ 1000 := by simpa [good] using hg
      refine ⟨_, rfl, rfl, _, rfl, ite2 (fun e => nomatch (of_decide_eq_true e)) fun _ => ?_⟩
      refine ⟨_, rfl, _, _, _, _, _, rfl, .ty "tuple", .base (.int i), kit_ty (r := false) (by decide +kernel), _, rfl, iteF ?_⟩
      refine ⟨_, rfl, .inl ⟨i, rfl, ?_, ?_⟩⟩
      · refine Nat.lt_of_lt_of_le (numL_lt_pow i.natAbs) (Nat.pow_le_pow_right (by decide) (by omega))
      · have z := q H (Same.refl _)
        rw [show mkS (wr (.int i)) = Str.ofString (toString i) from TL.ext_tl (tl_int i).symm] at z
        exact z
    | str x =>
      refine ⟨_, rfl, rfl, _, rfl, ite2 (fun e => nomatch (of_decide_eq_true e)) fun _ => ?_⟩
      refine ⟨_, rfl, _, _, _, _, _, rfl, .ty "tuple", .base (.str x), kit_ty (r := false) (by decide +kernel), _, rfl, iteF ?_⟩
      refine ⟨_, rfl, .inr ⟨x, rfl, ?_⟩⟩
      have z := q H (Same.refl _)
      rw [show mkS (wr (.str x)) = x from mkS_tl x] at z
      exact z
    | @tup a xs ds hS ha =>
      obtain ⟨m, rfl⟩ : ∃ m, n = m + 1 := by
        cases n with
        | zero => simp [good] at hg
        | succ m => exact ⟨m, rfl⟩
      have hg : goods m ds := by simpa [good] using hg
      have hw : wr (.tuple ds) = 40 :: (wrs ds ++ [41]) := by simp [wr]
      have hzl : (wrs ds).length ≤ 99998 := by
        rw [hw, List.length_cons, List.length_append, List.length_singleton] at hz
        omega
      refine ⟨_, rfl, rfl, _, rfl, ite2 (fun e => nomatch (of_decide_eq_true e)) fun _ => ?_⟩
      refine ⟨_, rfl, _, _, _, _, _, rfl, .ty "tuple", tyx_tup hS, kit_ty (r := true) (by decide +kernel), _, rfl, iteT ?_⟩
      have hlen := dtAll_len ha
      have hn : ds.length ≤ 99999 := by
        have := wrs_count ds hg
        omega
      refine ⟨⟨_, rfl⟩, _, rfl, a, rfl, ⟨_, hS⟩, fun L hL => lc_ix src_tup (fun i => .str (mkS (wr (ds.getD i .none)))) hL (small_lt (by omega)) (fun H' s => sqT_mono s hS) (fun i x H' Q' hx s k => ?_) fun H' s hLst => ?_⟩
      · obtain ⟨d, hd, hdt⟩ := dtAll_get ha hx
        have e : ds.getD i .none = d := by rw [List.getD_eq_getElem?_getD, hd]; rfl
        have hmem : d ∈ ds := List.mem_of_getElem? hd
        have k2 : ∀ H2, Same H' H2 → Q' (.str (mkS (wr d))) H2 := fun H2 s2 => by
          have z := k H2 s2
          simp only [e] at z
          exact z
        exact ⟨_, rfl, m, x, d, rfl, rfl, dt_mono (TS.of s) hdt, goods_mem.mp hg d hmem, Nat.le_trans (wr_le_wrs hmem) (by omega), k2⟩
      · have el : (List.range xs.length).map (fun i => V.str (mkS (wr (ds.getD i .none)))) = (ds.map fun d => mkS (wr d)).map V.str := by
          rw [hlen, range_get (fun d => V.str (mkS (wr d))) .none ds, List.map_map]; rfl
        rw [el] at hLst
        have e40 : TL.tl ("(" : Str) = [40] := by decide +kernel
        have e41 : TL.tl (")" : Str) = [41] := by decide +kernel
        have e32 : TL.tl (" " : Str) = [32] := by decide +kernel
        have hj : Txt.join " " (ds.map fun d => mkS (wr d)) = mkS (wrs ds) := TL.ext_tl (by
          rw [TL.join_eq, TL.tl_join, e32, List.map_map]
          exact (wrs_join ds).symm)
        refine ⟨_, _, _, rfl, rfl, .inl (SqL.of hLst), ?_, ?_⟩
        · have := wrs_sum ds
          rw [List.length_map, List.map_map]
          have e1 : (" " : Str).length = 1 := by decide +kernel
          rw [e1]
          have e2 : (ds.map (Str.length ∘ fun d => mkS (wr d))) = ds.map fun d => (wr d).length := List.map_congr_left fun d _ => mkS_len _
          rw [e2]
          omega
        · rw [hj]
          refine ⟨_, _, rfl, rfl, ?_, ?_⟩
          · have : ("(" : Str).length = 1 := by decide +kernel
            rw [this, mkS_len]
            exact small_of (by omega)
          refine ⟨_, _, rfl, rfl, ?_, ?_⟩
          · have h1 : ("(" : Str).length = 1 := by decide +kernel
            have h2 : (")" : Str).length = 1 := by decide +kernel
            rw [Str.length_append, h1, h2, mkS_len]
            exact small_of (by omega)
          · have z := q H' s
            rw [hw] at z
            have : ("(" : Str) ++ mkS (wrs ds) ++ (")" : Str) = mkS (40 :: (wrs ds ++ [41])) := TL.ext_tl (by
              rw [TL.tl_append, TL.tl_append, e40, e41]
              rfl)
            rw [this]
            exact z

def spText_law_written (K : PySem.W.Frag) (n : Nat) : Sp := fun vs H Q _ => ∃ (m : Nat) (v : V) (d : D), n = m + 1 ∧ vs = [v] ∧ Dt K H v d ∧ good m d ∧ (wr d).length ≤ 300000 ∧ ∀ H', Same H H' → Q (.str (mkS (wr d))) H'
theorem cal_law_written (T : Txt K mg tS tF) (F : FunAt K mg "_law_written" s_law_written) : ∀ n : Nat, Cal P w K mg base CX0 n "_law_written" P_law_written (spText_law_written K n)
  | 0 => F.cal (fun f fd F => fn_none fun vs H Q E h => by obtain ⟨m, _, _, h, _⟩ := h; cases h) fun _ _ _ _ _ _ us hl => match us, hl with | [_], _ => rfl
  | n + 1 => by
    have c_law_written := cal_law_written T F n
    refine F.cal (fun f fd F => ?_) fun _ _ _ _ _ _ us hl => match us, hl with | [_], _ => rfl
    refine F.ok sc_law_written (fun vs H Q E h => ?_) (fun cdv A outer s H vs Q E hr h => ?_)
    · obtain ⟨m, v, d, _, rfl, _⟩ := h
      rfl
    obtain ⟨m, v, d, hm, rfl, hd, hg, hz, q⟩ := h
    have hm : n = m := by omega
    subst hm
    refine ⟨_, (pss_cons (ps_if (pt_cmpR op_isN (pv 0) pe_non (nomark _)) (pss_one (ps_ret pe_str)) pss_nil)
  (pss_cons (ps_if (pt_val (pe_callB call_isi (by rfl) T.isinstance (by decide +kernel) (pa_cons (pv 0) (pa_cons (pe_bltn (v := .ty "tuple") (u := .type "tuple") (by rfl) T.tuple (by decide +kernel) rfl) pa_nil)))) (pss_one (ps_ret (pe_op op_add_str (pe_op op_add_str pe_str (pe_join pe_str (pe_lc (own := [("one", 1)]) (g := gName 1) (tt := tYes) rfl sc_law_written.nd (pi_tup (pv 0)) (blkOk_by (N := N_law_written) (sc := defScope s_law_written) (by decide +kernel)) (fun _ _ _ _ _ => pg_name (i := 1) sc_law_written.nd rfl (Or.inl rfl)) (fun _ _ _ _ _ => pts_nil) (fun _ _ _ _ _ => (pc c_law_written hr (pa_cons (pv 1) pa_nil)))))) pe_str))) pss_nil)
  (pss_one (ps_ret (pe_callTy (call_strA T.nd rfl) (by rfl) T.str (by decide +kernel) (pa_cons (pv 0) pa_nil)))))), ?_⟩
    cases hd with
    | non =>
      refine ⟨_, rfl, rfl, _, rfl, ite2 (fun _ => ?_) fun e => absurd (decide_eq_true rfl) e⟩
      have z := q H (Same.refl _)
      rw [show mkS (wr .none) = ("-" : Str) from TL.ext_tl (by show [45] = TL.tl ("-" : Str); decide +kernel)] at z
      exact z
    | int i =>
      have hg : (TL.numL i.natAbs).length ≤ 1000 := by simpa [good] using hg
      refine ⟨_, rfl, rfl, _, rfl, ite2 (fun e => nomatch (of_decide_eq_true e)) fun _ => ?_⟩
      refine ⟨_, rfl, _, _, _, _, _, rfl, .ty "tuple", .base (.int i), kit_ty (r := false) (by decide +kernel), _, rfl, iteF ?_⟩
      refine ⟨_, rfl, .inl ⟨i, rfl, ?_, ?_⟩⟩
      · refine Nat.lt_of_lt_of_le (numL_lt_pow i.natAbs) (Nat.pow_le_pow_right (by decide) (by omega))
      · have z := q H (Same.refl _)
        rw [show mkS (wr (.int i)) = Str.ofString (toString i) from TL.ext_tl (tl_int i).symm] at z
        exact z
    | str x =>
      refine ⟨_, rfl, rfl, _, rfl, ite2 (fun e => nomatch (of_decide_eq_true e)) fun _ => ?_⟩
      refine ⟨_, rfl, _, _, _, _, _, rfl, .ty "tuple", .base (.str x), kit_ty (r := false) (by decide +kernel), _, rfl, iteF ?_⟩
      refine ⟨_, rfl, .inr ⟨x, rfl, ?_⟩⟩
      have z := q H (Same.refl _)
      rw [show mkS (wr (.str x)) = x from mkS_tl x] at z
      exact z
    | @tup a xs ds hS ha =>
      obtain ⟨m, rfl⟩ : ∃ m, n = m + 1 := by
        cases n with
        | zero => simp [good] at hg
        | succ m => exact ⟨m, rfl⟩
      have hg : goods m ds := by simpa [good] using hg
      have hw : wr (.tuple ds) = 40 :: (wrs ds ++ [41]) := by simp [wr]
      have hzl : (wrs ds).length ≤ 299998 := by
        rw [hw, List.length_cons, List.length_append, List.length_singleton] at hz
        omega
      refine ⟨_, rfl, rfl, _, rfl, ite2 (fun e => nomatch (of_decide_eq_true e)) fun _ => ?_⟩
      refine ⟨_, rfl, _, _, _, _, _, rfl, .ty "tuple", tyx_tup hS, kit_ty (r := true) (by decide +kernel), _, rfl, iteT ?_⟩
      have hlen := dtAll_len ha
      have hn : ds.length ≤ 299999 := by
        have := wrs_count ds hg
        omega
      refine ⟨⟨_, rfl⟩, _, rfl, a, rfl, ⟨_, hS⟩, fun L hL => lc_ix src_tup (fun i => .str (mkS (wr (ds.getD i .none)))) hL (small_lt (by omega)) (fun H' s => sqT_mono s hS) (fun i x H' Q' hx s k => ?_) fun H' s hLst => ?_⟩
      · obtain ⟨d, hd, hdt⟩ := dtAll_get ha hx
        have e : ds.getD i .none = d := by rw [List.getD_eq_getElem?_getD, hd]; rfl
        have hmem : d ∈ ds := List.mem_of_getElem? hd
        have k2 : ∀ H2, Same H' H2 → Q' (.str (mkS (wr d))) H2 := fun H2 s2 => by
          have z := k H2 s2
          simp only [e] at z
          exact z
        exact ⟨_, rfl, m, x, d, rfl, rfl, dt_mono (TS.of s) hdt, goods_mem.mp hg d hmem, Nat.le_trans (wr_le_wrs hmem) (by omega), k2⟩
      · have el : (List.range xs.length).map (fun i => V.str (mkS (wr (ds.getD i .none)))) = (ds.map fun d => mkS (wr d)).map V.str := by
          rw [hlen, range_get (fun d => V.str (mkS (wr d))) .none ds, List.map_map]; rfl
        rw [el] at hLst
        have e40 : TL.tl ("(" : Str) = [40] := by decide +kernel
        have e41 : TL.tl (")" : Str) = [41] := by decide +kernel
        have e32 : TL.tl (" " : Str) = [32] := by decide +kernel
        have hj : Txt.join " " (ds.map fun d => mkS (wr d)) = mkS (wrs ds) := TL.ext_tl (by
          rw [TL.join_eq, TL.tl_join, e32, List.map_map]
          exact (wrs_join ds).symm)
        refine ⟨_, _, _, rfl, rfl, .inl (SqL.of hLst), ?_, ?_⟩
        · have := wrs_sum ds
          rw [List.length_map, List.map_map]
          have e1 : (" " : Str).length = 1 := by decide +kernel
          rw [e1]
          have e2 : (ds.map (Str.length ∘ fun d => mkS (wr d))) = ds.map fun d => (wr d).length := List.map_congr_left fun d _ => mkS_len _
          rw [e2]
          omega
        · rw [hj]
          refine ⟨_, _, rfl, rfl, ?_, ?_⟩
          · have : ("(" : Str).length = 1 := by decide +kernel
            rw [this, mkS_len]
            exact small_of (by omega)
          refine ⟨_, _, rfl, rfl, ?_, ?_⟩
          · have h1 : ("(" : Str).length = 1 := by decide +kernel
            have h2 : (")" : Str).length = 1 := by decide +kernel
            rw [Str.length_append, h1, h2, mkS_len]
            exact small_of (by omega)
          · have z := q H' s
            rw [hw] at z
            have : ("(" : Str) ++ mkS (wrs ds) ++ (")" : Str) = mkS (40 :: (wrs ds ++ [41])) := TL.ext_tl (by
              rw [TL.tl_append, TL.tl_append, e40, e41]
              rfl)
            rw [this]
            exact z
end
end K66

/-! K66W3: line_of, line_tokens. -/
namespace K66
open PySem PySem.Spec PyProof.Rows L2 HR
abbrev tokV (ts : List Cs) : List V := ts.map fun t => V.str (mkS t)
theorem lstep_len (s : Cs × Option Cs) (t : Cs) : (lstep s t).1.length ≤ s.1.length + t.length + 1 := by
  unfold lstep
  dsimp only
  rw [List.length_append, List.length_append]
  split
  · rw [List.length_singleton]; omega
  · rw [List.length_nil]; omega
theorem lineOf_len : ∀ ts : List Cs, (lineOf ts).length ≤ (ts.map List.length).sum + ts.length := by
  have key : ∀ (ts : List Cs) (s : Cs × Option Cs), (ts.foldl lstep s).1.length ≤ s.1.length + (ts.map List.length).sum + ts.length := by
    intro ts
    induction ts with
    | nil => intro s; simp
    | cons t r ih =>
      intro s
      have h1 := ih (lstep s t)
      have h2 := lstep_len s t
      rw [List.foldl_cons, List.map_cons, List.sum_cons, List.length_cons]
      omega
  intro ts
  have := key ts ([], none)
  simpa [lineOf, lfold] using this
theorem sum_take_le : ∀ (l : List Nat) (i : Nat), (l.take i).sum ≤ l.sum
  | [], i => by simp
  | a :: l, 0 => by simp
  | a :: l, i + 1 => by
    rw [List.take_succ_cons, List.sum_cons, List.sum_cons]
    have := sum_take_le l i
    omega
theorem sum_take_at : ∀ (l : List Nat) (i x : Nat), l[i]? = some x → (l.take i).sum + x ≤ l.sum
  | [], i, x, h => by simp at h
  | a :: l, 0, x, h => by simp at h; subst h; simp
  | a :: l, i + 1, x, h => by
    rw [List.take_succ_cons, List.sum_cons, List.sum_cons]
    have := sum_take_at l i x (by simpa using h)
    omega
theorem lineOf_take {ts : List Cs} {i : Nat} {t : Cs} (h : ts[i]? = some t) : lineOf (ts.take (i + 1)) = lineOf (ts.take i) ++ (if 0 < i ∧ t ≠ [41] ∧ ts[i - 1]? ≠ some [40] then [32] else []) ++ t := by
  unfold lineOf
  rw [take_snoc h, lfold_snoc]
  unfold lstep
  dsimp only
  rw [lfold_last]
  congr 2
  have hi : i < ts.length := (List.getElem?_eq_some_iff.mp h).1
  have e : (ts.take i).getLast? = if i = 0 then none else ts[i - 1]? := by
    by_cases h0 : i = 0
    · subst h0; rfl
    · rw [if_neg h0, List.getLast?_eq_getElem?, List.length_take, Nat.min_eq_left (by omega), List.getElem?_take_of_lt (by omega)]
  rw [e]
  by_cases h0 : i = 0
  · rw [if_pos h0, if_neg (fun z => z.1 rfl), if_neg (fun z => absurd z.1 (by omega))]
  · rw [if_neg h0]
    have : ts[i - 1]? ≠ none := by
      rw [Ne, List.getElem?_eq_none_iff]; omega
    by_cases hc : t ≠ [41] ∧ ts[i - 1]? ≠ some [40]
    · rw [if_pos ⟨this, hc⟩, if_pos ⟨by omega, hc⟩]
    · rw [if_neg (fun z => hc z.2), if_neg (fun z => hc z.2)]
/-! tokens by a fold -/
def tstep (s : List Cs × Cs) (c : Nat) : List Cs × Cs :=
  if c = 40 ∨ c = 41 then (s.1 ++ put s.2 ++ [[c]], []) else if c = 32 then (s.1 ++ put s.2, []) else (s.1, s.2 ++ [c])
def tfold (l : Cs) : List Cs × Cs := l.foldl tstep ([], [])
theorem tstep_br {f : List Cs} {w : Cs} {c : Nat} (h : c = 40 ∨ c = 41) : tstep (f, w) c = (f ++ put w ++ [[c]], []) := if_pos h
theorem tstep_sp {f : List Cs} {w : Cs} : tstep (f, w) 32 = (f ++ put w, []) := rfl
theorem tstep_wd {f : List Cs} {w : Cs} {c : Nat} (h : ¬ (c = 32 ∨ c = 40 ∨ c = 41)) : tstep (f, w) c = (f, w ++ [c]) := by
  unfold tstep
  rw [if_neg (fun z => h (.inr z)), if_neg (fun z => h (.inl z))]
theorem three (c : Nat) : (c = 40 ∨ c = 41) ∨ c = 32 ∨ ¬ (c = 32 ∨ c = 40 ∨ c = 41) := by omega
theorem tfold_go : ∀ (l : Cs) (f : List Cs) (w : Cs), (l.foldl tstep (f, w)).1 ++ put (l.foldl tstep (f, w)).2 = f ++ toksGo w l
  | [], f, w => rfl
  | c :: r, f, w => by
    rw [List.foldl_cons, toksGo]
    rcases three c with h | h | h
    · rw [tstep_br h, if_pos h, tfold_go r]; simp
    · subst h
      rw [tstep_sp, if_neg (by decide), if_pos rfl, tfold_go r]; simp
    · rw [tstep_wd h, if_neg (by omega), if_neg (by omega), tfold_go r]
theorem tfold_toks (l : Cs) : (tfold l).1 ++ put (tfold l).2 = toks l := by
  have := tfold_go l [] []
  rwa [List.nil_append] at this
theorem tfold_snoc {l : Cs} {i c : Nat} (h : l[i]? = some c) : tfold (l.take (i + 1)) = tstep (tfold (l.take i)) c := by
  unfold tfold
  rw [take_snoc h, List.foldl_append]; rfl
theorem put_sum (w : Cs) : ((put w).map List.length).sum = w.length ∧ (put w).length ≤ w.length := by
  unfold put
  split
  · rename_i h; rw [h]; exact ⟨rfl, Nat.le_refl _⟩
  · rename_i h
    cases w with
    | nil => exact absurd rfl h
    | cons c r => exact ⟨by simp, by simp⟩
theorem tfold_sum : ∀ (l : Cs) (f : List Cs) (w : Cs), f.length ≤ (f.map List.length).sum → (l.foldl tstep (f, w)).1.length ≤ ((l.foldl tstep (f, w)).1.map List.length).sum ∧
    ((l.foldl tstep (f, w)).1.map List.length).sum + (l.foldl tstep (f, w)).2.length ≤ (f.map List.length).sum + w.length + l.length
  | [], f, w, h => ⟨h, by simp⟩
  | c :: r, f, w, h => by
    have hp := put_sum w
    rw [List.foldl_cons]
    rcases three c with hc | hc | hc
    · rw [tstep_br hc]
      have := tfold_sum r (f ++ put w ++ [[c]]) [] (by simp only [List.length_append, List.map_append, List.sum_append, List.length_singleton, List.map_cons, List.map_nil, List.sum_cons, List.sum_nil, List.length_cons, List.length_nil]; omega)
      refine ⟨this.1, Nat.le_trans this.2 ?_⟩
      simp only [List.map_append, List.sum_append, List.map_cons, List.map_nil, List.sum_cons, List.sum_nil, List.length_singleton, List.length_cons, List.length_nil]
      omega
    · subst hc
      rw [tstep_sp]
      have := tfold_sum r (f ++ put w) [] (by simp only [List.length_append, List.map_append, List.sum_append]; omega)
      refine ⟨this.1, Nat.le_trans this.2 ?_⟩
      simp only [List.map_append, List.sum_append, List.length_cons, List.length_nil]
      omega
    · rw [tstep_wd hc]
      have := tfold_sum r f (w ++ [c]) h
      refine ⟨this.1, Nat.le_trans this.2 ?_⟩
      simp only [List.length_append, List.length_singleton, List.length_cons, List.length_nil]
      omega
theorem tfold_bound (l : Cs) : (tfold l).1.length ≤ l.length ∧ (tfold l).2.length ≤ l.length := by
  have := tfold_sum l [] [] (Nat.le_refl _)
  simp only [List.map_nil, List.sum_nil, List.length_nil, Nat.zero_add] at this
  unfold tfold
  omega
theorem toks_sum (l : Cs) : ((toks l).map List.length).sum + (toks l).length ≤ 2 * l.length := by
  have := tfold_sum l [] [] (Nat.le_refl _)
  simp only [List.map_nil, List.sum_nil, List.length_nil, Nat.zero_add] at this
  have hp := put_sum (tfold l).2
  rw [← tfold_toks, List.map_append, List.sum_append, List.length_append]
  unfold tfold at hp ⊢
  omega
section
variable {P : Program} {w : World} {K : PySem.W.Frag} {mg : Str → Option Value} {base : Heap} {tS tF : Tok}
def spLineOf (K : PySem.W.Frag) : Sp := fun vs H Q _ => ∃ (a : Addr) (ts : List Cs), vs = [.ref a] ∧ SqL K H a (tokV ts) ∧ (ts.map List.length).sum + ts.length ≤ 300000 ∧ ∀ H', Same H H' → Q (.str (mkS (lineOf ts))) H'
theorem cal_line_of (T : Txt K mg tS tF) (F : FunAt K mg "line_of" s_line_of) : Cal P w K mg base CX0 1 "line_of" P_line_of (spLineOf K) := by
  refine F.cal (fun f fd F => ?_) fun _ _ _ _ _ _ us hl => match us, hl with | [_], _ => rfl
  refine F.ok sc_line_of (fun vs H Q E h => ?_) (fun cdv A outer s H vs Q E hr h => ?_)
  · obtain ⟨a, ts, rfl, _⟩ := h
    rfl
  obtain ⟨a, ts, rfl, hS, hz, q⟩ := h
  have e41 : TL.tl (")" : Str) = [41] := by decide +kernel
  have e40 : TL.tl ("(" : Str) = [40] := by decide +kernel
  have e32 : TL.tl (" " : Str) = [32] := by decide +kernel
  have hat : ∀ {j : Nat} {t : Cs}, ts[j]? = some t → atI (tokV ts) ((j : Nat) : Int) = some (.str (mkS t)) := fun {j t} h => atI_nat (by rw [List.getElem?_map, h]; rfl)
  refine ⟨_, (pss_cons (ps_set (i := 1) sc_line_of.nd rfl (Or.inl rfl) pe_str)
  (pss_cons (ps_for PassesOwn.never rfl (pi_range1 rfl T.range (pa_cons (pe_callB call_len_seq (by rfl) T.len (by decide +kernel) (pa_cons (pv 0) pa_nil)) pa_nil)) (pg_name (i := 2) sc_line_of.nd rfl (Or.inl rfl)) (pss_cons (ps_if (PW.pt (pw_and (pt_cmpR op_gt (pv 2) pe_int (nomark _)) (pw_and (pt_cmpR op_ne (pe_ix ix_list (pv 0) (pv 2) (fun _ _ => rfl)) pe_str (nomark _)) (pw_and1 (pt_cmpR op_ne (pe_ix ix_list (pv 0) (pe_op op_sub (pv 2) pe_int) (fun _ _ => rfl)) pe_str (nomark _)))))) (pss_one (ps_set (i := 1) sc_line_of.nd rfl (Or.inl rfl) (pe_op op_add_str (pv 1) pe_str))) pss_nil)
  (pss_one (ps_set (i := 1) sc_line_of.nd rfl (Or.inl rfl) (pe_op op_add_str (pv 1) (pe_ix ix_list (pv 0) (pv 2) (fun _ _ => rfl)))))))
  (pss_one (ps_ret (pv 1))))), ?_⟩
  refine ⟨_, rfl, a, _, rfl, .inl hS, _, rfl, by omega, by rw [List.length_map]; omega, for_src (src_range (lo := 0)) (fun i σ H' => H' = H ∧ ∃ v, σ = [some (.ref a), some (.str (mkS (lineOf (ts.take i)))), v]) ⟨rfl, none, ?_⟩ (fun _ _ _ _ _ => trivial) (fun i x σ H' hx ⟨eH, v, eσ⟩ => ?_) fun σ H' ⟨eH, v, eσ⟩ => ?_⟩
  · have : mkS (lineOf (ts.take 0)) = ("" : Str) := TL.ext_tl (by show [] = TL.tl ("" : Str); decide +kernel)
    rw [this]; rfl
  · subst eH eσ
    have hi : i < ts.length := by
      have := (List.getElem?_eq_some_iff.mp hx).1
      rw [nums_len, List.length_map] at this
      simpa using this
    rw [nums_at (by rw [List.length_map]; simpa using hi)] at hx
    cases hx
    obtain ⟨t, ht⟩ : ∃ t, ts[i]? = some t := ⟨ts[i], List.getElem?_eq_getElem hi⟩
    have eT := lineOf_take ht
    have sz : (lineOf (ts.take i)).length + 1 + t.length ≤ 600001 := by
      have h1 := lineOf_len (ts.take i)
      have h2 := sum_take_at (ts.map List.length) i t.length (by rw [List.getElem?_map, ht]; rfl)
      rw [← List.map_take] at h2
      rw [List.length_take] at h1
      omega
    have e0 : (0 : Int) + ((i : Nat) : Int) = ((i : Nat) : Int) := Int.zero_add _
    rw [e0]
    refine ifS_val (decide (0 < i ∧ t ≠ [41] ∧ ts[i - 1]? ≠ some [40])) (fun Q' q' => ?_) ?_
    · refine ⟨_, rfl, _, _, rfl, rfl, _, rfl, ite2 (fun e => ?_) fun e => ?_⟩
      · have h0 : 0 < i := by have := of_decide_eq_true e; omega
        refine ⟨_, rfl, _, rfl, a, _, _, .str (mkS t), rfl, rfl, hS, hat ht, rfl, _, rfl, ?_⟩
        rw [eq_str, e41]
        refine ite2 (fun e1 => ?_) fun e1 => ?_
        · obtain ⟨u, hu⟩ : ∃ u, ts[i - 1]? = some u := ⟨ts[i - 1], List.getElem?_eq_getElem (by omega)⟩
          have ei : ((i : Nat) : Int) - 1 = (((i - 1 : Nat)) : Int) := by omega
          refine ⟨_, rfl, _, rfl, _, _, rfl, rfl, a, _, _, .str (mkS u), rfl, rfl, hS, by rw [ei]; exact hat hu, rfl, _, rfl, ?_⟩
          rw [eq_str, e40]
          have : (!decide (TL.tl (mkS u) = [40])) = decide (0 < i ∧ t ≠ [41] ∧ ts[i - 1]? ≠ some [40]) := by
            rw [← decide_not, decide_eq_decide, hu]
            have ht41 : ¬ t = [41] := by
              have : decide (TL.tl (mkS t) = [41]) = false := by simpa using e1
              exact of_decide_eq_false this
            exact ⟨fun z => ⟨h0, ht41, fun y => z (by injection y)⟩, fun z y => z.2.2 (by rw [← y]; rfl)⟩
          rw [this]
          exact q'
        · have : decide (0 < i ∧ t ≠ [41] ∧ ts[i - 1]? ≠ some [40]) = false := decide_eq_false fun z => z.2.1 (by
            have : decide (TL.tl (mkS t) = [41]) = true := by simpa using e1
            exact of_decide_eq_true this)
          rw [this] at q'
          exact q'
      · have : decide (0 < i ∧ t ≠ [41] ∧ ts[i - 1]? ≠ some [40]) = false := decide_eq_false fun z => e (decide_eq_true (by omega))
        rw [this] at q'
        exact q'
    · have l32 : (" " : Str).length = 1 := by decide +kernel
      by_cases hc : 0 < i ∧ t ≠ [41] ∧ ts[i - 1]? ≠ some [40]
      · rw [decide_eq_true hc]
        refine iteT ?_
        refine ⟨_, rfl, _, _, rfl, rfl, by rw [mkS_len, l32]; exact small_of (by omega), ?_⟩
        refine ⟨_, rfl, _, rfl, _, rfl, a, _, _, .str (mkS t), rfl, rfl, hS, hat ht, _, _, rfl, rfl, by rw [Str.length_append, mkS_len, mkS_len, l32]; exact small_of (by omega), rfl, some (.int ((i : Nat) : Int)), ?_⟩
        rw [eT, if_pos hc]
        have : mkS (lineOf (ts.take i)) ++ (" " : Str) ++ mkS t = mkS (lineOf (ts.take i) ++ [32] ++ t) := TL.ext_tl (by rw [TL.tl_append, TL.tl_append, e32]; rfl)
        rw [← this]
        rfl
      · rw [decide_eq_false hc]
        refine iteF ?_
        refine ⟨_, rfl, _, rfl, _, rfl, a, _, _, .str (mkS t), rfl, rfl, hS, hat ht, _, _, rfl, rfl, by rw [mkS_len, mkS_len]; exact small_of (by omega), rfl, some (.int ((i : Nat) : Int)), ?_⟩
        rw [eT, if_neg hc, List.append_nil, ← mkS_app]
        rfl
  · subst eH eσ
    refine ⟨_, rfl, ?_⟩
    rw [nums_len, List.length_map, List.take_of_length_le (by simp)]
    exact q H' (Same.refl _)
def spLineTokens (K : PySem.W.Frag) : Sp := fun vs H Q _ => ∃ x : Str, vs = [.str x] ∧ x.length ≤ 100000 ∧
  (lineOf (toks (TL.tl x)) = TL.tl x → ∀ p H', Same H H' → H p = none → H' p = some (.lst (tokV (toks (TL.tl x)))) → Q (.ref p) H') ∧ (lineOf (toks (TL.tl x)) ≠ TL.tl x → ∀ H', Same H H' → Q .non H')
theorem cal_line_tokens (T : Txt K mg tS tF) (F : FunAt K mg "line_tokens" s_line_tokens) (c_line_of : Cal P w K mg base CX0 1 "line_of" P_line_of (spLineOf K)) : Cal P w K mg base CX0 2 "line_tokens" P_line_tokens (spLineTokens K) := by
  refine F.cal (fun f fd F => ?_) fun _ _ _ _ _ _ us hl => match us, hl with | [_], _ => rfl
  refine F.ok sc_line_tokens (fun vs H Q E h => ?_) (fun cdv A outer s H vs Q E hr h => ?_)
  · obtain ⟨x, rfl, _⟩ := h
    rfl
  obtain ⟨x, rfl, hz, q1, q2⟩ := h
  have hz' : x.length ≤ sizeLine := small_of (by omega)
  have hl := TL.len_tl x
  have e32 : TL.tl (" " : Str) = [32] := by decide +kernel
  have e0 : TL.tl ("" : Str) = [] := by decide +kernel
  have ebr : (" ()" : Str).cps.toList = [32, 40, 41] := by decide +kernel
  refine ⟨_, (pss_cons (ps_set (i := 1) sc_line_tokens.nd rfl (Or.inl rfl) (pe_lst pa_nil))
  (pss_cons (ps_set (i := 2) sc_line_tokens.nd rfl (Or.inl rfl) pe_str)
  (pss_cons (ps_for PassesOwn.never rfl (pi_range1 rfl T.range (pa_cons (pe_callB call_len_str (by rfl) T.len (by decide +kernel) (pa_cons (pv 0) pa_nil)) pa_nil)) (pg_name (i := 3) sc_line_tokens.nd rfl (Or.inl rfl)) (pss_cons (ps_set (i := 4) sc_line_tokens.nd rfl (Or.inl rfl) (pe_ix ix_str (pv 0) (pv 3) (fun _ _ => rfl)))
  (pss_cons (ps_if (pt_cmpR op_notIn_sign (pv 4) pe_str rfl) (pss_cons (ps_set (i := 2) sc_line_tokens.nd rfl (Or.inl rfl) (pe_op op_add_str (pv 2) (pv 4)))
  (pss_one (ps_continue))) pss_nil)
  (pss_cons (ps_if (pt_cmpR op_ne (pv 2) pe_str (nomark _)) (pss_cons (ps_expr (pe_bm PySem.F.plainAttrs_list PySem.F.slot_list_append PySem.F.type_list_append mt_append (pv 1) (pa_cons (pv 2) pa_nil)))
  (pss_one (ps_set (i := 2) sc_line_tokens.nd rfl (Or.inl rfl) pe_str))) pss_nil)
  (pss_one (ps_if (pt_cmpR op_ne (pv 4) pe_str (nomark _)) (pss_one (ps_expr (pe_bm PySem.F.plainAttrs_list PySem.F.slot_list_append PySem.F.type_list_append mt_append (pv 1) (pa_cons (pv 4) pa_nil)))) pss_nil))))))
  (pss_cons (ps_if (pt_cmpR op_ne (pv 2) pe_str (nomark _)) (pss_one (ps_expr (pe_bm PySem.F.plainAttrs_list PySem.F.slot_list_append PySem.F.type_list_append mt_append (pv 1) (pa_cons (pv 2) pa_nil)))) pss_nil)
  (pss_one (ps_ret (pe_ifExp (pt_cmpR op_eq (pc c_line_of (hr.mono (by decide)) (pa_cons (pv 1) pa_nil)) (pv 0) (nomark _)) (pv 1) pe_non))))))), ?_⟩
  refine ⟨Nat.zero_le _, fun p hp => ?_⟩
  have ext : ∀ {H' : Hp} {o : HO}, Same H H' → Same H (upd H' p o) := fun {H' o} s b u e => by rw [upd_ne (ne_of_none e hp)]; exact s b u e
  have lt : ∀ {n : Nat}, n ≤ 100001 → n < sizeLine := fun h => small_lt (by omega)
  refine ⟨_, rfl, x, rfl, hz', _, rfl, by omega, by omega, for_src (src_range (lo := 0)) (fun i σ H' => Same H H' ∧ H' p = some (.lst (tokV (tfold ((TL.tl x).take i)).1)) ∧ ∃ v3 v4, σ = [some (.str x), some (.ref p), some (.str (mkS (tfold ((TL.tl x).take i)).2)), v3, v4])
    ⟨ext (Same.refl _), upd_same, none, none, ?_⟩ (fun _ _ _ _ _ => trivial) (fun i v σ H' hx ⟨sm, eL, v3, v4, eσ⟩ => ?_) fun σ H' ⟨sm, eL, v3, v4, eσ⟩ => ?_⟩
  · have : mkS (tfold ((TL.tl x).take 0)).2 = ("" : Str) := TL.ext_tl (by show [] = TL.tl ("" : Str); decide +kernel)
    rw [this]; rfl
  · subst eσ
    have hi : i < x.length := by
      have := (List.getElem?_eq_some_iff.mp hx).1
      rw [nums_len] at this
      simpa using this
    rw [nums_at (by simpa using hi)] at hx
    cases hx
    obtain ⟨c, hc⟩ : ∃ c, (TL.tl x)[i]? = some c := ⟨(TL.tl x)[i]'(by omega), List.getElem?_eq_getElem (by omega)⟩
    have eT := tfold_snoc hc
    have hb := tfold_bound ((TL.tl x).take i)
    rw [List.length_take] at hb
    generalize hs : tfold ((TL.tl x).take i) = st at eT hb eL
    obtain ⟨f, wd⟩ := st
    dsimp only at hb eL
    have e0i : (0 : Int) + ((i : Nat) : Int) = ((i : Nat) : Int) := Int.zero_add _
    rw [e0i]
    -- sign = line[at]
    refine ⟨_, rfl, _, rfl, x, _, c, rfl, rfl, hz', atI_nat hc, ?_⟩
    refine ⟨_, rfl, c, _, rfl, rfl, _, rfl, ?_⟩
    rw [ebr]
    refine ite2 (fun e => ?_) fun e => ?_
    · -- a sign of a word
      have hn : ¬ (c = 32 ∨ c = 40 ∨ c = 41) := by
        have : decide (c ∈ [32, 40, 41]) = false := by simpa using e
        simpa using of_decide_eq_false this
      refine ⟨_, rfl, _, rfl, _, _, rfl, rfl, by rw [mkS_len]; exact small_of (by show wd.length + 1 ≤ _; omega), ?_⟩
      have es : tstep (f, wd) c = (f, wd ++ [c]) := tstep_wd hn
      refine ⟨sm, by rw [eT, es]; exact eL, some (.int ((i : Nat) : Int)), some (.str ⟨#[c]⟩), ?_⟩
      rw [eT, es, show mkS (wd ++ [c]) = mkS wd ++ (⟨#[c]⟩ : Str) from (mkS_app wd [c]).symm]
      rfl
    · have hc3 : c = 32 ∨ c = 40 ∨ c = 41 := by
        have : decide (c ∈ [32, 40, 41]) = true := by
          cases hq : decide (c ∈ [32, 40, 41]) with
          | true => rfl
          | false => exact absurd (by rw [hq]; rfl) e
        simpa using of_decide_eq_true this
      have hf : (tokV f).length ≤ 100000 := by rw [List.length_map]; omega
      have es1 : mkS ([] : Cs) = ("" : Str) := TL.ext_tl e0.symm
      -- the sign itself: a bracket is taken, a blank is not
      by_cases hw : wd = []
      · subst hw
        refine ⟨_, rfl, rfl, _, rfl, ?_⟩
        rw [eq_str, e0]
        refine iteF ?_
        refine ⟨_, rfl, rfl, _, rfl, ?_⟩
        rw [eq_str, e32]
        rcases hc3 with rfl | hb2
        · refine iteF ?_
          rw [eT, tstep_sp]
          exact ⟨sm, by rw [show f ++ put [] = f from List.append_nil f]; exact eL, some (.int ((i : Nat) : Int)), some (.str ⟨#[32]⟩), rfl⟩
        · have hne : (!decide (TL.tl (⟨#[c]⟩ : Str) = [32])) = true := by
            rw [Bool.not_eq_true', decide_eq_false_iff_not]
            intro z; injection z with z; omega
          refine (if_pos hne).mpr ?_
          refine ⟨_, rfl, .inl ⟨rfl, _, SqL.of eL⟩, _, rfl, p, _, _, rfl, rfl, eL, lt (by omega), ?_⟩
          rw [eT, tstep_br hb2]
          refine ⟨ext sm, ?_, some (.int ((i : Nat) : Int)), some (.str ⟨#[c]⟩), rfl⟩
          rw [upd_same, show f ++ put [] ++ [[c]] = f ++ [[c]] from by rw [show f ++ put [] = f from List.append_nil f]]
          show some (HO.lst (tokV f ++ [V.str ⟨#[c]⟩])) = some (HO.lst (tokV (f ++ [[c]])))
          rw [show tokV (f ++ [[c]]) = tokV f ++ [V.str ⟨#[c]⟩] from List.map_append]
      · have hpw : put wd = [wd] := if_neg hw
        refine ⟨_, rfl, rfl, _, rfl, ?_⟩
        rw [eq_str, e0]
        have hne : (!decide (TL.tl (mkS wd) = [])) = true := by
          rw [Bool.not_eq_true', decide_eq_false_iff_not]
          exact hw
        refine (if_pos hne).mpr ?_
        refine ⟨_, rfl, .inl ⟨rfl, _, SqL.of eL⟩, _, rfl, p, _, _, rfl, rfl, eL, lt (by omega), ?_⟩
        have eU : tokV f ++ [V.str (mkS wd)] = tokV (f ++ put wd) := by rw [hpw]; show _ = List.map _ _; rw [List.map_append]; rfl
        refine ⟨_, rfl, rfl, _, rfl, ?_⟩
        rw [eq_str, e32]
        rcases hc3 with rfl | hb2
        · refine iteF ?_
          rw [eT, tstep_sp]
          refine ⟨ext sm, by rw [upd_same]; exact congrArg (fun z => some (HO.lst z)) eU, some (.int ((i : Nat) : Int)), some (.str ⟨#[32]⟩), ?_⟩
          rw [es1]; rfl
        · have hne : (!decide (TL.tl (⟨#[c]⟩ : Str) = [32])) = true := by
            rw [Bool.not_eq_true', decide_eq_false_iff_not]
            intro z; injection z with z; omega
          refine (if_pos hne).mpr ?_
          refine ⟨_, rfl, .inl ⟨rfl, _, SqL.of upd_same⟩, _, rfl, p, _, _, rfl, rfl, upd_same, lt (by rw [List.length_append, List.length_singleton]; omega), ?_⟩
          rw [eT, tstep_br hb2]
          refine ⟨ext (ext sm), ?_, some (.int ((i : Nat) : Int)), some (.str ⟨#[c]⟩), ?_⟩
          · rw [upd_same, eU]
            show some (HO.lst (tokV (f ++ put wd) ++ [V.str ⟨#[c]⟩])) = some (HO.lst (tokV (f ++ put wd ++ [[c]])))
            rw [show tokV (f ++ put wd ++ [[c]]) = tokV (f ++ put wd) ++ [V.str ⟨#[c]⟩] from List.map_append]
          · rw [es1]; rfl
  · subst eσ
    have hb := tfold_bound (TL.tl x)
    have hts := tfold_toks (TL.tl x)
    have hsum := toks_sum (TL.tl x)
    rw [nums_len] at eL
    rw [nums_len]
    have etk : (TL.tl x).take ((x.length : Int)).toNat = TL.tl x := List.take_of_length_le (by omega)
    rw [etk] at eL ⊢
    generalize hs : tfold (TL.tl x) = st at hb eL hts
    obtain ⟨f, wd⟩ := st
    dsimp only at hb eL hts
    have hf : (tokV f).length ≤ 100000 := by rw [List.length_map]; omega
    refine ⟨_, rfl, rfl, _, rfl, ?_⟩
    rw [eq_str, e0]
    by_cases hw : wd = []
    · subst hw
      have hts : f = toks (TL.tl x) := by rw [← hts]; exact (List.append_nil f).symm
      subst hts
      refine iteF ?_
      refine ⟨_, rfl, p, _, rfl, SqL.of eL, by omega, fun H2 s2 => ⟨_, rfl, rfl, _, rfl, ?_⟩⟩
      rw [eq_str]
      refine ite2 (fun e => ?_) fun e => ?_
      · exact ⟨_, rfl, q1 (of_decide_eq_true e) p H2 (sm.trans s2) hp (s2 _ _ eL)⟩
      · exact q2 (of_decide_eq_false (Bool.eq_false_iff.mpr e)) H2 (sm.trans s2)
    · have hpw : put wd = [wd] := if_neg hw
      have hne : (!decide (TL.tl (mkS wd) = [])) = true := by
        rw [Bool.not_eq_true', decide_eq_false_iff_not]
        exact hw
      refine (if_pos hne).mpr ?_
      refine ⟨_, rfl, .inl ⟨rfl, _, SqL.of eL⟩, _, rfl, p, _, _, rfl, rfl, eL, lt (by omega), ?_⟩
      have eU : tokV f ++ [V.str (mkS wd)] = tokV (toks (TL.tl x)) := by rw [← hts, hpw]; show _ = List.map _ _; rw [List.map_append]; rfl
      rw [eU]
      refine ⟨_, rfl, p, _, rfl, SqL.of upd_same, by omega, fun H2 s2 => ⟨_, rfl, rfl, _, rfl, ?_⟩⟩
      rw [eq_str]
      refine ite2 (fun e => ?_) fun e => ?_
      · exact ⟨_, rfl, q1 (of_decide_eq_true e) p H2 ((ext sm).trans s2) hp (s2 _ _ upd_same)⟩
      · exact q2 (of_decide_eq_false (Bool.eq_false_iff.mpr e)) H2 ((ext sm).trans s2)
end
end K66

set_option exponentiation.threshold 5000
/-! K66W4: the error BadLetter, read_word. -/
namespace K66
open PySem PySem.Spec PyProof.Rows L2 HR
abbrev s_init : Stmt := inClass (topS 2) 0
abbrev N_init : List Str := ["self", "line"]
abbrev P_init : List Str := ["self", "line"]
theorem sc_init : FnScope N_init P_init (defScope s_init) := ⟨rfl, rfl, rfl, by decide +kernel, rfl, by decide +kernel, by decide +kernel⟩
/-- what the top has written of the error's class at C, its base at S -/
structure Err (K : PySem.W.Frag) (mg : Str → Option Value) (C S : Addr) : Prop where
  ox : OexC K C
  sup : SupC K S
  gC : mg "BadLetter" = some (.ref C)
  gS : mg "SleepError" = some (.ref S)
  noL : PySem.W.findIn K (.ref C) "line" = some none
  te : PySem.W.exmOne K (.ref C) (.ref C) = some true
  hd : PySem.W.hasDictIn K C = true
  ga : PySem.W.findIn K (.ref C) "__getattribute__" = some (some (.builtin "BaseException.__getattribute__"))
  gg : PySem.W.findIn K (.ref C) "__getattr__" = some none
  init : ∃ (fI : Addr) (fd : FuncData), PySem.W.findIn K (.ref C) "__init__" = some (some (.ref fI)) ∧ PySem.W.typeIn K (.ref fI) = some (.type "function") ∧ Fun K "__init__" "BadLetter.__init__" s_init fI fd
abbrev fewer (n : Int) : Prop := n.natAbs < 10 ^ 4300
abbrev told (n : Int) : HO := .xd [(("line" : Str), .int n)]
def spInit (C : Addr) : Sp := fun vs H Q _ => ∃ (a : Addr) (n : Int), vs = [.ref a, .int n] ∧ H a = some (exo a C none) ∧ fewer n ∧
  ∀ d, H d = none → d ≠ a → Q .non (upd (upd H d (exd d [(("line" : Str), .int n)])) a (exo a C (some d)))
theorem len_str_int {n : Int} (h : fewer n) : (Str.ofString (toString n)).length ≤ 4301 := by
  have e := tl_int n
  rw [TL.len_tl, e]
  have hl := TL.numL_len (n := n.natAbs) (k := 4300) (by decide) h
  unfold intL
  split
  · rw [List.length_cons]; omega
  · omega
section
variable {P : Program} {w : World} {K : PySem.W.Frag} {mg : Str → Option Value} {base : Heap} {tS tF : Tok} {C S : Addr}
theorem ok_init (T : Txt K mg tS tF) (R : Err K mg C S) {f : Addr} {fd : FuncData} (F : Fun K "__init__" "BadLetter.__init__" s_init f fd) : FnOk P w K mg base CX0 1 f fd P_init (spInit C) := by
  refine F.ok sc_init (fun vs H Q E h => ?_) (fun cdv A outer s H vs Q E hr h => ?_)
  · obtain ⟨a, n, rfl, _⟩ := h
    rfl
  obtain ⟨a, n, rfl, ha, hn, q⟩ := h
  refine ⟨_, pss_cons (ps_expr (pe_sinit R.sup R.gS (pa_cons (pv 0) (pa_cons (pe_op op_add_str (pe_op op_add_str pe_str pe_str) (pe_callTy (call_strA T.nd rfl) (by rfl) T.str (by decide +kernel) (pa_cons (pv 1) pa_nil))) pa_nil)))) (pss_one (ps_ost (pv 0) (pv 1))), ?_⟩
  have hl := len_str_int hn
  have h1 : ("BadLetter" : Str).length = 9 := by decide +kernel
  have h2 : (" " : Str).length = 1 := by decide +kernel
  refine ⟨_, rfl, _, _, rfl, rfl, by rw [h1, h2]; exact small_of (by decide), _, rfl, .inl ⟨n, rfl, hn, ?_⟩⟩
  refine ⟨_, _, rfl, rfl, by rw [Str.length_append, h1, h2]; exact small_of (by omega), a, C, _, rfl, by show 1 ≤ 1000; decide, R.ox, ha, ?_⟩
  exact ⟨_, rfl, _, rfl, a, C, rfl, R.ox, R.noL, .inl ⟨ha, fun d hd ne => q d hd ne⟩⟩
/-- BadLetter(e) -/
def tBad (C : Addr) (ta : TA) : L2.St → Hp → XK → Prop := fun σ H Q => ta σ H fun vs H1 => ∃ n : Int, vs = [.int n] ∧ fewer n ∧ ∀ d H2, H1 d = none → Same H1 H2 → H2 d = some (told n) → Q (.ref C) (some d) H2
theorem pmk_bad {X : Cx} {tS tF : Tok} {e : Expr} {ta : TA} {p pos : Pos} (T : Txt X.K X.mg tS tF) (R : Err X.K X.mg C S) (hr : Room 2 X.A) (ha : PA X [e] ta) (hg : Gl X "BadLetter" := by rfl)
    (he : starEach (e :: []) X.env = (false, eval e X.env) :: starEach [] X.env := by rfl) (hpl : (backTo pos (starEach [] X.env)).any (·.1) = false := by rfl)
    (mono : ∀ σ H (Q Q' : List V → Hp → Prop), (∀ vs H, Q vs H → Q' vs H) → ta σ H Q → ta σ H Q') :
    PMk X (.Call (.Name "BadLetter" p) [e] [] pos) (tBad C ta) := by
  obtain ⟨fI, fd, iC, tI, F⟩ := R.init
  intro pins s σ H Q I h
  refine pmk_oex (CX := CX0) (dvs := []) (ds := []) (sp := spInit C) (k := 1) R.ox iC tI (ok_init (base := X.base) T R F) hr (F.binds (ps := P_init) fun _ _ _ _ _ _ us hl => match us, hl with | [_, _], _ => rfl) .nil pass0 hg R.gC ha (by decide) he hpl pins s σ H Q I ?_
  refine mono σ H _ _ (fun vs H1 hv => ?_) h
  obtain ⟨n, rfl, hn, q⟩ := hv
  refine ⟨by show 1 ≤ 1000; decide, fun a na => ⟨a, n, rfl, upd_same, hn, fun d hd ne => ?_⟩⟩
  rw [upd_ne ne] at hd
  refine ⟨rfl, d, [(("line" : Str), .int n)], upd_same, ?_, hd, q d _ hd (fun b o z => ?_) upd_same⟩
  · rw [upd_ne ne, upd_same]
  · have h1 : b ≠ d := ne_of_none z hd
    have h2 : b ≠ a := ne_of_none z na
    rw [upd_ne h1, del_ne h2, upd_ne h2, upd_ne h1, upd_ne h2]
    exact z
theorem mono1 {i : Nat} : ∀ (σ : L2.St) (H : Hp) (Q Q' : List V → Hp → Prop), (∀ vs H, Q vs H → Q' vs H) → tCons (tVar i) tNil σ H Q → tCons (tVar i) tNil σ H Q' := fun σ H Q Q' k ⟨v, e, q⟩ => ⟨v, e, k _ _ q⟩
/-- raise BadLetter(name in slot i), in a def whose wish of errors is E -/
theorem ps_bad {X : Cx} {tS tF : Tok} {W : WX} {i : Nat} {e : Expr} {p pos pos2 : Pos} (T : Txt X.K X.mg tS tF) (R : Err X.K X.mg C S) (hc : X.calm = true) (tk : Takes X W) (hr : Room 2 X.A) (ha : PE X e (tVar i)) (hg : Gl X "BadLetter" := by rfl)
    (he : starEach (e :: []) X.env = (false, eval e X.env) :: starEach [] X.env := by rfl) (hpl : (backTo pos (starEach [] X.env)).any (·.1) = false := by rfl) :
    PS X (.Raise (some (.Call (.Name "BadLetter" p) [e] [] pos)) none pos2) (fun _ σ H => tBad C (tCons (tVar i) tNil) σ H fun cls d H' => W cls d σ H') :=
  ps_raise hc tk (pmk_bad T R hr (pa_cons (hs := he) ha pa_nil) hg he hpl mono1)

def spReadWord (K : PySem.W.Frag) (C : Addr) : Sp := fun vs H Q E => ∃ (x : Str) (n : Int), vs = [.str x, .int n] ∧ x.length ≤ 100000 ∧ TL.tl x ≠ [] ∧ fewer n ∧
  (∀ d, readWord (TL.tl x) = some d → ∀ v H', Same H H' → Dt K H' v d → Q v H') ∧ (readWord (TL.tl x) = none → ∀ a H', H a = none → Same H H' → H' a = some (told n) → E (.ref C) (some a) H')
theorem cal_read_word (T : Txt K mg tS tF) (R : Err K mg C S) (F : FunAt K mg "read_word" s_read_word) (c_is_word : Cal P w K mg base CX0 1 "is_word" P_is_word spIsWord) (c_is_number : Cal P w K mg base CX0 1 "is_number" P_is_number spIsNumber) :
    Cal P w K mg base (L2.CX P w) 3 "read_word" P_read_word (spReadWord K C) := by
  refine F.cal (fun f fd F => ?_) fun _ _ _ _ _ _ us hl => match us, hl with | [_, _], _ => rfl
  refine F.okX sc_read_word (fun vs H Q E h => ?_) (fun cdv A outer s H vs Q E hr h => ?_)
  · obtain ⟨x, n, rfl, _⟩ := h
    rfl
  obtain ⟨x, n, rfl, hz, hne, hn, q1, q2⟩ := h
  refine ⟨_, (pss_cons (ps_if (pt_cmpR op_eq (pv 0) pe_str (nomark _)) (pss_one (ps_ret pe_non)) pss_nil)
  (pss_cons (ps_if (pt_val (pc c_is_number (hr.mono (by decide)) (pa_cons (pv 0) pa_nil))) (pss_one (ps_ret (pe_callTy (call_intN T.nd) (by rfl) T.int (by decide +kernel) (pa_cons (pv 0) pa_nil)))) pss_nil)
  (pss_cons (ps_if (pt_val (pc c_is_word (hr.mono (by decide)) (pa_cons (pv 0) pa_nil))) (pss_one (ps_ret (pv 0))) pss_nil)
  (pss_one (ps_bad T R rfl (takes_of rfl rfl rfl rfl) hr (pv 1)))))), ?_⟩
  have e45 : TL.tl ("-" : Str) = [45] := by decide +kernel
  refine ⟨_, rfl, rfl, _, rfl, ?_⟩
  rw [eq_str, e45]
  refine ite2 (fun e => ?_) fun e => ?_
  · exact q1 .none (if_pos (of_decide_eq_true e)) _ H (Same.refl _) .non
  have ne45 : TL.tl x ≠ [45] := of_decide_eq_false (Bool.eq_false_iff.mpr e)
  refine ⟨_, rfl, x, rfl, hz, hne, fun H1 s1 => ⟨_, rfl, ?_⟩⟩
  cases hnum : isNumber (TL.tl x) with
  | true =>
    refine iteT ?_
    have hI := num_text hnum
    rw [mkS_tl] at hI
    have hl := isNumber_iff.mp hnum
    have hlen : x.length ≤ 4300 := by
      rw [TL.len_tl]
      have h3 := hl.2.1
      unfold figs at h3
      split at h3
      · rw [List.length_tail] at h3; omega
      · omega
    refine ⟨_, rfl, x, _, rfl, hI, hlen, ?_⟩
    refine q1 (.int (intVal (TL.tl x))) ?_ _ H1 s1 (.int _)
    unfold readWord
    rw [if_neg ne45, if_pos hnum]
  | false =>
    refine iteF ?_
    refine ⟨_, rfl, x, rfl, hz, hne, fun H2 s2 => ⟨_, rfl, ?_⟩⟩
    cases hw : isWord (TL.tl x) with
    | true =>
      refine iteT ⟨_, rfl, ?_⟩
      refine q1 (.str x) ?_ _ H2 (s1.trans s2) (.str x)
      unfold readWord
      rw [if_neg ne45, hnum, if_neg Bool.false_ne_true, if_pos hw, mkS_tl]
    | false =>
      refine iteF ?_
      refine ⟨_, rfl, n, rfl, hn, fun d H3 hd s3 e3 => ?_⟩
      refine q2 ?_ d H3 ?_ (s1.trans (s2.trans s3)) e3
      · unfold readWord
        rw [if_neg ne45, hnum, if_neg Bool.false_ne_true, hw, if_neg Bool.false_ne_true]
      · exact (s1.trans s2).free hd
end
end K66

/-! K66W5: read_line. -/
namespace K66
open PySem PySem.Spec PyProof.Rows L2 HR
theorem toks_sum1 (l : Cs) : ((toks l).map List.length).sum ≤ l.length := by
  have := tfold_sum l [] [] (Nat.le_refl _)
  simp only [List.map_nil, List.sum_nil, List.length_nil, Nat.zero_add] at this
  have hp := put_sum (tfold l).2
  rw [← tfold_toks, List.map_append, List.sum_append]
  unfold tfold at hp ⊢
  omega
theorem put_ne {w t : Cs} (h : t ∈ put w) : t ≠ [] := by
  unfold put at h
  split at h
  · cases h
  · rename_i hw
    rw [List.mem_singleton] at h
    rw [h]; exact hw
theorem toksGo_ne : ∀ (l w t : Cs), t ∈ toksGo w l → t ≠ []
  | [], w, t, h => put_ne h
  | c :: r, w, t, h => by
    rw [toksGo] at h
    split at h
    · rcases List.mem_append.mp h with h | h
      · exact put_ne h
      · rcases List.mem_cons.mp h with rfl | h
        · simp
        · exact toksGo_ne r [] t h
    · split at h
      · rcases List.mem_append.mp h with h | h
        · exact put_ne h
        · exact toksGo_ne r [] t h
      · exact toksGo_ne r (w ++ [c]) t h
theorem tok_ok {l : Cs} {i : Nat} {t : Cs} (h : (toks l)[i]? = some t) : t ≠ [] ∧ t.length ≤ l.length := by
  refine ⟨toksGo_ne l [] t (List.mem_of_getElem? h), ?_⟩
  have h1 := sum_take_at ((toks l).map List.length) i t.length (by rw [List.getElem?_map, h]; rfl)
  have h2 := toks_sum1 l
  omega
/-! the stack as it lies in the heap -/
def rowsOf (st : Stk) : List (List D) := st.2.reverse ++ [st.1]
structure LR (K : PySem.W.Frag) (H : Hp) (as : List Addr) (rows : List (List D)) : Prop where
  len : as.length = rows.length
  at_ : ∀ (i : Nat) (a : Addr) (row : List D), as[i]? = some a → rows[i]? = some row → ∃ vs, H a = some (.lst vs) ∧ DtAll K H vs row
theorem LR.snoc {K : PySem.W.Frag} {H : Hp} {as : List Addr} {rows : List (List D)} {a : Addr} {vs : List V} {row : List D} (l : LR K H as rows) (h : H a = some (.lst vs)) (d : DtAll K H vs row) : LR K H (as ++ [a]) (rows ++ [row]) := by
  refine ⟨by rw [List.length_append, List.length_append, l.len]; rfl, fun i b r hb hr => ?_⟩
  by_cases hi : i < as.length
  · rw [List.getElem?_append_left hi] at hb
    rw [List.getElem?_append_left (by rw [← l.len]; exact hi)] at hr
    exact l.at_ i b r hb hr
  · rw [List.getElem?_append_right (by omega)] at hb
    rw [List.getElem?_append_right (by rw [← l.len]; omega), ← l.len] at hr
    have h0 : i - as.length = 0 := by
      have := (List.getElem?_eq_some_iff.mp hb).1
      simp at this; omega
    rw [h0] at hb hr
    simp at hb hr
    subst hb hr
    exact ⟨vs, h, d⟩
theorem LR.last {K : PySem.W.Frag} {H : Hp} {as : List Addr} {rows : List (List D)} {row : List D} (l : LR K H as (rows ++ [row])) : ∃ bs a, as = bs ++ [a] ∧ LR K H bs rows ∧ ∃ vs, H a = some (.lst vs) ∧ DtAll K H vs row := by
  have hl := l.len
  rw [List.length_append, List.length_singleton] at hl
  rcases List.eq_nil_or_concat as with rfl | ⟨bs, a, rfl⟩
  · simp at hl
  · rw [List.concat_eq_append] at *
    rw [List.length_append, List.length_singleton] at hl
    have hl : bs.length = rows.length := by omega
    refine ⟨bs, a, rfl, ⟨hl, fun i b r hb hr => l.at_ i b r ?_ ?_⟩, l.at_ bs.length a row ?_ ?_⟩
    · rw [List.getElem?_append_left (List.getElem?_eq_some_iff.mp hb).1]; exact hb
    · rw [List.getElem?_append_left (List.getElem?_eq_some_iff.mp hr).1]; exact hr
    · rw [List.getElem?_append_right (Nat.le_refl _), Nat.sub_self]; rfl
    · rw [hl, List.getElem?_append_right (Nat.le_refl _), Nat.sub_self]; rfl
theorem LR.mono {K : PySem.W.Frag} {H H' : Hp} {as : List Addr} {rows : List (List D)} (l : LR K H as rows) (h : ∀ a ∈ as, H' a = H a) (t : TS H H') : LR K H' as rows :=
  ⟨l.len, fun i a row ha hr => by
    obtain ⟨vs, h1, h2⟩ := l.at_ i a row ha hr
    exact ⟨vs, (h a (List.mem_of_getElem? ha)).trans h1, dtAll_mono t h2⟩⟩
/-- the stack st lies at R; H0: what stood before -/
structure StkAt (K : PySem.W.Frag) (H0 H : Hp) (R : Addr) (st : Stk) : Prop where
  ex : ∃ as : List Addr, H R = some (.lst (as.map V.ref)) ∧ H0 R = none ∧ as.Nodup ∧ R ∉ as ∧ (∀ a ∈ as, H0 a = none) ∧ LR K H as (rowsOf st)
theorem pfx {ts : List Cs} {i : Nat} {t : Cs} {st : Stk} (ht : ts[i]? = some t) (h : runS ([], []) (ts.take i) = some st) : runS ([], []) (ts.take (i + 1)) = step st t := by
  rw [take_snoc ht, runS_app, h]
  show runS st [t] = step st t
  rw [runS]
  cases step st t <;> rfl
theorem pfx_none {ts : List Cs} {i : Nat} (h : runS ([], []) (ts.take i) = none) : readToks ts = none := by
  have e : runS ([], []) ts = none := by
    conv => lhs; rw [← List.take_append_drop i ts]
    rw [runS_app, h]; rfl
  unfold readToks
  rw [e]
theorem atI_last {xs : List V} {y : V} : atI (xs ++ [y]) (-1) = some y := by
  have h1 : ixN (xs ++ [y]).length (-1) = some xs.length := by
    unfold ixN
    have hl : (xs ++ [y]).length = xs.length + 1 := by simp
    rw [hl]
    rw [if_neg (by decide), if_pos (by omega)]
    congr 1
    omega
  unfold atI
  rw [h1]
  show (xs ++ [y])[xs.length]? = some y
  rw [List.getElem?_append_right (Nat.le_refl _), Nat.sub_self]
  rfl
section
variable {P : Program} {w : World} {K : PySem.W.Frag} {mg : Str → Option Value} {base : Heap} {tS tF : Tok} {C S : Addr}
theorem nd_snoc {as : List Addr} {a : Addr} (h : (as ++ [a]).Nodup) : as.Nodup ∧ a ∉ as := by
  rw [List.nodup_append] at h
  exact ⟨h.1, fun m => h.2.2 a m a (List.mem_singleton.mpr rfl) rfl⟩
theorem snoc_nd {as : List Addr} {a : Addr} (h : as.Nodup) (n : a ∉ as) : (as ++ [a]).Nodup := by
  rw [List.nodup_append]
  refine ⟨h, by simp, fun b hb c hc e => ?_⟩
  rw [List.mem_singleton] at hc
  subst hc e
  exact n hb
def spReadLine (K : PySem.W.Frag) (C : Addr) : Sp := fun vs H Q E => ∃ (x : Str) (n : Int), vs = [.str x, .int n] ∧ x.length ≤ 100000 ∧ fewer n ∧
  (∀ row, progLine (TL.tl x) = some row → ∀ v H', Same H H' → Dt K H' v (.tuple row) → Q v H') ∧ (progLine (TL.tl x) = none → ∀ a H', H a = none → Same H H' → H' a = some (told n) → E (.ref C) (some a) H')
theorem cal_read_line (T : Txt K mg tS tF) (ER : Err K mg C S) (F : FunAt K mg "read_line" s_read_line) (c_line_tokens : Cal P w K mg base CX0 2 "line_tokens" P_line_tokens (spLineTokens K))
    (c_read_word : Cal P w K mg base (L2.CX P w) 3 "read_word" P_read_word (spReadWord K C)) : Cal P w K mg base (L2.CX P w) 4 "read_line" P_read_line (spReadLine K C) := by
  refine F.cal (fun f fd F => ?_) fun _ _ _ _ _ _ us hl => match us, hl with | [_, _], _ => rfl
  refine F.okX sc_read_line (fun vs H Q E h => ?_) (fun cdv A outer s H vs Q E hr h => ?_)
  · obtain ⟨x, n, rfl, _⟩ := h
    rfl
  obtain ⟨x, n, rfl, hz, hn, q1, q2⟩ := h
  refine ⟨_, (pss_cons (ps_set (i := 2) sc_read_line.nd rfl (Or.inl rfl) (pc c_line_tokens (hr.mono (by decide)) (pa_cons (pv 0) pa_nil)))
  (pss_cons (ps_if (PW.pt (pw_or (pt_cmpR op_isN (pv 2) pe_non (nomark _)) (pw_or1 (pt_cmpR op_eq (pe_callB call_len_seq (by rfl) T.len (by decide +kernel) (pa_cons (pv 2) pa_nil)) pe_int (nomark _))))) (pss_one (ps_bad T ER rfl (takes_of rfl rfl rfl rfl) (hr.mono (by decide)) (pv 1))) pss_nil)
  (pss_cons (ps_set (i := 3) sc_read_line.nd rfl (Or.inl rfl) (pe_lst (pa_cons (pe_lst pa_nil) pa_nil)))
  (pss_cons (ps_for (passes_of rfl) rfl (pi_list (pv 2)) (pg_name (i := 4) sc_read_line.nd rfl (Or.inl rfl)) (pss_one (ps_if (pt_cmpR op_eq (pv 4) pe_str (nomark _)) (pss_cons (ps_if (pt_cmpR op_eq (pe_callB call_len_seq (by rfl) T.len (by decide +kernel) (pa_cons (pv 3) pa_nil)) pe_int (nomark _)) (pss_one (ps_bad T ER rfl (takes_of rfl rfl rfl rfl) (hr.mono (by decide)) (pv 1))) pss_nil)
  (pss_one (ps_expr (pe_bm PySem.F.plainAttrs_list PySem.F.slot_list_append PySem.F.type_list_append mt_append (pv 3) (pa_cons (pe_lst pa_nil) pa_nil))))) (pss_one (ps_if (pt_cmpR op_eq (pv 4) pe_str (nomark _)) (pss_cons (ps_if (pt_cmpR op_eq (pe_callB call_len_seq (by rfl) T.len (by decide +kernel) (pa_cons (pv 3) pa_nil)) pe_int (nomark _)) (pss_one (ps_bad T ER rfl (takes_of rfl rfl rfl rfl) (hr.mono (by decide)) (pv 1))) pss_nil)
  (pss_cons (ps_set (i := 5) sc_read_line.nd rfl (Or.inl rfl) (pe_callTy call_tuple_of (by rfl) T.tuple (by decide +kernel) (pa_cons (pe_bm0 PySem.F.plainAttrs_list PySem.F.slot_list_pop PySem.F.type_list_pop mt_pop (pv 3)) pa_nil)))
  (pss_one (ps_expr (pe_bm PySem.F.plainAttrs_list PySem.F.slot_list_append PySem.F.type_list_append mt_append (pe_ix ix_list (pv 3) (pe_un un_neg pe_int) (fun _ _ => rfl)) (pa_cons (pv 5) pa_nil)))))) (pss_one (ps_expr (pe_bm PySem.F.plainAttrs_list PySem.F.slot_list_append PySem.F.type_list_append mt_append (pe_ix ix_list (pv 3) (pe_un un_neg pe_int) (fun _ _ => rfl)) (pa_cons (pcS c_read_word (hr.mono (by decide)) (fun σ => passAt (takes_of rfl rfl rfl rfl) σ) (pa_cons (pv 4) (pa_cons (pv 1) pa_nil))) pa_nil)))))))))
  (pss_cons (ps_if (pt_cmpR op_gt (pe_callB call_len_seq (by rfl) T.len (by decide +kernel) (pa_cons (pv 3) pa_nil)) pe_int (nomark _)) (pss_one (ps_bad T ER rfl (takes_of rfl rfl rfl rfl) (hr.mono (by decide)) (pv 1))) pss_nil)
  (pss_one (ps_ret (pe_callTy call_tuple_of (by rfl) T.tuple (by decide +kernel) (pa_cons (pe_ix ix_list (pv 3) pe_int (fun _ _ => rfl)) pa_nil))))))))), ?_⟩
  have hl := TL.len_tl x
  have e40 : TL.tl ("(" : Str) = [40] := by decide +kernel
  have e41 : TL.tl (")" : Str) = [41] := by decide +kernel
  refine ⟨_, rfl, x, rfl, hz, fun hline p H1 s1 hp e1 => ?_, fun hline H1 s1 => ?_⟩
  · refine ⟨_, rfl, rfl, _, rfl, ite2 (fun e => nomatch (of_decide_eq_true e)) fun _ => ?_⟩
    refine ⟨_, rfl, p, _, rfl, .inl (SqL.of e1), rfl, _, rfl, ?_⟩
    rw [List.length_map]
    refine ite2 (fun e => ?_) fun e => ?_
    · -- no token
      have h0 : toks (TL.tl x) = [] := by
        have h1 : V.int ((toks (TL.tl x)).length : Int) = V.int 0 := of_decide_eq_true e
        have h2 := V.int.inj h1
        exact List.length_eq_zero_iff.mp (by omega)
      refine ⟨_, rfl, n, rfl, hn, fun d H2 hd s2 e2 => q2 ?_ d H2 (s1.free hd) (s1.trans s2) e2⟩
      unfold progLine
      rw [if_pos (.inr h0)]
    have hne : toks (TL.tl x) ≠ [] := fun z => e (by rw [z]; rfl)
    have hprog : progLine (TL.tl x) = readToks (toks (TL.tl x)) := by
      unfold progLine
      rw [if_neg]
      rintro (z | z)
      · exact z hline
      · exact hne z
    have hsum := toks_sum (TL.tl x)
    have htok : ∀ {i : Nat} {t : Cs}, (toks (TL.tl x))[i]? = some t → t ≠ [] ∧ t.length ≤ 100000 := fun {i t} h => by
      have := tok_ok h
      exact ⟨this.1, by omega⟩
    generalize hts : toks (TL.tl x) = ts at *
    have lt : ∀ {m : Nat}, m ≤ 300000 → m < sizeLine := fun h => small_lt (by omega)
    -- an error
    have bad : ∀ (i : Nat) (H2 : Hp), Same H1 H2 → runS ([], []) (ts.take i) = none → ∃ m : Int, ([V.int n] : List V) = [.int m] ∧ fewer m ∧ ∀ d H3, H2 d = none → Same H2 H3 → H3 d = some (told m) → E (.ref C) (some d) H3 := fun i H2 s2 hno =>
      ⟨n, rfl, hn, fun d H3 hd s3 e3 => q2 (hprog.trans (pfx_none hno)) d H3 ((s1.trans s2).free hd) ((s1.trans s2).trans s3) e3⟩
    refine ⟨Nat.zero_le _, fun a0 ha0 => ⟨by show 1 ≤ sizeLine; decide, fun R hR => ?_⟩⟩
    have hR1 : H1 R = none := (same_new ha0 _).free hR
    have sH : Same H1 (upd (upd H1 a0 (.lst [])) R (.lst [.ref a0])) := (same_new ha0 _).trans (same_new hR _)
    have naR : a0 ≠ R := ne_of_none (H := upd H1 a0 (.lst [])) upd_same hR
    refine ⟨_, rfl, p, rfl, ⟨_, SqL.of (sH _ _ e1)⟩, for_src src_list (fun i σ H' => Same H1 H' ∧ ∃ st, runS ([], []) (ts.take i) = some st ∧ StkAt K H1 H' R st ∧ (∀ row ∈ rowsOf st, row.length ≤ i) ∧ st.2.length ≤ 11 ∧
      ∃ v4 v5, σ = [some (.str x), some (.int n), some (.ref p), some (.ref R), v4, v5]) ⟨sH, ([], []), rfl, ⟨[a0], upd_same, hR1, by simp, by simp; exact naR.symm, by simp; exact ha0, ?_⟩, by simp [rowsOf], by simp, none, none, rfl⟩
      (fun i σ H' _ h => SqL.of (h.1 _ _ e1)) (fun i v σ H' hx ⟨sm, st, hrun, hst, hlen, h11, v4, v5, eσ⟩ => ?_) fun σ H' ⟨sm, st, hrun, hst, hlen, h11, v4, v5, eσ⟩ => ?_⟩
    · have : LR K (upd (upd H1 a0 (.lst [])) R (.lst [.ref a0])) ([] ++ [a0]) ([] ++ [[]]) := LR.snoc ⟨rfl, fun i a r h => by simp at h⟩ (vs := []) (by rw [upd_ne naR, upd_same]) .nil
      exact this
    · subst eσ
      obtain ⟨as, hRl, hR0, hnd, hRas, hfr, hLR⟩ := hst.ex
      have hi : i < ts.length := by
        have := (List.getElem?_eq_some_iff.mp hx).1
        rwa [List.length_map] at this
      obtain ⟨t, ht⟩ : ∃ t, ts[i]? = some t := ⟨ts[i], List.getElem?_eq_getElem hi⟩
      rw [List.getElem?_map, ht] at hx
      cases hx
      have hnext := pfx ht hrun
      have hal : as.length = st.2.length + 1 := by rw [hLR.len]; unfold rowsOf; simp
      refine ⟨_, rfl, rfl, _, rfl, ?_⟩
      rw [eq_str, e40]
      refine ite2 (fun e => ?_) fun e => ?_
      · have et : t = [40] := of_decide_eq_true e
        subst et
        refine ⟨_, rfl, R, _, rfl, .inl (SqL.of hRl), rfl, _, rfl, ?_⟩
        rw [List.length_map]
        refine ite2 (fun e2 => ?_) fun e2 => ?_
        · have h12 : as.length = 12 := by
            have h1 : V.int (as.length : Int) = V.int 12 := of_decide_eq_true e2
            have h2 := V.int.inj h1
            omega
          refine ⟨_, rfl, bad (i + 1) H' sm ?_⟩
          rw [hnext]
          unfold step
          rw [if_pos rfl, if_pos (by omega)]
        · have h12 : ¬ as.length = 12 := fun z => e2 (by rw [z]; rfl)
          have hstep : step st [40] = some ([], st.1 :: st.2) := by
            unfold step
            rw [if_pos rfl, if_neg (by omega)]
          refine ⟨_, rfl, .inl ⟨rfl, _, SqL.of hRl⟩, Nat.zero_le _, fun q hq => ?_⟩
          have nqR : R ≠ q := ne_of_none hRl hq
          have hR' : (upd H' q (.lst [])) R = some (.lst (as.map V.ref)) := by rw [upd_ne nqR]; exact hRl
          refine ⟨R, _, _, rfl, rfl, hR', lt (by rw [List.length_map]; omega), ?_⟩
          have s2 : Same H1 (upd (upd H' q (.lst [])) R (.lst (as.map V.ref ++ [.ref q]))) := fun b o z => by
            rw [upd_ne (ne_of_none z hR0)]
            exact same_new hq _ _ _ (sm _ _ z)
          have hqas : q ∉ as := fun m => by
            obtain ⟨j, hj⟩ := List.mem_iff_getElem?.mp m
            have hj2 := (List.getElem?_eq_some_iff.mp hj).1
            obtain ⟨vs, h1, _⟩ := hLR.at_ j q ((rowsOf st)[j]'(by rw [← hLR.len]; exact hj2)) hj (List.getElem?_eq_getElem _)
            rw [hq] at h1; cases h1
          have tsH : TS H' (upd (upd H' q (.lst [])) R (.lst (as.map V.ref ++ [.ref q]))) := (TS.of (same_new hq _)).trans (TS.at hR')
          have ag : ∀ a ∈ as, (upd (upd H' q (.lst [])) R (.lst (as.map V.ref ++ [.ref q]))) a = H' a := fun a ha => by
            rw [upd_ne (fun z => hRas (by rw [← z]; exact ha)), upd_ne (fun z => hqas (by rw [← z]; exact ha))]
          have hq0 : H1 q = none := sm.free hq
          refine ⟨s2, ([], st.1 :: st.2), hnext.trans hstep, ⟨as ++ [q], ?_, hR0, snoc_nd hnd hqas, ?_, ?_, ?_⟩, ?_, ?_, _, v5, rfl⟩
          · rw [upd_same, List.map_append]; rfl
          · intro m
            rcases List.mem_append.mp m with m | m
            · exact hRas m
            · exact nqR (List.mem_singleton.mp m)
          · intro a ha
            rcases List.mem_append.mp ha with ha | ha
            · exact hfr a ha
            · rw [List.mem_singleton.mp ha]; exact hq0
          · have : rowsOf ([], st.1 :: st.2) = rowsOf st ++ [[]] := by unfold rowsOf; simp
            rw [this]
            exact (hLR.mono ag tsH).snoc (vs := []) (by rw [upd_ne (Ne.symm nqR), upd_same]) .nil
          · intro row hrow
            have : rowsOf ([], st.1 :: st.2) = rowsOf st ++ [[]] := by unfold rowsOf; simp
            rw [this] at hrow
            rcases List.mem_append.mp hrow with h | h
            · have := hlen row h; omega
            · rw [List.mem_singleton.mp h]; exact Nat.zero_le _
          · show (st.1 :: st.2).length ≤ 11
            rw [List.length_cons]; omega
      · have nt40 : t ≠ [40] := of_decide_eq_false (Bool.eq_false_iff.mpr e)
        refine ⟨_, rfl, rfl, _, rfl, ?_⟩
        rw [eq_str, e41]
        refine ite2 (fun e1 => ?_) fun e1 => ?_
        · have et : t = [41] := of_decide_eq_true e1
          subst et
          refine ⟨_, rfl, R, _, rfl, .inl (SqL.of hRl), rfl, _, rfl, ?_⟩
          rw [List.length_map]
          refine ite2 (fun e2 => ?_) fun e2 => ?_
          · have h1 : as.length = 1 := by
              have h1 : V.int (as.length : Int) = V.int 1 := of_decide_eq_true e2
              have h2 := V.int.inj h1
              omega
            have hb : st.2 = [] := List.length_eq_zero_iff.mp (by omega)
            refine ⟨_, rfl, bad (i + 1) H' sm ?_⟩
            rw [hnext]
            unfold step
            rw [if_neg (by decide), if_pos rfl, hb]
          · have h1 : ¬ as.length = 1 := fun z => e2 (by rw [z]; rfl)
            obtain ⟨top, bel⟩ := st
            cases bel with
            | nil => exact absurd hal h1
            | cons b bs =>
              have hstep : step (top, b :: bs) [41] = some (b ++ [.tuple top], bs) := rfl
              have er : rowsOf (top, b :: bs) = (bs.reverse ++ [b]) ++ [top] := by unfold rowsOf; simp
              rw [er] at hLR
              obtain ⟨as1, a, ea, hLR1, vt, hat, hdt⟩ := hLR.last
              obtain ⟨cs, c, ec, hLR2, vb, hct, hdb⟩ := hLR1.last
              subst ec ea
              obtain ⟨hnd1, ha1⟩ := nd_snoc hnd
              obtain ⟨hnd2, hc2⟩ := nd_snoc hnd1
              have hRa : R ≠ a := fun z => hRas (by rw [z]; simp)
              have hRc : R ≠ c := fun z => hRas (by rw [z]; simp)
              have hac : a ≠ c := fun z => ha1 (by rw [z]; simp)
              have em : ((cs ++ [c]) ++ [a]).map V.ref = (cs ++ [c]).map V.ref ++ [V.ref a] := by rw [List.map_append]; rfl
              rw [em] at hRl
              refine ⟨_, rfl, .inl ⟨rfl, _, SqL.of hRl⟩, R, _, V.ref a, rfl, rfl, hRl, by rw [List.length_append, List.length_singleton, Nat.add_sub_cancel, List.getElem?_append_right (Nat.le_refl _), Nat.sub_self]; rfl, ?_⟩
              rw [List.dropLast_concat]
              refine ⟨a, vt, rfl, .inl ⟨SqL.of (by rw [upd_ne (Ne.symm hRa)]; exact hat), fun l hl => ?_⟩⟩
              have hlR : R ≠ l := ne_of_none upd_same hl
              have hl' : H' l = none := by rw [upd_ne (Ne.symm hlR)] at hl; exact hl
              have hlc : c ≠ l := ne_of_none hct hl'
              have em2 : (cs ++ [c]).map V.ref = cs.map V.ref ++ [V.ref c] := by rw [List.map_append]; rfl
              have hR3 : (upd (upd H' R (.lst ((cs ++ [c]).map V.ref))) l (.tup vt)) R = some (.lst (cs.map V.ref ++ [V.ref c])) := by rw [upd_ne hlR, upd_same, em2]
              have hc3 : (upd (upd H' R (.lst ((cs ++ [c]).map V.ref))) l (.tup vt)) c = some (.lst vb) := by rw [upd_ne hlc, upd_ne (Ne.symm hRc)]; exact hct
              have hvb : vb.length ≤ i := by
                rw [dtAll_len hdb]
                exact hlen b (by rw [er]; simp)
              have hcl : ts.length ≤ 200000 := by omega
              refine ⟨_, rfl, 1, rfl, R, _, _, .ref c, rfl, rfl, SqL.of hR3, atI_last, .inl ⟨rfl, _, SqL.of hc3⟩, _, rfl, c, _, _, rfl, rfl, hc3, lt (by omega), ?_⟩
              have ts1 : TS H' (upd (upd (upd H' R (.lst ((cs ++ [c]).map V.ref))) l (.tup vt)) c (.lst (vb ++ [.ref l]))) :=
                (TS.at hRl).trans ((TS.of (same_new hl _)).trans (TS.at hc3))
              have ag : ∀ a' ∈ cs, (upd (upd (upd H' R (.lst ((cs ++ [c]).map V.ref))) l (.tup vt)) c (.lst (vb ++ [.ref l]))) a' = H' a' := fun a' ha' => by
                have n1 : a' ≠ c := fun z => hc2 (by rw [← z]; exact ha')
                have n2 : a' ≠ R := fun z => hRas (by rw [← z]; simp [ha'])
                have n3 : a' ≠ l := fun z => by
                  obtain ⟨j, hj⟩ := List.mem_iff_getElem?.mp ha'
                  have hj2 := (List.getElem?_eq_some_iff.mp hj).1
                  obtain ⟨vs, h1, _⟩ := hLR2.at_ j a' (bs.reverse[j]'(by rw [← hLR2.len]; exact hj2)) hj (List.getElem?_eq_getElem _)
                  rw [z, hl'] at h1; cases h1
                rw [upd_ne n1, upd_ne n3, upd_ne n2]
              have s2 : Same H1 (upd (upd (upd H' R (.lst ((cs ++ [c]).map V.ref))) l (.tup vt)) c (.lst (vb ++ [.ref l]))) := fun b' o z => by
                rw [upd_ne (ne_of_none z (hfr c (by simp))), upd_ne (ne_of_none z (sm.free hl')), upd_ne (ne_of_none z hR0)]
                exact sm _ _ z
              have er2 : rowsOf (b ++ [.tuple top], bs) = bs.reverse ++ [b ++ [.tuple top]] := rfl
              refine ⟨s2, (b ++ [.tuple top], bs), hnext.trans hstep, ⟨cs ++ [c], ?_, hR0, hnd1, fun m => hRas (List.mem_append_left _ m), fun a' m => hfr a' (List.mem_append_left _ m), ?_⟩, ?_, ?_, _, _, rfl⟩
              · rw [upd_ne hRc, hR3, em2]
              · rw [er2]
                refine (hLR2.mono ag ts1).snoc (vs := vb ++ [.ref l]) upd_same ?_
                refine dtAll_app (dtAll_mono ts1 hdb) (.cons (.tup (SqT.of ?_) (dtAll_mono ts1 hdt)) .nil)
                rw [upd_ne (Ne.symm hlc), upd_same]
              · intro row hrow
                rw [er2] at hrow
                rcases List.mem_append.mp hrow with h | h
                · have := hlen row (by rw [er]; simp at h ⊢; exact .inl h)
                  omega
                · rw [List.mem_singleton.mp h, List.length_append, List.length_singleton, ← dtAll_len hdb]
                  omega
              · show bs.length ≤ 11
                have : (b :: bs).length ≤ 11 := h11
                rw [List.length_cons] at this
                omega
        · have nt41 : t ≠ [41] := of_decide_eq_false (Bool.eq_false_iff.mpr e1)
          obtain ⟨top, bel⟩ := st
          have er : rowsOf (top, bel) = bel.reverse ++ [top] := rfl
          rw [er] at hLR
          obtain ⟨cs, a, ea, hLR1, vt, hat, hdt⟩ := hLR.last
          subst ea
          obtain ⟨hnd1, ha1⟩ := nd_snoc hnd
          have hRa : R ≠ a := fun z => hRas (by rw [z]; simp)
          have em : (cs ++ [a]).map V.ref = cs.map V.ref ++ [V.ref a] := by rw [List.map_append]; rfl
          rw [em] at hRl
          have hvt : vt.length ≤ i := by
            rw [dtAll_len hdt]
            exact hlen top (by rw [er]; simp)
          have hcl : ts.length ≤ 200000 := by omega
          have hstep : step (top, bel) t = (readWord t).map fun m => (top ++ [m], bel) := by
            unfold step
            rw [if_neg nt40, if_neg nt41]
          obtain ⟨htne, htl⟩ := htok ht
          refine ⟨_, rfl, 1, rfl, R, _, _, .ref a, rfl, rfl, SqL.of hRl, atI_last, .inl ⟨rfl, _, SqL.of hat⟩, _, rfl, _, rfl, mkS t, n, rfl, by rw [mkS_len]; exact htl, htne, hn, fun d hd v H2 s2 hv => ?_, fun hno a' H2 hfa s2 e2 => ?_⟩
          · have hR2 := s2 _ _ hRl
            have ha2 := s2 _ _ hat
            refine ⟨a, _, _, rfl, rfl, ha2, lt (by omega), ?_⟩
            have ts1 : TS H' (upd H2 a (.lst (vt ++ [v]))) := (TS.of s2).trans (TS.at ha2)
            have ag : ∀ a' ∈ cs, (upd H2 a (.lst (vt ++ [v]))) a' = H' a' := fun a' ha' => by
              have n1 : a' ≠ a := fun z => ha1 (by rw [← z]; exact ha')
              obtain ⟨j, hj⟩ := List.mem_iff_getElem?.mp ha'
              have hj2 := (List.getElem?_eq_some_iff.mp hj).1
              obtain ⟨vs, h1, _⟩ := hLR1.at_ j a' (bel.reverse[j]'(by rw [← hLR1.len]; exact hj2)) hj (List.getElem?_eq_getElem _)
              rw [upd_ne n1, h1]
              exact s2 _ _ h1
            have s3 : Same H1 (upd H2 a (.lst (vt ++ [v]))) := fun b' o z => by
              rw [upd_ne (ne_of_none z (hfr a (by simp)))]
              exact s2 _ _ (sm _ _ z)
            have er2 : rowsOf (top ++ [d], bel) = bel.reverse ++ [top ++ [d]] := rfl
            refine ⟨s3, (top ++ [d], bel), hnext.trans (by rw [hstep, show readWord t = some d from hd]; rfl), ⟨cs ++ [a], ?_, hR0, hnd, hRas, hfr, ?_⟩, ?_, h11, _, v5, rfl⟩
            · rw [upd_ne hRa, hR2, em]
            · rw [er2]
              exact (hLR1.mono ag ts1).snoc (vs := vt ++ [v]) upd_same (dtAll_app (dtAll_mono ts1 hdt) (.cons (dt_mono (TS.at ha2) hv) .nil))
            · intro row hrow
              rw [er2] at hrow
              rcases List.mem_append.mp hrow with h | h
              · have := hlen row (by rw [er]; exact List.mem_append_left _ h)
                omega
              · rw [List.mem_singleton.mp h, List.length_append, List.length_singleton, ← dtAll_len hdt]
                omega
          · refine q2 (hprog.trans (pfx_none (i := i + 1) ?_)) a' H2 ((s1.trans sm).free hfa) ((s1.trans sm).trans s2) e2
            rw [hnext, hstep, show readWord t = none from hno]
            rfl
    · subst eσ
      obtain ⟨as, hRl, hR0, hnd, hRas, hfr, hLR⟩ := hst.ex
      rw [List.length_map, List.take_length] at hrun
      have hal : as.length = st.2.length + 1 := by rw [hLR.len]; unfold rowsOf; simp
      obtain ⟨top, bel⟩ := st
      refine ⟨_, rfl, R, _, rfl, .inl (SqL.of hRl), _, _, rfl, rfl, _, rfl, ?_⟩
      rw [List.length_map]
      refine ite2 (fun e => ?_) fun e => ?_
      · have h1 := of_decide_eq_true e
        cases bel with
        | nil =>
          have : as.length = 1 := hal
          omega
        | cons b bs =>
          refine ⟨_, rfl, n, rfl, hn, fun d H3 hd s3 e3 => q2 ?_ d H3 ((s1.trans sm).free hd) ((s1.trans sm).trans s3) e3⟩
          rw [hprog]
          unfold readToks
          rw [hrun]
      · cases bel with
        | cons b bs =>
          have : as.length = (b :: bs).length + 1 := hal
          rw [List.length_cons] at this
          exact absurd (decide_eq_true (by omega)) e
        | nil =>
          have er : rowsOf (top, []) = [] ++ [top] := rfl
          rw [er] at hLR
          obtain ⟨cs, a, ea, hLR1, vt, hat, hdt⟩ := hLR.last
          have hcs : cs = [] := List.length_eq_zero_iff.mp hLR1.len
          subst hcs ea
          refine ⟨_, rfl, R, _, 0, .ref a, rfl, rfl, SqL.of hRl, rfl, a, vt, rfl, .inl ⟨SqL.of hat, fun l hl => ?_⟩⟩
          refine q1 top ?_ _ _ (s1.trans (sm.trans (same_new hl _))) (.tup (SqT.of upd_same) (dtAll_mono (TS.of (same_new hl _)) hdt))
          rw [hprog]
          unfold readToks
          rw [hrun]
  · refine ⟨_, rfl, rfl, _, rfl, iteT ?_⟩
    refine ⟨_, rfl, n, rfl, hn, fun d H2 hd s2 e2 => q2 ?_ d H2 (s1.free hd) (s1.trans s2) e2⟩
    unfold progLine
    rw [if_pos (.inl hline)]
end
end K66

/-! K66W6: paper_text, paper_from. -/
namespace K66
open PySem PySem.Spec PyProof.Rows L2 HR
def rJoin (K : PySem.W.Frag) : V → List V → Hp → VK → Prop := fun x xs H Q => ∃ a p, ∃ ys : List Str, x = .str a ∧ xs = [.ref p] ∧ (SqL K H p (ys.map V.str) ∨ SqT K H p (ys.map V.str)) ∧
  (ys.map (·.length)).sum + ys.length * a.length ≤ 16777216 ∧ Q (.str (Txt.join a ys)) H
theorem pe_joinK {X : Cx} {o e : Expr} {to te : TE} {apos pos : Pos} (K : PySem.W.Frag) (hK : X.K = K) (ho : PE X o to) (he : PE X e te) (hs : starEach [e] X.env = [(false, eval e X.env)] := by rfl) (hbase : attributeBase o "join" X.env (eval o X.env) = eval o X.env := by rfl) (hline : (apos.endLine == pos.line) = true := by rfl) :
    PE X (.Call (.Attribute o "join" apos) [e] [] pos) (tM1 (rJoin K) to te) := by
  subst hK
  exact pe_join ho he hs hbase hline
theorem pi_tupK {X : Cx} {tg l : Expr} {tl : TE} (K : PySem.W.Frag) (hK : X.K = K) (hl : PE X l tl) : PI X tg l (iTup K tl) := by
  subst hK
  exact pi_tup hl
theorem ix_listK {X : Cx} (K : PySem.W.Frag) (hK : X.K = K) : IxR X (rIxL K) := by
  subst hK
  exact ix_list
theorem joinL_sum (c : Nat) : ∀ l : List Cs, (l.map List.length).sum + l.length ≤ (TL.joinL [c] l).length + 1
  | [] => Nat.zero_le _
  | [x] => by simp [TL.joinL]
  | x :: y :: r => by
    have h := joinL_sum c (y :: r)
    have e : TL.joinL [c] (x :: y :: r) = x ++ ([c] ++ TL.joinL [c] (y :: r)) := by simp [TL.joinL]
    rw [e, List.map_cons, List.sum_cons, List.length_cons, List.length_append, List.length_append, List.length_singleton]
    omega
theorem ptext_sum (p : List (List D)) : (p.map fun r => (wrs r).length).sum + p.length ≤ (ptext p).length + 1 := by
  have h := joinL_sum 10 (p.map wrs)
  rw [List.map_map, List.length_map] at h
  exact h
theorem sum_mem {l : List Nat} {x : Nat} (h : x ∈ l) : x ≤ l.sum := by
  induction l with
  | nil => cases h
  | cons y r ih =>
    rw [List.sum_cons]
    rcases List.mem_cons.mp h with rfl | h
    · omega
    · have := ih h; omega
section
variable {P : Program} {w : World} {K : PySem.W.Frag} {mg : Str → Option Value} {base : Heap} {tS tF : Tok} {C S : Addr}
def spPaperText (K : PySem.W.Frag) : Sp := fun vs H Q _ => ∃ (p : Addr) (ws : List V) (rows : List (List D)), vs = [.ref p] ∧ SqT K H p ws ∧ DtAll K H ws (rows.map .tuple) ∧ (∀ row ∈ rows, goods 11 row) ∧ (ptext rows).length ≤ 100000 ∧ ∀ H', Same H H' → Q (.str (mkS (ptext rows))) H'
theorem cal_paper_text (T : Txt K mg tS tF) (F : FunAt K mg "paper_text" s_paper_text) (c_member_text : Cal P w K mg base CX0 12 "member_text" P_member_text (spText_member_text K 12)) :
    Cal P w K mg base CX0 13 "paper_text" P_paper_text (spPaperText K) := by
  refine F.cal (fun f fd F => ?_) fun _ _ _ _ _ _ us hl => match us, hl with | [_], _ => rfl
  refine F.ok sc_paper_text (fun vs H Q E h => ?_) (fun cdv A outer s H vs Q E hr h => ?_)
  · obtain ⟨p, ws, rows, rfl, _⟩ := h
    rfl
  obtain ⟨p, ws, rows, rfl, hS, ha, hg, hz, q⟩ := h
  refine ⟨_, (pss_one (ps_ret (pe_join pe_str (pe_lc (own := [("row", 1)]) (g := gName 1) (tt := tYes) rfl sc_paper_text.nd (pi_tup (pv 0)) (blkOk_by (N := N_paper_text) (sc := defScope s_paper_text) (by decide +kernel)) (fun _ _ _ _ _ => pg_name (i := 1) sc_paper_text.nd rfl (Or.inl rfl)) (fun _ _ _ _ _ => pts_nil) (fun _ _ _ _ _ => (pe_joinK K rfl pe_str (pe_lc (own := [("one", 2)]) (g := gName 2) (tt := tYes) rfl sc_paper_text.nd (pi_tupK K rfl (pv 1)) (blkOk_by (N := N_paper_text) (by rfl)) (fun _ _ _ _ _ => pg_name (i := 2) sc_paper_text.nd rfl (Or.inl rfl)) (fun _ _ _ _ _ => pts_nil) (fun _ _ _ _ _ => (pc c_member_text (hr.mono (by decide)) (pa_cons (pv 2) pa_nil)))))))))), ?_⟩
  have e10 : TL.tl ("\n" : Str) = [10] := by decide +kernel
  have e32 : TL.tl (" " : Str) = [32] := by decide +kernel
  have l1 : (" " : Str).length = 1 := by decide +kernel
  have l2 : ("\n" : Str).length = 1 := by decide +kernel
  have hlen := dtAll_len ha
  rw [List.length_map] at hlen
  have hps := ptext_sum rows
  refine ⟨⟨_, rfl⟩, _, rfl, p, rfl, ⟨_, hS⟩, fun L hL => lc_ix src_tup (fun i => .str (mkS (wrs (rows.getD i [])))) hL (small_lt (by omega)) (fun H' s => sqT_mono s hS) (fun i x H' Q' hx s k => ?_) fun H' s hLst => ?_⟩
  · obtain ⟨d, hd, hdt⟩ := dtAll_get ha hx
    rw [List.getElem?_map] at hd
    obtain ⟨row, hrow, rfl⟩ := Option.map_eq_some_iff.mp hd
    have e : rows.getD i [] = row := by rw [List.getD_eq_getElem?_getD, hrow]; rfl
    simp only [e] at k
    have hmem : row ∈ rows := List.mem_of_getElem? hrow
    have hrg := hg row hmem
    have hrz : (wrs row).length ≤ 100001 := by
      have := sum_mem (List.mem_map.mpr ⟨row, hmem, rfl⟩ : (wrs row).length ∈ rows.map fun r => (wrs r).length)
      have : rows.length ≠ 0 := fun z => by rw [List.length_eq_zero_iff.mp z] at hmem; cases hmem
      omega
    have hrz : (wrs row).length ≤ 100000 := by
      have := sum_mem (List.mem_map.mpr ⟨row, hmem, rfl⟩ : (wrs row).length ∈ rows.map fun r => (wrs r).length)
      have : rows.length ≠ 0 := fun z => by rw [List.length_eq_zero_iff.mp z] at hmem; cases hmem
      omega
    cases hdt with
    | @tup a xs ds hS2 ha2 =>
    have hlen2 := dtAll_len ha2
    have hn := wrs_count row hrg
    have hS2' := sqT_mono s hS2
    have ha2' := dtAll_mono (TS.of s) ha2
    refine ⟨⟨_, rfl⟩, _, rfl, a, rfl, ⟨_, hS2'⟩, fun L2 hL2 => lc_ix src_tup (fun i => .str (mkS (wr (row.getD i .none)))) hL2 (small_lt (by omega)) (fun H2 s2 => sqT_mono s2 hS2') (fun i2 x2 H2 Q2 hx2 s2 k2 => ?_) fun H2 s2 hLst => ?_⟩
    · obtain ⟨d, hd, hdt⟩ := dtAll_get ha2' hx2
      have e : row.getD i2 .none = d := by rw [List.getD_eq_getElem?_getD, hd]; rfl
      have hmem : d ∈ row := List.mem_of_getElem? hd
      have k3 : ∀ H3, Same H2 H3 → Q2 (.str (mkS (wr d))) H3 := fun H3 s3 => by
        have z := k2 H3 s3
        simp only [e] at z
        exact z
      exact ⟨_, rfl, 11, x2, d, rfl, rfl, dt_mono (TS.of s2) hdt, goods_mem.mp hrg d hmem, Nat.le_trans (wr_le_wrs hmem) hrz, k3⟩
    · have el : (List.range xs.length).map (fun i => V.str (mkS (wr (row.getD i .none)))) = (row.map fun d => mkS (wr d)).map V.str := by
        rw [hlen2, range_get (fun d => V.str (mkS (wr d))) .none row, List.map_map]; rfl
      rw [el] at hLst
      have hj : Txt.join " " (row.map fun d => mkS (wr d)) = mkS (wrs row) := TL.ext_tl (by
        rw [TL.join_eq, TL.tl_join, e32, List.map_map]
        exact (wrs_join row).symm)
      refine ⟨_, _, _, rfl, rfl, .inl (SqL.of hLst), ?_, ?_⟩
      · have := wrs_sum row
        rw [List.length_map, List.map_map, l1]
        have e2 : (row.map (Str.length ∘ fun d => mkS (wr d))) = row.map fun d => (wr d).length := List.map_congr_left fun d _ => mkS_len _
        rw [e2]
        omega
      · rw [hj]
        exact k H2 s2
  · have el : (List.range ws.length).map (fun i => V.str (mkS (wrs (rows.getD i [])))) = (rows.map fun r => mkS (wrs r)).map V.str := by
      rw [hlen, range_get (fun d => V.str (mkS (wrs d))) [] rows, List.map_map]; rfl
    rw [el] at hLst
    have hj : Txt.join "\n" (rows.map fun d => mkS (wrs d)) = mkS (ptext rows) := TL.ext_tl (by
      rw [TL.join_eq, TL.tl_join, e10, List.map_map]
      rfl)
    refine ⟨_, _, _, rfl, rfl, .inl (SqL.of hLst), ?_, ?_⟩
    · rw [List.length_map, List.map_map, l2]
      have e2 : (rows.map (Str.length ∘ fun d => mkS (wrs d))) = rows.map fun d => (wrs d).length := List.map_congr_left fun d _ => mkS_len _
      rw [e2]
      omega
    · rw [hj]
      exact q H' s
/-! paper_from -/
theorem lines_sum (t : Cs) : ((lines t).map List.length).sum + (lines t).length ≤ t.length + 1 := by
  have key : ∀ (l acc : Cs), ((TL.spl [10] 0 acc l).map List.length).sum + (TL.spl [10] 0 acc l).length ≤ acc.length + l.length + 1 := by
    intro l
    induction l with
    | nil => intro acc; rw [TL.spl_nil]; simp
    | cons c r ih =>
      intro acc
      cases h : TL.pre [10] (c :: r) with
      | true =>
        rw [TL.spl_hit h]
        have := ih []
        simp only [List.map_cons, List.sum_cons, List.length_cons, List.length_nil] at this ⊢
        have e : TL.spl [10] (0 + 1 - 1) [] r = TL.spl [10] 0 [] r := rfl
        rw [e]
        omega
      | false =>
        rw [TL.spl_miss h]
        have := ih (acc ++ [c])
        simp only [List.length_append, List.length_cons, List.length_nil] at this ⊢
        omega
  have := key t []
  simpa [lines] using this
theorem readAll_ok {f : Cs → Option (List D)} : ∀ (ls : List Cs) (k : Nat), (∀ (i : Nat) (l : Cs), ls[i]? = some l → ∃ row, f l = some row) → ∃ rows, readAll f k ls = .ok rows ∧ rows = ls.map fun l => (f l).getD []
  | [], _, _ => ⟨_, rfl, rfl⟩
  | l :: r, k, h => by
    obtain ⟨row, e⟩ := h 0 l rfl
    obtain ⟨rows, h1, h2⟩ := readAll_ok r (k + 1) fun i l hl => h (i + 1) l (by simpa using hl)
    refine ⟨row :: rows, ?_, ?_⟩
    · rw [readAll, e, h1]
    · rw [h2, List.map_cons, e]; rfl
theorem readAll_bad {f : Cs → Option (List D)} : ∀ (ls : List Cs) (k i : Nat) (l : Cs), ls[i]? = some l → f l = none → (∀ (j : Nat) (m : Cs), j < i → ls[j]? = some m → ∃ row, f m = some row) → readAll f k ls = .error (k + i)
  | [], _, _, _, h, _, _ => by simp at h
  | l :: r, k, 0, m, h, hf, _ => by
    have e : l = m := by simpa using h
    subst e
    rw [readAll, hf]; rfl
  | l :: r, k, i + 1, m, h, hf, hb => by
    obtain ⟨row, e⟩ := hb 0 l (by omega) rfl
    have ih := readAll_bad r (k + 1) i m (by simpa using h) hf fun j m hj hm => hb (j + 1) m (by omega) (by simpa using hm)
    rw [readAll, e, ih]
    show Except.error _ = Except.error _
    congr 1
    omega
def spPaperFrom (K : PySem.W.Frag) (C : Addr) : Sp := fun vs H Q E => ∃ x : Str, vs = [.str x] ∧ x.length ≤ 99990 ∧
  (∀ rows, paperOf (TL.tl x) = .ok rows → ∀ v H', Same H H' → Dt K H' v (.tuple (rows.map .tuple)) → Q v H') ∧ (∀ n : Nat, paperOf (TL.tl x) = .error n → ∀ a H', H a = none → Same H H' → H' a = some (told n) → E (.ref C) (some a) H')
theorem cal_paper_from (T : Txt K mg tS tF) (ER : Err K mg C S) (F : FunAt K mg "paper_from" s_paper_from) (c_read_line : Cal P w K mg base (L2.CX P w) 4 "read_line" P_read_line (spReadLine K C)) :
    Cal P w K mg base (L2.CX P w) 5 "paper_from" P_paper_from (spPaperFrom K C) := by
  refine F.cal (fun f fd F => ?_) fun _ _ _ _ _ _ us hl => match us, hl with | [_], _ => rfl
  refine F.okX sc_paper_from (fun vs H Q E h => ?_) (fun cdv A outer s H vs Q E hr h => ?_)
  · obtain ⟨x, rfl, _⟩ := h
    rfl
  obtain ⟨x, rfl, hz, q1, q2⟩ := h
  refine ⟨_, (pss_cons (ps_if (pt_cmpR op_eq (pv 0) pe_str (nomark _)) (pss_one (ps_ret (pe_tup pa_nil))) pss_nil)
  (pss_cons (ps_set (i := 1) sc_paper_from.nd rfl (Or.inr rfl) (pe_split (pv 0) pe_str))
  (pss_one (ps_ret (pe_callTy call_tuple_of (by rfl) T.tuple (by decide +kernel) (pa_cons (pe_lcX (Wb := E) (own := [("at", 2)]) (g := gName 2) (tt := tYes) rfl rfl (takes_of rfl rfl rfl rfl) rfl sc_paper_from.nd (pi_range1 rfl T.range (pa_cons (pe_callB call_len_seq (by rfl) T.len (by decide +kernel) (pa_cons (pv 1) pa_nil)) pa_nil)) (blkOk_by (N := N_paper_from) (sc := defScope s_paper_from) (by decide +kernel)) (fun _ _ _ _ _ => pg_name (i := 2) sc_paper_from.nd rfl (Or.inl rfl)) (fun _ _ _ _ _ => pts_nil) (fun _ _ _ _ _ => (pcS (E := fun _ => E) c_read_line (hr.mono (by decide)) (fun σ pins H s e s' I c => xf_call I.unwish c) (pa_cons (pe_ix (ix_listK K rfl) (pv 1) (pv 2) (fun _ _ => rfl)) (pa_cons (pe_op op_add (pv 2) pe_int) pa_nil))))) pa_nil)))))), ?_⟩
  have e0 : TL.tl ("" : Str) = [] := by decide +kernel
  have e10 : TL.tl ("\n" : Str) = [10] := by decide +kernel
  have hl := TL.len_tl x
  refine ⟨_, rfl, rfl, _, rfl, ?_⟩
  rw [eq_str, e0]
  refine ite2 (fun e => ?_) fun e => ?_
  · have hx : TL.tl x = [] := of_decide_eq_true e
    refine ⟨Nat.zero_le _, fun a na => ?_⟩
    refine q1 [] ?_ _ _ (same_new na _) (.tup (SqT.of upd_same) .nil)
    unfold paperOf
    rw [if_pos hx]
  have hx : TL.tl x ≠ [] := of_decide_eq_false (Bool.eq_false_iff.mpr e)
  have hp : paperOf (TL.tl x) = readAll progLine 1 (lines (TL.tl x)) := if_neg hx
  have hsp : (Txt.split x "\n").map TL.tl = lines (TL.tl x) := by
    rw [TL.split_spl x "\n" (by rw [e10]; simp) (TL.kind_ok (by decide +kernel)), e10]; rfl
  have hls := lines_sum (TL.tl x)
  generalize hys : Txt.split x "\n" = ys at hsp
  generalize hLs : lines (TL.tl x) = ls at *
  have hyl : ys.length = ls.length := by rw [← hsp, List.length_map]
  refine ⟨_, rfl, ⟨_, rfl⟩, x, _, rfl, rfl, by decide +kernel, small_of (by omega), fun p hp1 => ?_⟩
  rw [hys]
  have s1 : Same H (upd H p (.lst (ys.map V.str))) := same_new hp1 _
  have e1 : (upd H p (.lst (ys.map V.str))) p = some (.lst (ys.map V.str)) := upd_same
  generalize upd H p (.lst (ys.map V.str)) = H1 at s1 e1
  refine ⟨_, rfl, p, _, rfl, .inl (SqL.of e1), _, rfl, by omega, by rw [List.length_map]; omega, ?_⟩
  rw [List.length_map]
  show ∀ D : Addr, _
  intro D hD
  have ext : ∀ {H2 : Hp} {o : HO}, Same H1 H2 → Same H1 (upd H2 D o) := fun {H o} s b u e => by rw [upd_ne (ne_of_none e hD)]; exact s b u e
  refine lc_src src_range (fun i H2 => Same H1 H2 ∧ (∀ (j : Nat) (m : Cs), j < i → ls[j]? = some m → ∃ row, progLine m = some row) ∧ ∃ vs, H2 D = some (.lst vs) ∧ DtAll K H2 vs ((ls.take i).map fun l => .tuple ((progLine l).getD [])))
    ⟨ext (Same.refl _), fun j m hj => absurd hj (Nat.not_lt_zero _), [], upd_same, .nil⟩ (fun _ _ _ _ => trivial) (fun i v H2 hx2 ⟨s2, hok, vs, hv2, hdt⟩ => ?_) fun H2 ⟨s2, hok, vs, hv2, hdt⟩ => ?_
  · have hi : i < ys.length := by
      have := (List.getElem?_eq_some_iff.mp hx2).1
      rwa [nums_len] at this
    rw [Int.toNat_natCast, nums_at hi] at hx2
    cases hx2
    obtain ⟨l, hl1⟩ : ∃ l, ls[i]? = some l := ⟨ls[i]'(by omega), List.getElem?_eq_getElem _⟩
    obtain ⟨y, hy⟩ : ∃ y, ys[i]? = some y := ⟨ys[i], List.getElem?_eq_getElem hi⟩
    have hyt : TL.tl y = l := by
      rw [← hsp, List.getElem?_map, hy] at hl1
      exact Option.some.inj hl1
    have hyz : y.length ≤ 100000 := by
      rw [TL.len_tl, hyt]
      have := sum_take_at (ls.map List.length) i l.length (by rw [List.getElem?_map, hl1]; rfl)
      omega
    refine ⟨wipe1, ?_⟩
    unfold tYes
    dsimp only
    rw [if_pos rfl]
    have hfew : fewer (((0 : Int) + (i : Nat)) + 1) := by
      have h1 : (((0 : Int) + (i : Nat)) + 1).natAbs ≤ 100001 := by omega
      exact Nat.lt_of_le_of_lt h1 (Nat.lt_of_lt_of_le (show 100001 < 10 ^ 6 by decide) (Nat.pow_le_pow_right (by decide) (by decide)))
    refine ⟨_, rfl, _, rfl, ⟨p, _, _, .str y, rfl, rfl, SqL.of (s2 _ _ e1), ?_, ?_⟩⟩
    · rw [show ((0 : Int) + (i : Nat)) = ((i : Nat) : Int) from Int.zero_add _]
      exact atI_nat (by rw [List.getElem?_map, hy]; rfl)
    refine ⟨_, rfl, _, _, rfl, rfl, y, _, rfl, hyz, hfew, fun row hrow v H3 s3 hv => ?_, fun hno a H3 ha s3 e3 => ?_⟩
    · rw [hyt] at hrow
      have hvl := dtAll_len hdt
      rw [List.length_map, List.length_take] at hvl
      refine ⟨_, s3 _ _ hv2, small_lt (by omega), ext (s2.trans s3), fun j m hj hm => ?_, _, upd_same, ?_⟩
      · by_cases e : j < i
        · exact hok j m e hm
        · have : j = i := by omega
          subst this
          rw [hl1] at hm
          cases hm
          exact ⟨row, hrow⟩
      · have t2 := TS.at (o := .lst (vs ++ [v])) (s3 _ _ hv2)
        rw [take_snoc hl1, List.map_append]
        refine dtAll_app (dtAll_mono ((TS.of s3).trans t2) hdt) ?_
        rw [List.map_cons, hrow]
        exact .cons (dt_mono t2 hv) .nil
    · rw [hyt] at hno
      refine q2 (1 + i) ?_ a H3 ((s1.trans s2).free ha) ((s1.trans s2).trans s3) ?_
      · rw [hp]
        exact readAll_bad ls 1 i l hl1 hno hok
      · rw [e3]
        have : ((0 : Int) + (i : Nat)) + 1 = ((1 + i : Nat) : Int) := by omega
        rw [this]
  · rw [nums_len, Int.toNat_natCast] at hok hdt
    rw [hyl, List.take_length] at hdt
    obtain ⟨rows, h1, h2⟩ := readAll_ok (f := progLine) ls 1 fun i l hl => hok i l (by rw [hyl]; exact (List.getElem?_eq_some_iff.mp hl).1) hl
    have em : rows.map PyData.tuple = ls.map fun l => .tuple ((progLine l).getD []) := by rw [h2, List.map_map]; rfl
    refine ⟨D, vs, rfl, .inl ⟨SqL.of hv2, fun l hl => ?_⟩⟩
    refine q1 rows (hp.trans h1) _ _ ((s1.trans s2).trans (same_new hl _)) (.tup (SqT.of upd_same) ?_)
    rw [em]
    exact dtAll_mono (TS.of (same_new hl _)) hdt
end
end K66

/-! K66W7: the law's source of numbers: _law_source, _law_pick, _law_number, _law_shuffled, _law_grammar. -/
namespace K66
open PySem PySem.Spec PyProof.Rows L2 HR
/-- the source lies at p -/
def Src (H : Hp) (p : Addr) : Prop := ∃ g s c : Int, H p = some (.lst [.int g, .int s, .int c])
/-- all but p stays -/
def Stp (p : Addr) (H H' : Hp) : Prop := ∀ b o, b ≠ p → H b = some o → H' b = some o
theorem Stp.refl (p : Addr) (H : Hp) : Stp p H H := fun _ _ _ h => h
theorem Stp.trans {p : Addr} {H H1 H2 : Hp} (a : Stp p H H1) (b : Stp p H1 H2) : Stp p H H2 := fun c o n h => b c o n (a c o n h)
theorem Stp.of {p : Addr} {H H' : Hp} (s : Same H H') : Stp p H H' := fun b o _ h => s b o h
theorem Stp.at {p : Addr} {H : Hp} {o : HO} : Stp p H (upd H p o) := fun b u n h => by rw [upd_ne n]; exact h
theorem Src.same {H H' : Hp} {p : Addr} (s : Src H p) (e : Same H H') : Src H' p := by
  obtain ⟨g, t, c, h⟩ := s
  exact ⟨g, t, c, e _ _ h⟩
theorem Src.ne {H : Hp} {p b : Addr} (s : Src H p) (h : H b = none) : b ≠ p := fun e => by
  obtain ⟨_, _, _, z⟩ := s
  rw [e, z] at h; cases h
theorem Src.ts {H H' : Hp} {p : Addr} (s : Src H p) (e : Stp p H H') : TS H H' := fun b ys r => by
  obtain ⟨g, t, c, h⟩ := s
  have hb : b ≠ p := fun e => by
    subst e
    rcases r with r | ⟨_, r⟩
    · rw [h] at r; cases r
    · rw [h] at r; cases r
  rcases r with r | ⟨u, r⟩
  · exact .inl (e _ _ hb r)
  · exact .inr ⟨u, e _ _ hb r⟩
theorem Stp.free {H H' : Hp} {p b : Addr} (e : Stp p H H') (s : Src H' p) (h : H' b = none) : H b = none := by
  cases z : H b with
  | none => rfl
  | some o => rw [e b o (s.ne h) z] at h; cases h
section
variable {P : Program} {w : World} {K : PySem.W.Frag} {mg : Str → Option Value} {base : Heap} {tS tF : Tok} {C S : Addr}
def spPick : Sp := fun vs H Q _ => ∃ (p : Addr) (m : Int), vs = [.ref p, .int m] ∧ 0 < m ∧ m < 1073741824 ∧ Src H p ∧ ∀ r H', 0 ≤ r → r < m → Stp p H H' → Src H' p → Q (.int r) H'
theorem cal_pick (T : Txt K mg tS tF) (F : FunAt K mg "_law_pick" s_law_pick) : Cal P w K mg base CX0 1 "_law_pick" P_law_pick spPick := by
  refine F.cal (fun f fd F => ?_) fun _ _ _ _ _ _ us hl => match us, hl with | [_, _], _ => rfl
  refine F.ok sc_law_pick (fun vs H Q E h => ?_) (fun cdv A outer s H vs Q E hr h => ?_)
  · obtain ⟨p, m, rfl, _⟩ := h
    rfl
  obtain ⟨p, m, rfl, h0, h1, ⟨g, t, c, hp⟩, q⟩ := h
  refine ⟨_, (pss_cons (ps_if (pt_cmpR op_gt (pe_ix ix_list (pv 0) pe_int (fun _ _ => rfl)) pe_int (nomark _)) (pss_cons (ps_set (i := 2) sc_law_pick.nd rfl (Or.inl rfl) (pe_op op_mod (pe_ix ix_list (pv 0) pe_int (fun _ _ => rfl)) (pv 1)))
  (pss_cons (ps_asg (pe_op op_fdiv (pe_ix ix_list (pv 0) pe_int (fun _ _ => rfl)) (pv 1)) (pg_sub (pv 0) pe_int set_list))
  (pss_one (ps_ret (pv 2))))) pss_nil)
  (pss_cons (ps_asg (pe_op op_add (pe_ix ix_list (pv 0) pe_int (fun _ _ => rfl)) pe_int) (pg_sub (pv 0) pe_int set_list))
  (pss_cons (ps_set (i := 3) sc_law_pick.nd rfl (Or.inl rfl) (pe_op op_mod (pe_op op_add (pe_op op_add (pe_op op_mul (pe_ix ix_list (pv 0) pe_int (fun _ _ => rfl)) pe_int) (pe_op op_mul (pe_ix ix_list (pv 0) pe_int (fun _ _ => rfl)) pe_int)) pe_int) pe_int))
  (pss_cons (ps_set (i := 3) sc_law_pick.nd rfl (Or.inl rfl) (pe_op op_mod (pe_op op_add (pe_op op_add (pe_op op_mul (pv 3) pe_int) (pe_op op_mul (pe_ix ix_list (pv 0) pe_int (fun _ _ => rfl)) pe_int)) pe_int) pe_int))
  (pss_cons (ps_asg (pv 3) (pg_sub (pv 0) pe_int set_list))
  (pss_one (ps_ret (pe_op op_mod (pe_op op_fdiv (pv 3) pe_int) (pv 1))))))))), ?_⟩
  have nn : ∀ {x : Int}, 0 ≤ x % m := Int.emod_nonneg _ (by omega)
  have lt : ∀ {x : Int}, x % m < m := Int.emod_lt_of_pos _ h0
  have cm : ∀ {x y : Int}, -(2 ^ 64) < y → y < 2 ^ 64 → CMul x y := fun a b => .inr ⟨a, b⟩
  refine ⟨_, rfl, p, _, _, .int g, rfl, rfl, SqL.of hp, rfl, _, _, rfl, rfl, _, rfl, ite2 (fun e => ?_) fun e => ?_⟩
  · refine ⟨_, rfl, p, _, _, .int g, rfl, rfl, SqL.of hp, rfl, _, rfl, _, _, rfl, rfl, h0, ?_⟩
    refine ⟨_, rfl, p, _, _, .int g, rfl, rfl, SqL.of hp, rfl, _, rfl, _, _, rfl, rfl, ⟨h0, h1⟩, ?_⟩
    refine ⟨_, rfl, p, _, _, 0, rfl, rfl, hp, rfl, _, rfl, ?_⟩
    exact q _ _ nn lt Stp.at ⟨_, _, _, upd_same⟩
  · refine ⟨_, rfl, p, _, _, .int c, rfl, rfl, SqL.of hp, rfl, _, _, rfl, rfl, ?_⟩
    refine ⟨_, rfl, p, _, _, 2, rfl, rfl, hp, rfl, ?_⟩
    have hp2 : (upd H p (.lst [.int g, .int t, .int (c + 1)])) p = some (.lst [.int g, .int t, .int (c + 1)]) := upd_same
    refine ⟨_, rfl, p, _, _, .int t, rfl, rfl, SqL.of hp2, rfl, _, _, rfl, rfl, cm (by decide) (by decide), ?_⟩
    refine ⟨_, rfl, p, _, _, .int (c + 1), rfl, rfl, SqL.of hp2, rfl, _, _, rfl, rfl, cm (by decide) (by decide), ?_⟩
    refine ⟨_, _, rfl, rfl, _, _, rfl, rfl, _, _, rfl, rfl, (by decide : (0 : Int) < _), ?_⟩
    refine ⟨_, rfl, _, _, rfl, rfl, cm (by decide) (by decide), ?_⟩
    refine ⟨_, rfl, p, _, _, .int (c + 1), rfl, rfl, SqL.of hp2, rfl, _, _, rfl, rfl, cm (by decide) (by decide), ?_⟩
    refine ⟨_, _, rfl, rfl, _, _, rfl, rfl, _, _, rfl, rfl, (by decide : (0 : Int) < _), ?_⟩
    refine ⟨_, rfl, _, rfl, p, _, _, 1, rfl, rfl, hp2, rfl, ?_⟩
    refine ⟨_, rfl, _, _, rfl, rfl, ⟨by decide, by decide⟩, _, rfl, _, _, rfl, rfl, h0, ?_⟩
    exact q _ _ nn lt (Stp.at.trans Stp.at) ⟨_, _, _, upd_same⟩
def spNumber : Sp := fun vs H Q _ => ∃ (p : Addr) (m : Int), vs = [.ref p, .int m] ∧ 5 ≤ m ∧ Src H p ∧ ∀ r H', 0 ≤ r → r < m → Stp p H H' → Src H' p → Q (.int r) H'
theorem cal_number (T : Txt K mg tS tF) (F : FunAt K mg "_law_number" s_law_number) (c_law_pick : Cal P w K mg base CX0 1 "_law_pick" P_law_pick spPick) : Cal P w K mg base CX0 2 "_law_number" P_law_number spNumber := by
  refine F.cal (fun f fd F => ?_) fun _ _ _ _ _ _ us hl => match us, hl with | [_, _], _ => rfl
  refine F.ok sc_law_number (fun vs H Q E h => ?_) (fun cdv A outer s H vs Q E hr h => ?_)
  · obtain ⟨p, m, rfl, _⟩ := h
    rfl
  obtain ⟨p, m, rfl, h5, hS, q⟩ := h
  refine ⟨_, (pss_cons (ps_if (pt_cmpR op_eq (pc c_law_pick (hr.mono (by decide)) (pa_cons (pv 0) (pa_cons pe_int pa_nil))) pe_int (nomark _)) (pss_one (ps_ret (pc c_law_pick (hr.mono (by decide)) (pa_cons (pv 0) (pa_cons (pe_callB (call_min2 rfl) (by rfl) T.min (by decide +kernel) (pa_cons (pv 1) (pa_cons pe_int pa_nil))) pa_nil))))) pss_nil)
  (pss_cons (ps_set (i := 2) sc_law_number.nd rfl (Or.inl rfl) pe_int)
  (pss_cons (ps_for PassesOwn.never rfl (pi_range1 rfl T.range (pa_cons pe_int pa_nil)) (pg_name (i := 3) sc_law_number.nd rfl (Or.inl rfl)) (pss_one (ps_set (i := 2) sc_law_number.nd rfl (Or.inl rfl) (pe_op op_add (pe_op op_mul (pv 2) pe_int) (pc c_law_pick (hr.mono (by decide)) (pa_cons (pv 0) (pa_cons pe_int pa_nil)))))))
  (pss_one (ps_ret (pe_op op_mod (pv 2) (pv 1))))))), ?_⟩
  have cm : ∀ {x y : Int}, -(2 ^ 64) < y → y < 2 ^ 64 → CMul x y := fun a b => .inr ⟨a, b⟩
  refine ⟨_, rfl, p, _, rfl, by decide, by decide, hS, fun r H1 h0 h1 s1 hS1 => ⟨rfl, _, rfl, ite2 (fun e => ?_) fun e => ?_⟩⟩
  · refine ⟨_, rfl, _, rfl, _, _, rfl, ?_⟩
    refine ⟨p, _, rfl, ?_, ?_, hS1, fun r H2 h0 h1 s2 hS2 => q _ _ h0 ?_ (s1.trans s2) hS2⟩
    · split <;> omega
    · split <;> omega
    · split at h1 <;> omega
  · refine ⟨_, rfl, by decide, by decide, for_src src_range (fun i σ H' => Stp p H H' ∧ Src H' p ∧ ∃ f v3, σ = [some (.ref p), some (.int m), some (.int f), v3]) ⟨s1, hS1, 0, none, rfl⟩ (fun _ _ _ _ _ => trivial)
      (fun i v σ H' _ ⟨s2, hS2, f, v3, eσ⟩ => ?_) fun σ H' ⟨s2, hS2, f, v3, eσ⟩ => ?_⟩
    · subst eσ
      refine ⟨_, rfl, _, _, rfl, rfl, cm (by decide) (by decide), ?_⟩
      refine ⟨_, rfl, p, _, rfl, by decide, by decide, hS2, fun r H3 _ _ s3 hS3 => ⟨_, _, rfl, rfl, s2.trans s3, hS3, _, _, rfl⟩⟩
    · subst eσ
      exact ⟨_, rfl, _, rfl, _, _, rfl, rfl, by show 0 < m; omega, q _ _ (Int.emod_nonneg _ (by omega)) (Int.emod_lt_of_pos _ (by omega)) s2 hS2⟩

theorem Stp.new {p a : Addr} {H H' : Hp} {o : HO} (s : Stp p H H') (h : H a = none) : Stp p H (upd H' a o) := fun b u n e => by
  rw [upd_ne (ne_of_none e h)]
  exact s b u n e
def spShuffled (K : PySem.W.Frag) : Sp := fun vs H Q _ => ∃ (p l : Addr) (ys : List V), vs = [.ref p, .ref l] ∧ Src H p ∧ SqL K H l ys ∧ ys.length ≤ 100 ∧
  ∀ (zs : List V) (d : Addr) H', Stp p H H' → Src H' p → H d = none → H' d = some (.lst zs) → zs.length = ys.length → (∀ z ∈ zs, z ∈ ys) → Q (.ref d) H'
theorem cal_shuffled (T : Txt K mg tS tF) (F : FunAt K mg "_law_shuffled" s_law_shuffled) (c_law_pick : Cal P w K mg base CX0 1 "_law_pick" P_law_pick spPick) : Cal P w K mg base CX0 2 "_law_shuffled" P_law_shuffled (spShuffled K) := by
  refine F.cal (fun f fd F => ?_) fun _ _ _ _ _ _ us hl => match us, hl with | [_, _], _ => rfl
  refine F.ok sc_law_shuffled (fun vs H Q E h => ?_) (fun cdv A outer s H vs Q E hr h => ?_)
  · obtain ⟨p, m, _, rfl, _⟩ := h
    rfl
  obtain ⟨p, l, ys, rfl, hS, hl, h100, q⟩ := h
  refine ⟨_, (pss_cons (ps_set (i := 2) sc_law_shuffled.nd rfl (Or.inl rfl) (pe_callTy call_list_of (by rfl) T.list (by decide +kernel) (pa_cons (pv 1) pa_nil)))
  (pss_cons (ps_set (i := 3) sc_law_shuffled.nd rfl (Or.inl rfl) (pe_lst pa_nil))
  (pss_cons (ps_while PassesOwn.never (pt_cmpR op_gt (pe_callB call_len_seq (by rfl) T.len (by decide +kernel) (pa_cons (pv 2) pa_nil)) pe_int (nomark _)) (pss_one (ps_expr (pe_bm PySem.F.plainAttrs_list PySem.F.slot_list_append PySem.F.type_list_append mt_append (pv 3) (pa_cons (pe_bm PySem.F.plainAttrs_list PySem.F.slot_list_pop PySem.F.type_list_pop mt_popAt (pv 2) (pa_cons (pc c_law_pick (hr.mono (by decide)) (pa_cons (pv 0) (pa_cons (pe_callB call_len_seq (by rfl) T.len (by decide +kernel) (pa_cons (pv 2) pa_nil)) pa_nil))) pa_nil)) pa_nil)))))
  (pss_one (ps_ret (pv 3)))))), ?_⟩
  refine ⟨_, rfl, l, _, rfl, .inl hl, fun a ha => ⟨Nat.zero_le _, fun b hb => ?_⟩⟩
  have hb0 : H b = none := (same_new ha _).free hb
  have nab : a ≠ b := ne_of_none (H := upd H a (.lst ys)) upd_same hb
  have nap := hS.ne ha
  have nbp := hS.ne hb0
  refine ⟨fun n σ H' => ∃ ls zs : List V, n = ls.length ∧ σ = [some (.ref p), some (.ref l), some (.ref a), some (.ref b)] ∧ H' a = some (.lst ls) ∧ H' b = some (.lst zs) ∧ Stp p H H' ∧ Src H' p ∧ (∀ z ∈ zs, z ∈ ys) ∧ (∀ z ∈ ls, z ∈ ys) ∧ zs.length + ls.length = ys.length,
    ⟨_, ys, [], rfl, rfl, by rw [upd_ne nab, upd_same], upd_same, ((Stp.refl p H).new ha).new hb0, (hS.same (same_new ha _)).same (same_new hb _), by simp, fun z h => h, by simp⟩, ?_⟩
  rintro n σ H1 ⟨ls, zs, rfl, rfl, ea, eb, s1, hS1, hz, hl1, hlen⟩
  refine ⟨_, rfl, a, _, rfl, .inl (SqL.of ea), _, _, rfl, rfl, _, rfl, ite2 (fun e => ?_) fun e => ?_⟩
  · have h0 : (0 : Int) < ls.length := of_decide_eq_true e
    refine ⟨_, fun σ' H' h => h, _, rfl, .inl ⟨rfl, _, SqL.of eb⟩, _, rfl, .inl ⟨rfl, _, SqL.of ea⟩, _, rfl, _, rfl, a, _, rfl, .inl (SqL.of ea), p, _, rfl, h0, by omega, hS1, fun r H2 h1 h2 s2 hS2 => ?_⟩
    have ea2 := s2 _ _ nap ea
    have eb2 := s2 _ _ nbp eb
    obtain ⟨k, rfl⟩ : ∃ k : Nat, r = (k : Int) := ⟨r.toNat, by omega⟩
    have hk : k < ls.length := by omega
    refine ⟨a, ls, _, k, ls[k], rfl, rfl, ea2, by omega, by omega, by rw [PyProof.Rows.seqIndex_at (by omega) (by omega)]; rfl, List.getElem?_eq_getElem hk, ?_⟩
    have eb3 : (upd H2 a (.lst (ls.eraseIdx k))) b = some (.lst zs) := by rw [upd_ne (Ne.symm nab)]; exact eb2
    refine ⟨b, zs, _, rfl, rfl, eb3, small_lt (by omega), _, ?_, ls.eraseIdx k, zs ++ [ls[k]], rfl, rfl, ?_, upd_same, ?_, ?_, ?_, ?_, ?_⟩
    · rw [List.length_eraseIdx_of_lt hk]; omega
    · rw [upd_ne nab, upd_same]
    · exact (((s1.trans s2).new ha).new hb0)
    · obtain ⟨g, t, c, z⟩ := hS2
      exact ⟨g, t, c, by rw [upd_ne (Ne.symm nbp), upd_ne (Ne.symm nap)]; exact z⟩
    · intro z hzz
      rcases List.mem_append.mp hzz with h | h
      · exact hz z h
      · rw [List.mem_singleton.mp h]
        exact hl1 _ (List.getElem_mem hk)
    · exact fun z h => hl1 z (List.mem_of_mem_eraseIdx h)
    · rw [List.length_append, List.length_singleton, List.length_eraseIdx_of_lt hk]; omega
  · have h0 : ls.length = 0 := by
      have : ¬ (0 : Int) < ls.length := fun z => e (decide_eq_true z)
      omega
    exact ⟨_, rfl, q zs b H1 s1 hS1 hb0 eb (by omega) hz⟩
def spGrammar : Sp := fun vs H Q _ => vs = [] ∧ ∀ gs : List Str, ∀ d, H d = none → Q (.ref d) (upd H d (.lst (gs.map V.str)))
theorem cal_grammar (T : Txt K mg tS tF) (F : FunAt K mg "_law_grammar" s_law_grammar) : Cal P w K mg base CX0 1 "_law_grammar" P_law_grammar spGrammar := by
  refine F.cal (fun f fd F => ?_) fun _ _ _ _ _ _ us hl => match us, hl with | [], _ => rfl
  refine F.ok sc_law_grammar (fun vs H Q E h => ?_) (fun cdv A outer s H vs Q E hr h => ?_)
  · obtain ⟨rfl, _⟩ := h
    rfl
  obtain ⟨rfl, q⟩ := h
  refine ⟨_, (pss_one (ps_ret (pe_lst (pa_cons pe_str (pa_cons pe_str (pa_cons pe_str (pa_cons pe_str (pa_cons pe_str (pa_cons pe_str (pa_cons pe_str (pa_cons pe_str (pa_cons pe_str (pa_cons pe_str (pa_cons pe_str (pa_cons pe_str (pa_cons pe_str (pa_cons pe_str (pa_cons pe_str (pa_cons pe_str (pa_cons pe_str (pa_cons pe_str (pa_cons pe_str (pa_cons pe_str (pa_cons pe_str (pa_cons pe_str (pa_cons pe_str pa_nil)))))))))))))))))))))))))), ?_⟩
  refine ⟨by show 23 ≤ sizeLine; decide, fun d hd => ?_⟩
  exact q ["kind", "given", "op", "mark", "gate", "need", "fun", "cell", "call", "say", "look", "ask", "room", "tell", "on", "loop", "as", "leave", "return", "end", "cost", "toll", "awake"] d hd
end
end K66

/-! K66W8: _law_source, _law_words, _law_spoilt. -/
namespace K66
open PySem PySem.Spec PyProof.Rows L2 HR
section
variable {P : Program} {w : World} {K : PySem.W.Frag} {mg : Str → Option Value} {base : Heap} {tS tF : Tok} {C S : Addr}
def spSource (K : PySem.W.Frag) : Sp := fun vs H Q _ => ∃ (l : Addr) (ns : List Int) (at' : Int), vs = [.ref l, .int at'] ∧ SqL K H l (ns.map V.int) ∧ ns.length ≤ 63 ∧ ∀ p H', H p = none → Same H H' → Src H' p → Q (.ref p) H'
theorem cal_source (T : Txt K mg tS tF) (F : FunAt K mg "_law_source" s_law_source) : Cal P w K mg base CX0 1 "_law_source" P_law_source (spSource K) := by
  refine F.cal (fun f fd F => ?_) fun _ _ _ _ _ _ us hl => match us, hl with | [_, _], _ => rfl
  refine F.ok sc_law_source (fun vs H Q E h => ?_) (fun cdv A outer s H vs Q E hr h => ?_)
  · obtain ⟨p, m, _, rfl, _⟩ := h
    rfl
  obtain ⟨l, ns, a, rfl, hl, hn, q⟩ := h
  refine ⟨_, (pss_cons (ps_set (i := 2) sc_law_source.nd rfl (Or.inr rfl) (pe_op op_mulW (pe_op op_mulW (pe_op op_mulW (pe_op op_mulW (pe_op op_mulW (pe_op op_pow pe_int pe_int) (pe_op op_pow pe_int pe_int)) (pe_op op_pow pe_int pe_int)) (pe_op op_pow pe_int pe_int)) (pe_op op_pow pe_int pe_int)) (pe_op op_pow pe_int pe_int)))
  (pss_cons (ps_setLc (i := 3) (own := [("cell", 4)]) (g := gName 4) (tt := tYes) rfl sc_law_source.nd rfl rfl (sw_true rfl rfl rfl (by decide +kernel)) (pi_list (pe_slice sl_list (pv 0) po_none (po_some pe_int))) (blkOk_by (N := N_law_source) (sc := defScope s_law_source) (by decide +kernel)) (fun _ _ _ _ _ => pg_name (i := 4) sc_law_source.nd rfl (Or.inl rfl)) (fun _ _ _ _ _ => pts_nil) (fun _ _ _ _ _ => (pe_op op_mod (pe_callTy call_int1 (by rfl) T.int (by decide +kernel) (pa_cons (pv 4) pa_nil)) (pv 2))))
  (pss_cons (ps_set (i := 5) sc_law_source.nd rfl (Or.inl rfl) (pe_op op_add pe_int (pe_op op_mul (pv 1) pe_int)))
  (pss_cons (ps_for PassesOwn.never rfl (pi_list (pv 3)) (pg_name (i := 4) sc_law_source.nd rfl (Or.inl rfl)) (pss_one (ps_set (i := 5) sc_law_source.nd rfl (Or.inl rfl) (pe_op op_mod (pe_op op_add (pe_op op_add (pe_op op_mul (pv 5) pe_int) (pe_op op_mod (pv 4) pe_int)) pe_int) pe_int))))
  (pss_cons (ps_set (i := 6) sc_law_source.nd rfl (Or.inl rfl) (pe_ifExp (pt_cmpR op_gt (pe_callB call_len_seq (by rfl) T.len (by decide +kernel) (pa_cons (pv 3) pa_nil)) pe_int (nomark _)) (pe_ix ix_list (pv 3) (pe_op op_mod (pv 1) (pe_callB call_len_seq (by rfl) T.len (by decide +kernel) (pa_cons (pv 3) pa_nil))) (fun _ _ => rfl)) pe_int))
  (pss_one (ps_ret (pe_lst (pa_cons (pe_ifExp (pt_cmpR op_ge (pv 6) (pe_op op_pow pe_int pe_int) (nomark _)) (pv 6) pe_int) (pa_cons (pv 5) (pa_cons (pe_op op_mod (pv 1) pe_int) pa_nil))))))))))), ?_⟩
  have cp : CPow 10 64 := ⟨by decide, by decide, by decide⟩
  have cm : ∀ {x y : Int}, -(2 ^ 64) < y → y < 2 ^ 64 → CMul x y := fun a b => .inr ⟨a, b⟩
  refine ⟨_, _, rfl, rfl, cp, _, _, rfl, rfl, cp, _, _, rfl, rfl, ?_, _, _, rfl, rfl, cp, _, _, rfl, rfl, ?_, _, _, rfl, rfl, cp, _, _, rfl, rfl, ?_, _, _, rfl, rfl, cp, _, _, rfl, rfl, ?_, _, _, rfl, rfl, cp, _, _, rfl, rfl, ?_, ?_⟩
  · unfold CMulW; decide +kernel
  · unfold CMulW; decide +kernel
  · unfold CMulW; decide +kernel
  · unfold CMulW; decide +kernel
  · unfold CMulW; decide +kernel
  refine (fun (key : ∀ L : Int, 0 < L → gName 2 (.int L) (L2.start N_law_source [V.ref l, V.int a]) H _) => key _ ?_) (fun L hL0 => ?_)
  · decide +kernel
  obtain ⟨ms, hms, hml⟩ : ∃ ms : List Int, cutV (ns.map V.int) none (some 63) = ms.map V.int ∧ ms.length ≤ 63 := by
    refine ⟨(ns.drop (HT.sIx (ns.map V.int).length 0 none)).take (HT.sIx (ns.map V.int).length (ns.map V.int).length (some 63) - HT.sIx (ns.map V.int).length 0 none), ?_, ?_⟩
    · unfold cutV
      rw [List.map_take, List.map_drop]
    · rw [List.length_take, List.length_drop]; omega
  refine ⟨_, rfl, _, rfl, l, _, rfl, hl, fun b hb => ?_⟩
  rw [hms]
  have s1 : Same H (upd H b (.lst (ms.map V.int))) := same_new hb _
  have e1 : (upd H b (.lst (ms.map V.int))) b = some (.lst (ms.map V.int)) := upd_same
  generalize upd H b (.lst (ms.map V.int)) = H1 at s1 e1
  refine ⟨b, rfl, ⟨_, SqL.of e1⟩, fun D hD => lc_ix src_list (fun i => .int (ms.getD i 0 % L)) hD (small_lt (by rw [List.length_map]; omega)) (fun H' s => SqL.of (s _ _ e1)) (fun i x H' Q' hx s k => ?_) fun H' s hLst => ?_⟩
  · rw [List.getElem?_map] at hx
    obtain ⟨n, hn2, rfl⟩ := Option.map_eq_some_iff.mp hx
    have e : ms.getD i 0 = n := by rw [List.getD_eq_getElem?_getD, hn2]; rfl
    simp only [e] at k
    exact ⟨_, rfl, .inl ⟨_, rfl, _, rfl, _, _, rfl, rfl, hL0, k H' (Same.refl _)⟩⟩
  · rw [List.length_map, range_get (fun n => V.int (n % L)) 0 ms] at hLst
    have el : (ms.map fun n => V.int (n % L)) = (ms.map (· % L)).map V.int := by rw [List.map_map]; rfl
    rw [el] at hLst
    have hcl : (ms.map (· % L)).length ≤ 63 := by rw [List.length_map]; exact hml
    generalize ms.map (· % L) = cs at hLst hcl
    refine ⟨_, rfl, _, _, rfl, rfl, cm (by decide) (by decide), _, _, rfl, rfl, ?_⟩
    refine ⟨_, rfl, D, rfl, ⟨_, SqL.of hLst⟩, for_src (src_list (K := K)) (fun i σ H2 => H2 = H' ∧ ∃ v4 st, σ = [some (.ref l), some (.int a), some (.int L), some (.ref D), v4, some (.int st), none]) ⟨rfl, _, _, rfl⟩ (fun i σ H2 _ h => by rw [h.1]; exact SqL.of hLst)
      (fun i v σ H2 hx ⟨e, v4, st, eσ⟩ => ?_) fun σ H2 ⟨e, v4, st, eσ⟩ => ?_⟩
    · subst eσ e
      rw [List.getElem?_map] at hx
      obtain ⟨n, hn2, rfl⟩ := Option.map_eq_some_iff.mp hx
      refine ⟨_, rfl, _, _, rfl, rfl, cm (by decide) (by decide), _, rfl, _, _, rfl, rfl, (by decide : (0 : Int) < _), _, _, rfl, rfl, _, _, rfl, rfl, _, _, rfl, rfl, (by decide : (0 : Int) < _), rfl, _, _, rfl⟩
    · subst eσ e
      refine ⟨_, rfl, _, _, rfl, .inl (SqL.of hLst), _, _, rfl, rfl, _, rfl, ?_⟩
      have fin : ∀ gr : Int, tSeq (tAsg (tC (.int gr)) (gName 6)) (tRet (tLst (tCons (tIf (tTest (tOp (rI0 fun i j => V.bl (decide (j ≤ i))) (tVar 6) (tOp (rI CPow fun i j => V.int (i ^ j.toNat)) (tC (V.int 10)) (tC (V.int 18))))) (tVar 6) (tC (V.int 0)))
        (tCons (tVar 5) (tCons (tOp (rI (fun x j => 0 < j) fun i j => V.int (i % j)) (tVar 1) (tC (V.int 1009))) tNil))))) { nx := fun x H' => Q V.non H', rt := Q } [some (.ref l), some (.int a), some (.int L), some (.ref D), v4, some (.int st), none] H2 := fun gr => by
        have fin2 : ∀ g2 : Int, tLst (tCons (tC (.int g2)) (tCons (tVar 5) (tCons (tOp (rI (fun x j => 0 < j) fun i j => V.int (i % j)) (tVar 1) (tC (V.int 1009))) tNil))) [some (.ref l), some (.int a), some (.int L), some (.ref D), v4, some (.int st), some (.int gr)] H2 Q := fun g2 => by
          refine ⟨_, rfl, _, rfl, _, _, rfl, rfl, (by decide : (0 : Int) < _), by show 3 ≤ sizeLine; decide, fun p hp => ?_⟩
          exact q p _ ((s1.trans s).free hp) ((s1.trans s).trans (same_new hp _)) ⟨_, _, _, upd_same⟩
        refine ⟨_, rfl, _, _, rfl, rfl, ⟨by decide, by decide, by decide⟩, _, _, rfl, rfl, _, rfl, ?_⟩
        refine ite2 (fun _ => ?_) fun _ => ?_
        · exact ⟨_, rfl, fin2 gr⟩
        · exact fin2 0
      refine ite2 (fun h0 => ?_) fun _ => ?_
      · have h0 : (0 : Int) < (cs.map V.int).length := of_decide_eq_true h0
        refine ⟨_, rfl, _, rfl, _, rfl, _, _, rfl, .inl (SqL.of hLst), _, _, rfl, rfl, h0, ?_⟩
        rw [List.length_map] at h0 ⊢
        have r0 := Int.emod_nonneg a (Int.ne_of_gt h0)
        have r1 := Int.emod_lt_of_pos a h0
        obtain ⟨k, hk0⟩ : ∃ k : Nat, a % (cs.length : Int) = (k : Int) := ⟨(a % (cs.length : Int)).toNat, by omega⟩
        have hk : k < cs.length := by omega
        have hat : (cs.map V.int)[k]? = some (.int cs[k]) := by simp [hk]
        exact ⟨D, _, _, .int cs[k], rfl, rfl, SqL.of hLst, by rw [hk0]; exact atI_nat hat, fin _⟩
      · exact fin 0
theorem op_in_seqK {X : Cx} (K : PySem.W.Frag) (hK : X.K = K) : OpR X (compareOp .In) (rIn K false) := by
  subst hK
  exact op_in_seq
theorem nums_inv {lo : Int} {n i : Nat} {v : V} (h : (nums lo n)[i]? = some v) : i < n ∧ v = .int (lo + (i : Nat)) := by
  have hi : i < n := by
    have := (List.getElem?_eq_some_iff.mp h).1
    rwa [nums_len] at this
  rw [nums_at hi] at h
  exact ⟨hi, (Option.some.inj h).symm⟩
/-- lowercase letters only -/
def Lw (x : Str) : Prop := ∀ c ∈ TL.tl x, low c = true
def Wl (n : Nat) (x : Str) : Prop := isWord (TL.tl x) = true ∧ x.length ≤ n
theorem isWord_low {l : Cs} (h : ∀ c ∈ l, low c = true) (hne : l ≠ []) : isWord l = true := by
  cases l with
  | nil => exact absurd rfl hne
  | cons c r =>
    show (low c && (c :: r).all fun x => low x || dig x) = true
    rw [h c (List.mem_cons_self ..), Bool.true_and, List.all_eq_true]
    exact fun x hx => by rw [h x hx]; rfl
theorem isWord_app {l m : Cs} (h : isWord l = true) (hm : ∀ c ∈ m, (low c || dig c) = true) : isWord (l ++ m) = true := by
  cases l with
  | nil => cases h
  | cons c r =>
    unfold isWord at h
    rw [Bool.and_eq_true, List.all_eq_true] at h
    show (low c && (c :: (r ++ m)).all fun x => low x || dig x) = true
    rw [h.1, Bool.true_and, List.all_eq_true]
    intro x hx
    rcases List.mem_cons.mp hx with e | hx
    · exact h.2 x (by rw [e]; exact List.mem_cons_self ..)
    · rcases List.mem_append.mp hx with hx | hx
      · exact h.2 x (List.mem_cons_of_mem _ hx)
      · exact hm x hx
theorem letter_at {r : Int} (h0 : 0 ≤ r) (h1 : r < 26) : ∃ c, atI small.cps.toList r = some c ∧ low c = true := by
  obtain ⟨k, rfl⟩ : ∃ k : Nat, r = (k : Int) := ⟨r.toNat, by omega⟩
  have hl : small.cps.toList.length = 26 := by decide +kernel
  have hk : k < small.cps.toList.length := by omega
  refine ⟨small.cps.toList[k], atI_nat (List.getElem?_eq_getElem hk), ?_⟩
  rw [← mem_small]
  exact decide_eq_true (List.getElem_mem hk)
theorem tl_one (c : Nat) : TL.tl ⟨#[c]⟩ = [c] := rfl
theorem low_one {c : Nat} (h : low c = true) : Lw ⟨#[c]⟩ := fun x hx => by
  rw [tl_one, List.mem_singleton] at hx
  rw [hx]; exact h
theorem low_app {x y : Str} (h : Lw x) (k : Lw y) : Lw (x ++ y) := fun c hc => by
  rw [TL.tl_append] at hc
  rcases List.mem_append.mp hc with e | e
  · exact h c e
  · exact k c e
theorem low_cut {x : Str} {lo hi : Option Int} (h : Lw x) : Lw (cutS x lo hi) := fun c hc => by
  rw [tl_cut] at hc
  exact h c (List.mem_of_mem_drop (List.mem_of_mem_take hc))
theorem cut_len {x : Str} {lo hi : Option Int} : (cutS x lo hi).length ≤ x.length := by
  rw [TL.len_tl, TL.len_tl, tl_cut, List.length_take, List.length_drop]
  omega
theorem nat_digits {i : Int} (h : 0 ≤ i) : ∀ c ∈ TL.tl (Str.ofString (toString i)), (low c || dig c) = true := fun c hc => by
  rw [tl_int, intL_nonneg h] at hc
  have := TL.numL_digits i.natAbs c hc
  rw [Bool.or_eq_true]
  exact .inr (decide_eq_true this)
theorem grow {y : Str} (h : Wl 20 y) (b : Bool) : Wl 21 (if b = true then y ++ Str.ofString "x" else y) := by
  have h1 : (Str.ofString "x").length = 1 := by decide +kernel
  cases b with
  | true =>
    refine ⟨?_, ?_⟩
    · rw [if_pos rfl, TL.tl_append]
      exact isWord_app h.1 (by decide +kernel)
    · rw [if_pos rfl, Str.length_append, h1]
      have := h.2
      omega
  | false => exact ⟨h.1, Nat.le_trans h.2 (by decide)⟩
def spWords (K : PySem.W.Frag) : Sp := fun vs H Q _ => ∃ (p : Addr), vs = [.ref p, .int 2] ∧ Src H p ∧
  ∀ (a b : Str) (d : Addr) H', Stp p H H' → Src H' p → H d = none → H' d = some (.lst [.str a, .str b]) → Wl 21 a → Wl 21 b → Q (.ref d) H'
def tAddS : R2 := fun x y H Q => ∃ i j, x = V.str i ∧ y = V.str j ∧ i.length + j.length ≤ sizeLine ∧ Q (V.str (i ++ j)) H
def wordsEnd (K : PySem.W.Frag) : TS := tSeq (tAsg (tCall spGrammar [] E0 tNil) (gName 10))
  (tRet (tLc (iList K (tVar 5)) (gName 11) tYes (tIf (tTest (tOp (rIn K false) (tVar 11) (tVar 10))) (tOp tAddS (tVar 11) (tC (V.str (Str.ofString "x")))) (tVar 11)) (List.map (fun x => x.snd) [(Str.ofString "word", 11)])))
theorem words_end {H H' : Hp} {p d : Addr} {Q : VK} {σ : L2.St} {ws : List Str} (hst : Stp p H H') (hS : Src H' p) (hd0 : H d = none) (hd : H' d = some (.lst (ws.map V.str))) (h5 : σ[5]? = some (some (.ref d))) (hl : σ.length = 12) (h2 : ws.length = 2) (hw : ∀ x ∈ ws, Wl 20 x)
    (q : ∀ (a b : Str) (d : Addr) H', Stp p H H' → Src H' p → H d = none → H' d = some (.lst [.str a, .str b]) → Wl 21 a → Wl 21 b → Q (.ref d) H') : wordsEnd K { nx := fun x H' => Q V.non H', rt := Q } σ H' := by
  refine ⟨rfl, fun gs g hg => ?_⟩
  have s1 : Same H' (upd H' g (.lst (gs.map V.str))) := same_new hg _
  have eg : (upd H' g (.lst (gs.map V.str))) g = some (.lst (gs.map V.str)) := upd_same
  generalize upd H' g (.lst (gs.map V.str)) = H1 at s1 eg
  have h5' : (σ.set 10 (some (.ref g)))[5]? = some (some (.ref d)) := by rw [List.getElem?_set_ne (by decide)]; exact h5
  have h10' : (σ.set 10 (some (.ref g)))[10]? = some (some (.ref g)) := by rw [List.getElem?_set_self (by omega)]
  have hll : (σ.set 10 (some (.ref g))).length = 12 := by rw [List.length_set]; exact hl
  have ed := s1 _ _ hd
  refine ⟨_, h5', d, rfl, ⟨_, SqL.of ed⟩, fun D hD => lc_ix src_list (fun i => .str (if inV (.str (ws.getD i "")) (gs.map V.str) = true then ws.getD i "" ++ "x" else ws.getD i "")) hD (small_lt (by rw [List.length_map]; omega)) (fun H' s => SqL.of (s _ _ ed)) (fun i x H2 Q' hx s k => ?_) fun H2 s hLst => ?_⟩
  · rw [List.getElem?_map] at hx
    obtain ⟨y, hy, rfl⟩ := Option.map_eq_some_iff.mp hx
    have e : ws.getD i "" = y := by rw [List.getD_eq_getElem?_getD, hy]; rfl
    simp only [e] at k
    have hyw := hw y (List.mem_of_getElem? hy)
    have g11 : ((wipe (σ.set 10 (some (.ref g))) [11]).set 11 (some (V.str y)))[11]? = some (some (.str y)) := by
      rw [List.getElem?_set_self]
      show 11 < ((σ.set 10 (some (.ref g))).set 11 none).length
      rw [List.length_set]; omega
    have g10 : ((wipe (σ.set 10 (some (.ref g))) [11]).set 11 (some (V.str y)))[10]? = some (some (.ref g)) := by
      rw [List.getElem?_set_ne (by decide)]
      show ((σ.set 10 (some (.ref g))).set 11 none)[10]? = _
      rw [List.getElem?_set_ne (by decide)]; exact h10'
    refine ⟨_, g11, _, g10, g, _, rfl, .inl (SqL.of (s _ _ eg)), rfl, ?_, _, rfl, ?_⟩
    · rw [List.all_map, List.all_eq_true]
      exact fun _ _ => rfl
    refine ite2 (fun e2 => ?_) fun e2 => ?_
    · have e3 : inV (.str y) (gs.map V.str) = true := e2
      have z := k H2 (Same.refl _)
      rw [if_pos e3] at z
      refine ⟨_, g11, _, _, rfl, rfl, ?_, z⟩
      have : (Str.ofString "x").length = 1 := by decide +kernel
      rw [this]
      have := hyw.2
      exact small_of (by omega)
    · have e3 : ¬ inV (.str y) (gs.map V.str) = true := e2
      have z := k H2 (Same.refl _)
      rw [if_neg e3] at z
      exact ⟨_, g11, z⟩
  · match ws, h2 with
    | [a, b], _ =>
    exact q _ _ D H2 ((hst.trans (Stp.of s1)).trans (Stp.of s)) ((hS.same s1).same s) (hst.free hS (s1.free hD)) hLst (grow (hw a (by simp)) _) (grow (hw b (by simp)) _)
theorem cal_words (T : Txt K mg tS tF) (F : FunAt K mg "_law_words" s_law_words) (c_law_pick : Cal P w K mg base CX0 1 "_law_pick" P_law_pick spPick) (c_law_shuffled : Cal P w K mg base CX0 2 "_law_shuffled" P_law_shuffled (spShuffled K))
    (c_law_grammar : Cal P w K mg base CX0 1 "_law_grammar" P_law_grammar spGrammar) : Cal P w K mg base CX0 3 "_law_words" P_law_words (spWords K) := by
  refine F.cal (fun f fd F => ?_) fun _ _ _ _ _ _ us hl => match us, hl with | [_, _], _ => rfl
  refine F.ok sc_law_words (fun vs H Q E h => ?_) (fun cdv A outer s H vs Q E hr h => ?_)
  · obtain ⟨p, rfl, _⟩ := h
    rfl
  obtain ⟨p, rfl, hS, q⟩ := h
  have nd := T.nd
  refine ⟨_, (pss_cons (ps_set (i := 2) sc_law_words.nd rfl (Or.inr rfl) pe_str)
  (pss_cons (ps_set (i := 3) sc_law_words.nd rfl (Or.inl rfl) pe_str)
  (pss_cons (ps_for PassesOwn.never rfl (pi_range1 rfl T.range (pa_cons (pc c_law_pick (hr.mono (by decide)) (pa_cons (pv 0) (pa_cons pe_int pa_nil))) pa_nil)) (pg_name (i := 4) sc_law_words.nd rfl (Or.inl rfl)) (pss_one (ps_set (i := 3) sc_law_words.nd rfl (Or.inl rfl) (pe_op op_add_str (pv 3) (pe_ix ix_str (pv 2) (pc c_law_pick (hr.mono (by decide)) (pa_cons (pv 0) (pa_cons pe_int pa_nil))) (fun _ _ => rfl))))))
  (pss_cons (ps_set (i := 5) sc_law_words.nd rfl (Or.inl rfl) (pe_lst pa_nil))
  (pss_cons (ps_if (PW.pt (pw_and (pt_cmpR op_le (pv 1) pe_int (nomark _)) (pw_and1 (pt_cmpR op_gt (pc c_law_pick (hr.mono (by decide)) (pa_cons (pv 0) (pa_cons pe_int pa_nil))) pe_int (nomark _))))) (pss_cons (ps_set (i := 6) sc_law_words.nd rfl (Or.inl rfl) (pc c_law_pick (hr.mono (by decide)) (pa_cons (pv 0) (pa_cons (pe_op op_add (pe_callB call_len_str (by rfl) T.len (by decide +kernel) (pa_cons (pv 3) pa_nil)) pe_int) pa_nil))))
  (pss_one (ps_for PassesOwn.never rfl (pi_list (pe_slice sl_list (pc c_law_shuffled (hr.mono (by decide)) (pa_cons (pv 0) (pa_cons (pe_lc (own := [("k", 8)]) (g := gName 8) (tt := tYes) rfl sc_law_words.nd (pi_range1 rfl T.range (pa_cons pe_int pa_nil)) (blkOk_by (N := N_law_words) (sc := defScope s_law_words) (by decide +kernel)) (fun _ _ _ _ _ => pg_name (i := 8) sc_law_words.nd rfl (Or.inl rfl)) (fun _ _ _ _ _ => pts_nil) (fun _ _ _ _ _ => (pe_ix ix_str (pv 2) (pv 8) (fun _ _ => rfl)))) pa_nil))) po_none (po_some (pv 1)))) (pg_name (i := 7) sc_law_words.nd rfl (Or.inl rfl)) (pss_one (ps_expr (pe_bm PySem.F.plainAttrs_list PySem.F.slot_list_append PySem.F.type_list_append mt_append (pv 5) (pa_cons (pe_op op_add_str (pe_op op_add_str (pe_slice sl_str (pv 3) po_none (po_some (pv 6))) (pv 7)) (pe_slice sl_str (pv 3) (po_some (pv 6)) po_none)) pa_nil))))))) (pss_cons (ps_set (i := 9) sc_law_words.nd rfl (Or.inl rfl) (pc c_law_pick (hr.mono (by decide)) (pa_cons (pv 0) (pa_cons pe_int pa_nil))))
  (pss_one (ps_for PassesOwn.never rfl (pi_range1 rfl T.range (pa_cons (pv 1) pa_nil)) (pg_name (i := 8) sc_law_words.nd rfl (Or.inl rfl)) (pss_one (ps_expr (pe_bm PySem.F.plainAttrs_list PySem.F.slot_list_append PySem.F.type_list_append mt_append (pv 5) (pa_cons (pe_op op_add_str (pe_op op_add_str (pe_ix ix_str (pv 2) (pc c_law_pick (hr.mono (by decide)) (pa_cons (pv 0) (pa_cons pe_int pa_nil))) (fun _ _ => rfl)) (pv 3)) (pe_callTy (call_strA T.nd rfl) (by rfl) T.str (by decide +kernel) (pa_cons (pe_op op_add (pv 9) (pv 8)) pa_nil))) pa_nil))))))))
  (pss_cons (ps_set (i := 10) sc_law_words.nd rfl (Or.inr rfl) (pc0 c_law_grammar (hr.mono (by decide))))
  (pss_one (ps_ret (pe_lc (own := [("word", 11)]) (g := gName 11) (tt := tYes) rfl sc_law_words.nd (pi_list (pv 5)) (blkOk_by (N := N_law_words) (sc := defScope s_law_words) (by decide +kernel)) (fun _ _ _ _ _ => pg_name (i := 11) sc_law_words.nd rfl (Or.inl rfl)) (fun _ _ _ _ _ => pts_nil) (fun _ _ _ _ _ => (pe_ifExp (pt_cmpR (op_in_seqK K rfl) (pv 11) (pv 10) rfl) (pe_op op_add_str (pv 11) pe_str) (pv 11)))))))))))), ?_⟩
  have small26 : small.length ≤ sizeLine := by decide +kernel
  have e0 : TL.tl ("" : Str) = [] := by decide +kernel
  refine ⟨_, rfl, p, _, rfl, by decide, by decide, hS, fun n H1 n0 n3 s1 hS1 => ⟨_, rfl, by omega, by omega, for_src src_range (fun i σ H' => Stp p H H' ∧ Src H' p ∧ ∃ bs v4, σ = [some (.ref p), some (.int 2), some v_SMALL, some (.str bs), v4, none, none, none, none, none, none, none] ∧ Lw bs ∧ bs.length ≤ i)
    ⟨s1, hS1, _, none, rfl, (fun c hc => by rw [e0] at hc; cases hc), by decide +kernel⟩ (fun _ _ _ _ _ => trivial) (fun i v σ H' hi ⟨s2, hS2, bs, v4, eσ, hb, hbl⟩ => ?_) fun σ H' ⟨s2, hS2, bs, v4, eσ, hb, hbl⟩ => ?_⟩⟩
  · subst eσ
    have hi3 : i < 3 := by
      have := (List.getElem?_eq_some_iff.mp hi).1
      rw [nums_len] at this
      omega
    refine ⟨_, rfl, _, rfl, _, rfl, p, _, rfl, by decide, by decide, hS2, fun r H3 r0 r1 s3 hS3 => ?_⟩
    obtain ⟨c, hc, hlow⟩ := letter_at r0 r1
    have l1 : (⟨#[c]⟩ : Str).length = 1 := rfl
    refine ⟨_, _, c, rfl, rfl, small26, hc, _, _, rfl, rfl, by rw [l1]; exact small_of (by omega), s2.trans s3, hS3, _, _, rfl, low_app hb (low_one hlow), ?_⟩
    rw [Str.length_append, l1]; omega
  · subst eσ
    rw [nums_len] at hbl
    have hbl : bs.length ≤ 2 := by omega
    refine ⟨Nat.zero_le _, fun d hd => ?_⟩
    have hd0 : H d = none := s2.free hS2 hd
    have fin : ∀ σ2 H2, (Stp p H H2 ∧ Src H2 p ∧ σ2[5]? = some (some (.ref d)) ∧ σ2.length = 12 ∧ ∃ ws : List Str, H2 d = some (.lst (ws.map V.str)) ∧ ws.length = 2 ∧ ∀ x ∈ ws, Wl 20 x) → wordsEnd K { nx := fun x H' => Q V.non H', rt := Q } σ2 H2 :=
      fun σ2 H2 ⟨a1, a2, a3, a4, ws, a5, a6, a7⟩ => words_end a1 a2 hd0 a5 a3 a4 a6 a7 q
    have s3 : Stp p H (upd H' d (.lst [])) := s2.new hd0
    have hS3 : Src (upd H' d (.lst [])) p := hS2.same (same_new hd _)
    have e3 : (upd H' d (.lst [])) d = some (.lst (([] : List Str).map V.str)) := upd_same
    have ndp : d ≠ p := hS2.ne hd
    generalize upd H' d (.lst []) = H3 at s3 hS3 e3
    refine ⟨_, rfl, _, _, rfl, rfl, _, rfl, ite2 (fun _ => ?_) fun e => absurd rfl e⟩
    refine ⟨_, rfl, p, _, rfl, by decide, by decide, hS3, fun r H4 _ _ s4 hS4 => ⟨_, _, rfl, rfl, _, rfl, ite2 (fun _ => ?_) fun _ => ?_⟩⟩
    · have e4 := s4 _ _ ndp e3
      refine ⟨_, rfl, _, rfl, _, rfl, small_of (by omega), _, _, rfl, rfl, p, _, rfl, by omega, by omega, hS4, fun pl H5 _ _ s5 hS5 => ?_⟩
      have e5 := s5 _ _ ndp e4
      refine ⟨_, rfl, _, rfl, by decide, by decide, fun D hD => lc_ix src_range (fun i => .str ⟨#[small.cps.toList.getD i 0]⟩) hD (small_lt (by rw [nums_len]; decide)) (fun _ _ => trivial) (fun i v H6 Q' hx s6 k => ?_) fun H6 s6 hLst => ?_⟩
      · obtain ⟨hi, rfl⟩ := nums_inv hx
        have hi : i < 26 := hi
        have hl : small.cps.toList.length = 26 := by decide +kernel
        have hk : i < small.cps.toList.length := by omega
        refine ⟨_, rfl, _, rfl, _, _, _, rfl, rfl, small26, ?_, k H6 (Same.refl _)⟩
        rw [show ((0 : Int) + (i : Nat)) = ((i : Nat) : Int) from Int.zero_add _]
        refine atI_nat ?_
        rw [List.getD_eq_getElem?_getD, List.getElem?_eq_getElem hk]
        rfl
      rw [nums_len] at hLst
      have hlen26 : ((List.range 26).map fun i => V.str ⟨#[small.cps.toList.getD i 0]⟩).length = 26 := by simp
      have hall : ∀ v ∈ (List.range 26).map (fun i => V.str ⟨#[small.cps.toList.getD i 0]⟩), ∃ c, low c = true ∧ v = .str ⟨#[c]⟩ := fun v hv => by
        obtain ⟨i, hi, rfl⟩ := List.mem_map.mp hv
        rw [List.mem_range] at hi
        have hl : small.cps.toList.length = 26 := by decide +kernel
        have hk : i < small.cps.toList.length := by omega
        refine ⟨_, ?_, rfl⟩
        rw [← mem_small, List.getD_eq_getElem?_getD, List.getElem?_eq_getElem hk]
        exact decide_eq_true (List.getElem_mem hk)
      refine ⟨p, D, _, rfl, hS5.same s6, SqL.of hLst, by rw [show Int.toNat 26 = 26 from rfl, hlen26]; decide, fun zs d2 H7 s7 hS7 hd2 e7 hzl hz => ?_⟩
      rw [show Int.toNat 26 = 26 from rfl] at hzl hz
      rw [hlen26] at hzl
      refine ⟨_, rfl, 2, rfl, d2, zs, rfl, SqL.of e7, fun b hb2 => ?_⟩
      have hcut : cutV zs none (some 2) = zs.take 2 := by
        unfold cutV
        rw [hzl]
        rfl
      rw [hcut]
      have hd7 : H7 d = some (.lst (([] : List Str).map V.str)) := s7 _ _ ndp (s6 _ _ e5)
      have ndb : d ≠ b := ne_of_none hd7 hb2
      have eb : (upd H7 b (.lst (zs.take 2))) b = some (.lst (zs.take 2)) := upd_same
      have e8 : (upd H7 b (.lst (zs.take 2))) d = some (.lst (([] : List Str).map V.str)) := by rw [upd_ne ndb]; exact hd7
      have s8 : Stp p H (upd H7 b (.lst (zs.take 2))) := (((s3.trans s4).trans s5).trans (Stp.of s6)).trans s7 |>.trans (Stp.of (same_new hb2 _))
      have hS8 : Src (upd H7 b (.lst (zs.take 2))) p := hS7.same (same_new hb2 _)
      generalize upd H7 b (.lst (zs.take 2)) = H8 at eb e8 s8 hS8
      have htl : (zs.take 2).length = 2 := by rw [List.length_take, hzl]; rfl
      have hta : ∀ v ∈ zs.take 2, ∃ c, low c = true ∧ v = .str ⟨#[c]⟩ := fun v hv => hall v (hz v (List.mem_of_mem_take hv))
      generalize zs.take 2 = z2 at eb htl hta
      refine ⟨b, rfl, ⟨_, SqL.of eb⟩, for_src (src_list (K := K)) (fun i σ H' => Stp p H H' ∧ Src H' p ∧ H' b = some (.lst z2) ∧ ∃ ws : List Str, H' d = some (.lst (ws.map V.str)) ∧ ws.length = i ∧ (∀ x ∈ ws, Wl 20 x) ∧
        ∃ v7, σ = [some (.ref p), some (.int 2), some v_SMALL, some (.str bs), v4, some (.ref d), some (.int pl), v7, none, none, none, none]) ⟨s8, hS8, eb, [], e8, rfl, by simp, none, rfl⟩ (fun _ _ _ _ h => SqL.of h.2.2.1)
        (fun i v σ H9 hx ⟨s9, hS9, e9, ws, ed9, hwl, hww, v7, eσ⟩ => ?_) fun σ H9 ⟨s9, hS9, e9, ws, ed9, hwl, hww, v7, eσ⟩ => ?_⟩
      · subst eσ
        obtain ⟨c, hc, rfl⟩ := hta v (List.mem_of_getElem? hx)
        have hi : i < 2 := by
          have := (List.getElem?_eq_some_iff.mp hx).1
          omega
        have l1 : (⟨#[c]⟩ : Str).length = 1 := rfl
        have k1 := @cut_len bs none (some pl)
        have k2 := @cut_len bs (some pl) none
        refine ⟨_, rfl, .inl ⟨rfl, _, SqL.of ed9⟩, _, rfl, _, rfl, pl, rfl, bs, rfl, small_of (by omega), _, rfl, _, _, rfl, rfl, by rw [l1]; exact small_of (by omega), ?_⟩
        refine ⟨_, rfl, _, rfl, pl, rfl, bs, rfl, small_of (by omega), _, _, rfl, rfl, by rw [Str.length_append, l1]; exact small_of (by omega), ?_⟩
        refine ⟨d, _, _, rfl, rfl, ed9, small_lt (by rw [List.length_map]; omega), s9.new hd0, ?_, ?_, ws ++ [cutS bs none (some pl) ++ ⟨#[c]⟩ ++ cutS bs (some pl) none], ?_, ?_, ?_, _, rfl⟩
        · obtain ⟨g, t, cc, z⟩ := hS9
          exact ⟨g, t, cc, by rw [upd_ne (Ne.symm ndp)]; exact z⟩
        · rw [upd_ne (Ne.symm ndb)]; exact e9
        · rw [upd_same, List.map_append]; rfl
        · rw [List.length_append, hwl]; rfl
        · intro x hx2
          rcases List.mem_append.mp hx2 with h | h
          · exact hww x h
          · rw [List.mem_singleton.mp h]
            refine ⟨isWord_low (low_app (low_app (low_cut hb) (low_one hc)) (low_cut hb)) (fun z => ?_), ?_⟩
            · rw [TL.tl_append, TL.tl_append, tl_one] at z
              simp at z
            · rw [Str.length_append, Str.length_append, l1]
              omega
      · subst eσ
        exact fin _ _ ⟨s9, hS9, rfl, rfl, ws, ed9, by rw [hwl, htl], hww⟩
    · refine ⟨_, rfl, p, _, rfl, by decide, by decide, hS4, fun st H5 st0 st1 s5 hS5 => ?_⟩
      have e5 := s5 _ _ ndp (s4 _ _ ndp e3)
      have s8 : Stp p H H5 := (s3.trans s4).trans s5
      refine ⟨_, rfl, _, rfl, by decide, by decide, for_src src_range (fun i σ H' => Stp p H H' ∧ Src H' p ∧ ∃ ws : List Str, H' d = some (.lst (ws.map V.str)) ∧ ws.length = i ∧ (∀ x ∈ ws, Wl 20 x) ∧
        ∃ v8, σ = [some (.ref p), some (.int 2), some v_SMALL, some (.str bs), v4, some (.ref d), none, none, v8, some (.int st), none, none]) ⟨s8, hS5, [], e5, rfl, by simp, none, rfl⟩ (fun _ _ _ _ _ => trivial)
        (fun i v σ H9 hx ⟨s9, hS9, ws, ed9, hwl, hww, v8, eσ⟩ => ?_) fun σ H9 ⟨s9, hS9, ws, ed9, hwl, hww, v8, eσ⟩ => ?_⟩
      · subst eσ
        obtain ⟨hi, rfl⟩ := nums_inv hx
        have hi : i < 2 := hi
        refine ⟨_, rfl, .inl ⟨rfl, _, SqL.of ed9⟩, _, rfl, _, rfl, p, _, rfl, by decide, by decide, hS9, fun r H10 r0 r1 s10 hS10 => ?_⟩
        obtain ⟨c, hc, hlow⟩ := letter_at r0 r1
        have l1 : (⟨#[c]⟩ : Str).length = 1 := rfl
        have e10 := s10 _ _ ndp ed9
        have hst : (st + (0 + (i : Nat))).natAbs < 100 := by omega
        have hln : (Str.ofString (toString (st + (0 + (i : Nat))))).length ≤ 2 := by
          rw [TL.len_tl, tl_int, intL_nonneg (by omega)]
          exact TL.numL_len (by decide) hst
        refine ⟨_, _, c, rfl, rfl, small26, hc, _, rfl, _, _, rfl, rfl, by rw [l1]; exact small_of (by omega), _, rfl, _, rfl, _, _, rfl, rfl, .inl ⟨_, rfl, Nat.lt_of_lt_of_le hst (Nat.pow_le_pow_right (i := 2) (j := 4300) (show 10 > 0 by decide) (by decide)), ?_⟩⟩
        refine ⟨_, _, rfl, rfl, by rw [Str.length_append, l1]; exact small_of (by omega), ?_⟩
        refine ⟨d, _, _, rfl, rfl, e10, small_lt (by rw [List.length_map]; omega), (s9.trans s10).new hd0, ?_, ws ++ [⟨#[c]⟩ ++ bs ++ Str.ofString (toString (st + (0 + ((i : Nat) : Int))))], ?_, ?_, ?_, _, rfl⟩
        · obtain ⟨g, t, cc, z⟩ := hS10
          exact ⟨g, t, cc, by rw [upd_ne (Ne.symm ndp)]; exact z⟩
        · rw [upd_same, List.map_append]; rfl
        · rw [List.length_append, hwl]; rfl
        · intro x hx2
          rcases List.mem_append.mp hx2 with h | h
          · exact hww x h
          · rw [List.mem_singleton.mp h]
            refine ⟨?_, ?_⟩
            · rw [TL.tl_append]
              refine isWord_app (isWord_low (low_app (low_one hlow) hb) fun z => ?_) (nat_digits (by omega))
              rw [TL.tl_append, tl_one] at z
              simp at z
            · rw [Str.length_append, Str.length_append, l1]
              omega
      · subst eσ
        rw [nums_len] at hwl
        exact fin _ _ ⟨s9, hS9, rfl, rfl, ws, ed9, hwl, hww⟩
end
end K66

/-! K66W9: _law_same, _law_nest, _law_member, _law_spoilt. -/
namespace K66
open PySem PySem.Spec PyProof.Rows L2 HR
/-- code that is not reached -/
theorem pss_dead {X : Cx} {l : List Stmt} : PSs X l (fun _ _ _ => False) := ⟨fun _ _ _ _ _ _ h => h.elim⟩
mutual
/-- tuples at most n deep -/
def dep : Nat → D → Prop
  | 0, .tuple _ => False
  | n + 1, .tuple xs => deps n xs
  | _, _ => True
def deps : Nat → List D → Prop
  | _, [] => True
  | n, x :: r => dep n x ∧ deps n r
end
theorem deps_mem {n : Nat} : ∀ {l : List D}, deps n l ↔ ∀ d ∈ l, dep n d
  | [] => by simp [deps]
  | x :: r => by
    rw [deps, deps_mem (l := r)]
    simp
theorem good_dep : ∀ (n : Nat) (d : D), good n d → dep n d
  | 0, d => fun h => by
    cases d <;> simp [good] at h <;> simp [dep]
  | n + 1, d => fun h => by
    cases d with
    | tuple xs =>
      have h : goods n xs := by simpa [good] using h
      show deps n xs
      exact deps_mem.mpr fun d hd => good_dep n d (goods_mem.mp h d hd)
    | _ => simp [dep]
section
variable {P : Program} {w : World} {K : PySem.W.Frag} {mg : Str → Option Value} {base : Heap} {tS tF : Tok} {C S : Addr}
def spSame (K : PySem.W.Frag) (n : Nat) : Sp := fun vs H Q _ => ∃ (m : Nat) (va vd : V) (d : D), n = m + 1 ∧ vs = [va, vd] ∧ Dt K H va d ∧ Dt K H vd d ∧ dep m d ∧ ∀ H', Same H H' → Q (.bl true) H'
theorem cal_same (T : Txt K mg tS tF) (F : FunAt K mg "_law_same" s_law_same) : ∀ n : Nat, Cal P w K mg base CX0 n "_law_same" P_law_same (spSame K n)
  | 0 => F.cal (fun f fd F => fn_none fun vs H Q E h => by obtain ⟨m, _, _, _, h, _⟩ := h; cases h) fun _ _ _ _ _ _ us hl => match us, hl with | [_, _], _ => rfl
  | n + 1 => by
    have c_law_same := cal_same T F n
    refine F.cal (fun f fd F => ?_) fun _ _ _ _ _ _ us hl => match us, hl with | [_, _], _ => rfl
    refine F.ok sc_law_same (fun vs H Q E h => ?_) (fun cdv A outer s H vs Q E hr h => ?_)
    · obtain ⟨m, va, vd, d, _, rfl, _⟩ := h
      rfl
    obtain ⟨m, va, vd, d, hm, rfl, ha, hd, hg, q⟩ := h
    have hm : n = m := by omega
    subst hm
    refine ⟨_, (pss_cons (ps_if (pt_cmpR op_isN (pv 1) pe_non (nomark _)) (pss_one (ps_ret (pe_cmpR op_isN (pv 0) pe_non (nomark _)))) pss_nil)
  (pss_cons (ps_if (pt_val (pe_callB call_isi (by rfl) T.isinstance (by decide +kernel) (pa_cons (pv 1) (pa_cons (pe_bltn (v := .ty "bool") (u := .type "bool") (by rfl) T.bool (by decide +kernel) rfl) pa_nil)))) (pss_one (ps_ret (pe_and (pe_callB call_isi (by rfl) T.isinstance (by decide +kernel) (pa_cons (pv 0) (pa_cons (pe_bltn (v := .ty "bool") (u := .type "bool") (by rfl) T.bool (by decide +kernel) rfl) pa_nil))) (pe_one (pe_cmpR op_eq (pv 0) (pv 1) (nomark _)))))) pss_nil)
  (pss_cons (ps_if (pt_val (pe_callB call_isi (by rfl) T.isinstance (by decide +kernel) (pa_cons (pv 1) (pa_cons (pe_bltn (v := .ty "int") (u := .type "int") (by rfl) T.int (by decide +kernel) rfl) pa_nil)))) (pss_one (ps_ret (pe_and (pe_callB call_isi (by rfl) T.isinstance (by decide +kernel) (pa_cons (pv 0) (pa_cons (pe_bltn (v := .ty "int") (u := .type "int") (by rfl) T.int (by decide +kernel) rfl) pa_nil))) (pe_and (pe_not (pe_callB call_isi (by rfl) T.isinstance (by decide +kernel) (pa_cons (pv 0) (pa_cons (pe_bltn (v := .ty "bool") (u := .type "bool") (by rfl) T.bool (by decide +kernel) rfl) pa_nil)))) (pe_one (pe_cmpR op_eq (pv 0) (pv 1) (nomark _))))))) pss_nil)
  (pss_cons (ps_if (pt_val (pe_callB call_isi (by rfl) T.isinstance (by decide +kernel) (pa_cons (pv 1) (pa_cons (pe_bltn (v := .ty "str") (u := .type "str") (by rfl) T.str (by decide +kernel) rfl) pa_nil)))) (pss_one (ps_ret (pe_and (pe_callB call_isi (by rfl) T.isinstance (by decide +kernel) (pa_cons (pv 0) (pa_cons (pe_bltn (v := .ty "str") (u := .type "str") (by rfl) T.str (by decide +kernel) rfl) pa_nil))) (pe_one (pe_cmpR op_eq (pv 0) (pv 1) (nomark _)))))) pss_nil)
  (pss_cons (ps_if (pt_val (pe_callB call_isi (by rfl) T.isinstance (by decide +kernel) (pa_cons (pv 1) (pa_cons (pe_bltn (v := .ty "dict") (u := .type "dict") (by rfl) T.dict (by decide +kernel) rfl) pa_nil)))) pss_dead pss_nil)
  (pss_cons (ps_if (pt_val (pe_callB call_isi (by rfl) T.isinstance (by decide +kernel) (pa_cons (pv 1) (pa_cons (pe_bltn (v := .ty "tuple") (u := .type "tuple") (by rfl) T.tuple (by decide +kernel) rfl) pa_nil)))) (pss_one (ps_if (pt_not (pt_val (pe_callB call_isi (by rfl) T.isinstance (by decide +kernel) (pa_cons (pv 0) (pa_cons (pe_bltn (v := .ty "tuple") (u := .type "tuple") (by rfl) T.tuple (by decide +kernel) rfl) pa_nil))))) (pss_one (ps_ret pe_bl)) pss_nil)) (pss_one (ps_if (pt_not (pt_val (pe_callB call_isi (by rfl) T.isinstance (by decide +kernel) (pa_cons (pv 0) (pa_cons (pe_bltn (v := .ty "list") (u := .type "list") (by rfl) T.list (by decide +kernel) rfl) pa_nil))))) (pss_one (ps_ret pe_bl)) pss_nil)))
  (pss_cons (ps_if (pt_cmpR op_ne (pe_callB call_len_seq (by rfl) T.len (by decide +kernel) (pa_cons (pv 0) pa_nil)) (pe_callB call_len_seq (by rfl) T.len (by decide +kernel) (pa_cons (pv 1) pa_nil)) (nomark _)) (pss_one (ps_ret pe_bl)) pss_nil)
  (pss_cons (ps_for PassesOwn.never rfl (RZ.pi_zipA (by rfl) T.zip (pa_cons (pv 0) (pa_cons (pv 1) pa_nil))) (pg_tup rfl (pgs_cons (pg_name (i := 3) sc_law_same.nd rfl (Or.inl rfl)) (pgs_cons (pg_name (i := 4) sc_law_same.nd rfl (Or.inl rfl)) pgs_nil))) (pss_one (ps_if (pt_not (pt_val (pc c_law_same hr (pa_cons (pv 3) (pa_cons (pv 4) pa_nil))))) (pss_one (ps_ret pe_bl)) pss_nil)))
  (pss_one (ps_ret pe_bl)))))))))), ?_⟩
    cases hd with
    | non =>
      cases ha
      refine ⟨_, rfl, rfl, _, rfl, ite2 (fun _ => ?_) fun e => absurd (decide_eq_true rfl) e⟩
      exact ⟨_, rfl, rfl, q H (Same.refl _)⟩
    | int i =>
      cases ha
      refine ⟨_, rfl, rfl, _, rfl, ite2 (fun e => nomatch (of_decide_eq_true e)) fun _ => ?_⟩
      refine ⟨_, rfl, _, _, _, _, _, rfl, .ty "bool", .base (.int i), kit_ty (r := false) (by decide +kernel), _, rfl, iteF ?_⟩
      refine ⟨_, rfl, _, _, _, _, _, rfl, .ty "int", .base (.int i), kit_ty (r := true) (by decide +kernel), _, rfl, iteT ?_⟩
      refine ⟨_, rfl, _, _, _, _, _, rfl, .ty "int", .base (.int i), kit_ty (r := true) (by decide +kernel), ?_⟩
      refine ⟨_, rfl, iteT ?_⟩
      refine ⟨_, rfl, _, _, _, _, _, rfl, .ty "bool", .base (.int i), kit_ty (r := false) (by decide +kernel), _, rfl, _, rfl, iteT ?_⟩
      refine ⟨_, rfl, _, rfl, rfl, ?_⟩
      rw [decide_eq_true rfl]
      exact q H (Same.refl _)
    | str x =>
      cases ha
      refine ⟨_, rfl, rfl, _, rfl, ite2 (fun e => nomatch (of_decide_eq_true e)) fun _ => ?_⟩
      refine ⟨_, rfl, _, _, _, _, _, rfl, .ty "bool", .base (.str x), kit_ty (r := false) (by decide +kernel), _, rfl, iteF ?_⟩
      refine ⟨_, rfl, _, _, _, _, _, rfl, .ty "int", .base (.str x), kit_ty (r := false) (by decide +kernel), _, rfl, iteF ?_⟩
      refine ⟨_, rfl, _, _, _, _, _, rfl, .ty "str", .base (.str x), kit_ty (r := true) (by decide +kernel), _, rfl, iteT ?_⟩
      refine ⟨_, rfl, _, _, _, _, _, rfl, .ty "str", .base (.str x), kit_ty (r := true) (by decide +kernel), ?_⟩
      refine ⟨_, rfl, iteT ?_⟩
      refine ⟨_, rfl, _, rfl, rfl, ?_⟩
      rw [decide_eq_true rfl]
      exact q H (Same.refl _)
    | @tup b ys ds hS hds =>
      cases ha with
      | @tup a xs _ hSa hda =>
      refine ⟨_, rfl, rfl, _, rfl, ite2 (fun e => nomatch (of_decide_eq_true e)) fun _ => ?_⟩
      refine ⟨_, rfl, _, _, _, _, _, rfl, .ty "bool", tyx_tup hS, kit_ty (r := false) (by decide +kernel), _, rfl, iteF ?_⟩
      refine ⟨_, rfl, _, _, _, _, _, rfl, .ty "int", tyx_tup hS, kit_ty (r := false) (by decide +kernel), _, rfl, iteF ?_⟩
      refine ⟨_, rfl, _, _, _, _, _, rfl, .ty "str", tyx_tup hS, kit_ty (r := false) (by decide +kernel), _, rfl, iteF ?_⟩
      refine ⟨_, rfl, _, _, _, _, _, rfl, .ty "dict", tyx_tup hS, kit_ty (r := false) (by decide +kernel), _, rfl, iteF ?_⟩
      refine ⟨_, rfl, _, _, _, _, _, rfl, .ty "tuple", tyx_tup hS, kit_ty (r := true) (by decide +kernel), _, rfl, iteT ?_⟩
      refine ⟨_, rfl, _, _, _, _, _, rfl, .ty "tuple", tyx_tup hSa, kit_ty (r := true) (by decide +kernel), _, rfl, iteF ?_⟩
      obtain ⟨m, rfl⟩ : ∃ m, n = m + 1 := by
        cases n with
        | zero => exact absurd hg (by simp [dep])
        | succ m => exact ⟨m, rfl⟩
      have hg : deps m ds := hg
      have hla := dtAll_len hda
      have hlb := dtAll_len hds
      refine ⟨_, rfl, a, _, rfl, .inr hSa, _, rfl, b, _, rfl, .inr hS, ?_⟩
      rw [hla, hlb]
      refine ⟨rfl, _, rfl, ite2 (fun e => ?_) fun _ => ?_⟩
      · simp at e
      refine ⟨_, rfl, _, rfl, a, b, xs, ys, rfl, .inr ⟨hSa, hS, ?_⟩⟩
      refine ⟨fun i mm σ H' => mm = ds.length - i ∧ i ≤ ds.length ∧ Same H H' ∧ ∃ v2 v3 v4, σ = [some (.ref a), some (.ref b), v2, v3, v4], ⟨_, rfl, Nat.zero_le _, Same.refl _, none, none, none, rfl⟩, ?_⟩
      rintro i mm σ H' ⟨rfl, hi, sm, v2, v3, v4, rfl⟩
      have sa := sqT_mono sm hSa
      have sb := sqT_mono sm hS
      by_cases hlt : i < ds.length
      · refine .inr ⟨⟨xs, ys, xs[i]'(by omega), ys[i]'(by omega), sa, sb, List.getElem?_eq_getElem _, List.getElem?_eq_getElem _⟩, fun σ' H2 => i + 1 ≤ ds.length ∧ Same H H2 ∧ ∃ v2 v3 v4, σ' = [some (.ref a), some (.ref b), v2, v3, v4],
          fun σ' H2 h => ⟨ds.length - (i + 1), by omega, rfl, h⟩, fun v H2 ⟨t, x, y, ev, ht, eH, hx, hy⟩ => ?_⟩
        subst ev eH
        have hx := hx xs sa
        have hy := hy ys sb
        obtain ⟨d1, hd1, hdx⟩ := dtAll_get hda hx
        obtain ⟨d2, hd2, hdy⟩ := dtAll_get hds hy
        rw [hd1] at hd2
        cases hd2
        have s2 : Same H (upd H' t (.tup [x, y])) := sm.trans (same_new ht _)
        have hdd : d1 ∈ ds := List.mem_of_getElem? hd1
        refine ⟨t, _, rfl, SqT.of upd_same, rfl, _, _, rfl, _, _, rfl, rfl, ?_⟩
        refine ⟨_, rfl, _, rfl, m, x, y, d1, rfl, rfl, dt_mono (TS.of s2) hdx, dt_mono (TS.of s2) hdy, deps_mem.mp hg d1 hdd, fun H3 s3 => ⟨_, rfl, iteF ?_⟩⟩
        exact ⟨hlt, s2.trans s3, _, _, _, rfl⟩
      · have e : i = ds.length := by omega
        subst e
        exact .inl ⟨⟨xs, ys, sa, sb, .inl (by omega)⟩, q H' sm⟩
theorem tup_tup {n : Nat} {d : D} (h : good n d) : good (n + 1) (.tuple [d]) := by simp [good, goods, h]
def nestD : Nat → D → D
  | 0, d => d
  | n + 1, d => .tuple [nestD n d]
theorem nest_good {m : Nat} {d : D} (h : good m d) : ∀ n, good (m + n) (nestD n d)
  | 0 => h
  | n + 1 => tup_tup (nest_good h n)
theorem nest_len (d : D) : ∀ n, (wr (nestD n d)).length = (wr d).length + 2 * n
  | 0 => rfl
  | n + 1 => by
    have h := nest_len d n
    show (wr (.tuple [nestD n d])).length = _
    simp [wr, wrs, wrt, h]
    omega
def spNest (K : PySem.W.Frag) : Sp := fun vs H Q _ => ∃ (v : V) (d : D) (n : Nat), vs = [v, .int n] ∧ n ≤ 100 ∧ Dt K H v d ∧ ∀ u H', Same H H' → Dt K H' u (nestD n d) → Q u H'
theorem cal_nest (T : Txt K mg tS tF) (F : FunAt K mg "_law_nest" s_law_nest) : Cal P w K mg base CX0 1 "_law_nest" P_law_nest (spNest K) := by
  refine F.cal (fun f fd F => ?_) fun _ _ _ _ _ _ us hl => match us, hl with | [_, _], _ => rfl
  refine F.ok sc_law_nest (fun vs H Q E h => ?_) (fun cdv A outer s H vs Q E hr h => ?_)
  · obtain ⟨v, d, n, rfl, _⟩ := h
    rfl
  obtain ⟨v, d, n, rfl, hn, hd, q⟩ := h
  refine ⟨_, (pss_cons (ps_for PassesOwn.never rfl (pi_range1 rfl T.range (pa_cons (pv 1) pa_nil)) (pg_name (i := 2) sc_law_nest.nd rfl (Or.inl rfl)) (pss_one (ps_set (i := 0) sc_law_nest.nd rfl (Or.inl rfl) (pe_tup (pa_cons (pv 0) pa_nil)))))
  (pss_one (ps_ret (pv 0)))), ?_⟩
  refine ⟨_, rfl, _, rfl, by omega, by omega, for_src src_range (fun i σ H' => Same H H' ∧ ∃ u v2, σ = [some u, some (.int n), v2] ∧ Dt K H' u (nestD i d)) ⟨Same.refl _, v, none, rfl, hd⟩ (fun _ _ _ _ _ => trivial)
    (fun i x σ H' hi ⟨sm, u, v2, eσ, hu⟩ => ?_) fun σ H' ⟨sm, u, v2, eσ, hu⟩ => ?_⟩
  · subst eσ
    refine ⟨_, rfl, by show 1 ≤ sizeLine; decide, fun t ht => ⟨sm.trans (same_new ht _), _, _, rfl, .tup (SqT.of upd_same) (.cons (dt_mono (TS.of (same_new ht _)) hu) .nil)⟩⟩
  · subst eσ
    rw [nums_len, Int.toNat_natCast] at hu
    exact ⟨_, rfl, q u H' sm hu⟩
end
end K66

/-! K66W10: _law_member, _law_spoilt. -/
namespace K66
open PySem PySem.Spec PyProof.Rows L2 HR
def msz : Nat → Nat
  | 0 => 40
  | n + 1 => 3 * msz n + 5
theorem msz_ge : ∀ n, 40 ≤ msz n
  | 0 => Nat.le_refl _
  | n + 1 => by
    have := msz_ge n
    show 40 ≤ 3 * msz n + 5
    omega
theorem wrs_upper (l : List D) (b : Nat) (h : ∀ d ∈ l, (wr d).length ≤ b) : (wrs l).length ≤ l.length * (b + 1) := by
  have key : ∀ l : List D, (∀ d ∈ l, (wr d).length ≤ b) → (wrt l).length ≤ l.length * (b + 1) := by
    intro l
    induction l with
    | nil => intro _; exact Nat.zero_le _
    | cons x r ih =>
      intro h
      have h1 := h x (List.mem_cons_self ..)
      have h2 := ih fun d hd => h d (List.mem_cons_of_mem _ hd)
      rw [wrt, List.length_cons, List.length_append, List.length_cons, Nat.succ_mul]
      omega
  cases l with
  | nil => exact Nat.zero_le _
  | cons x r =>
    have h1 := h x (List.mem_cons_self ..)
    have h2 := key r fun d hd => h d (List.mem_cons_of_mem _ hd)
    rw [wrs, List.length_append, List.length_cons, Nat.succ_mul]
    omega
theorem wr_tuple (ds : List D) : (wr (.tuple ds)).length = (wrs ds).length + 2 := by simp [wr]
theorem intL_len {i : Int} {k : Nat} (hk : 0 < k) (h : i.natAbs < 10 ^ k) : (intL i).length ≤ k + 1 := by
  have := TL.numL_len hk h
  unfold intL
  split
  · rw [List.length_cons]; omega
  · omega
section
variable {P : Program} {w : World} {K : PySem.W.Frag} {mg : Str → Option Value} {base : Heap} {tS tF : Tok} {C S : Addr}
def spMember (K : PySem.W.Frag) (n : Nat) : Sp := fun vs H Q _ => ∃ (room : Nat) (p : Addr), n = room + 4 ∧ vs = [.ref p, .int room] ∧ Src H p ∧
  ∀ v d H', Stp p H H' → Src H' p → Dt K H' v d → good room d → (wr d).length ≤ msz room → Q v H'
theorem cal_member (T : Txt K mg tS tF) (F : FunAt K mg "_law_member" s_law_member) (c_law_pick : Cal P w K mg base CX0 1 "_law_pick" P_law_pick spPick) (c_law_number : Cal P w K mg base CX0 2 "_law_number" P_law_number spNumber)
    (c_law_words : Cal P w K mg base CX0 3 "_law_words" P_law_words (spWords K)) : ∀ n : Nat, Cal P w K mg base CX0 n "_law_member" P_law_member (spMember K n)
  | 0 => F.cal (fun f fd F => fn_none fun vs H Q E h => by obtain ⟨m, _, h, _⟩ := h; cases h) fun _ _ _ _ _ _ us hl => match us, hl with | [_, _], _ => rfl
  | n + 1 => by
    have c_law_member := cal_member T F c_law_pick c_law_number c_law_words n
    refine F.cal (fun f fd F => ?_) fun _ _ _ _ _ _ us hl => match us, hl with | [_, _], _ => rfl
    refine F.ok sc_law_member (fun vs H Q E h => ?_) (fun cdv A outer s H vs Q E hr h => ?_)
    · obtain ⟨m, p, _, rfl, _⟩ := h
      rfl
    obtain ⟨room, p, hm, rfl, hS, q⟩ := h
    have hm : n = room + 3 := by omega
    refine ⟨_, (pss_cons (ps_set (i := 2) sc_law_member.nd rfl (Or.inl rfl) (pc c_law_pick (hr.mono (by omega)) (pa_cons (pv 0) (pa_cons pe_int pa_nil))))
  (pss_cons (ps_if (pt_cmpR op_eq (pv 2) pe_int (nomark _)) (pss_one (ps_ret pe_non)) pss_nil)
  (pss_cons (ps_if (pt_cmpR op_eq (pv 2) pe_int (nomark _)) (pss_one (ps_ret (pe_ix ix_list (pc c_law_words (hr.mono (by omega)) (pa_cons (pv 0) (pa_cons pe_int pa_nil))) pe_int (fun _ _ => rfl)))) pss_nil)
  (pss_cons (ps_if (PW.pt (pw_and (pt_cmpR op_gt (pv 2) pe_int (nomark _)) (pw_and1 (pt_cmpR op_gt (pv 1) pe_int (nomark _))))) (pss_one (ps_ret (pe_callTy call_tuple_of (by rfl) T.tuple (by decide +kernel) (pa_cons (pe_lc (own := [("turn", 3)]) (g := gName 3) (tt := tYes) rfl sc_law_member.nd (pi_range1 rfl T.range (pa_cons (pc c_law_pick (hr.mono (by omega)) (pa_cons (pv 0) (pa_cons (pe_ifExp (pt_cmpR op_gt (pv 1) pe_int (nomark _)) pe_int pe_int) pa_nil))) pa_nil)) (blkOk_by (N := N_law_member) (sc := defScope s_law_member) (by decide +kernel)) (fun _ _ _ _ _ => pg_name (i := 3) sc_law_member.nd rfl (Or.inl rfl)) (fun _ _ _ _ _ => pts_nil) (fun _ _ _ _ _ => (pc c_law_member (hr.mono (by omega)) (pa_cons (pv 0) (pa_cons (pe_op op_sub (pv 1) pe_int) pa_nil))))) pa_nil)))) pss_nil)
  (pss_cons (ps_set (i := 4) sc_law_member.nd rfl (Or.inl rfl) (pc c_law_number (hr.mono (by omega)) (pa_cons (pv 0) (pa_cons (pe_op op_pow pe_int pe_int) pa_nil))))
  (pss_one (ps_ret (pe_ifExp (pt_cmpR op_gt (pc c_law_pick (hr.mono (by omega)) (pa_cons (pv 0) (pa_cons pe_int pa_nil))) pe_int (nomark _)) (pv 4) (pe_op op_sub (pe_un un_neg pe_int) (pv 4)))))))))), ?_⟩
    refine ⟨_, rfl, p, _, rfl, by decide, by decide, hS, fun so H1 so0 so6 s1 hS1 => ?_⟩
    refine ⟨_, rfl, rfl, _, rfl, ite2 (fun _ => ?_) fun _ => ?_⟩
    · exact q _ .none _ s1 hS1 .non (by simp [good]) (Nat.le_trans (by decide) (msz_ge room))
    refine ⟨_, rfl, rfl, _, rfl, ite2 (fun _ => ?_) fun _ => ?_⟩
    · refine ⟨_, rfl, p, rfl, hS1, fun a b d H2 s2 hS2 _ hd _ hb => ?_⟩
      refine ⟨d, _, _, .str b, rfl, rfl, SqL.of hd, rfl, ?_⟩
      have hg : isWord (TL.tl b) = true := hb.1
      refine q _ (.str b) _ (s1.trans s2) hS2 (.str b) (by cases room <;> simpa [good] using hg) ?_
      show (TL.tl b).length ≤ _
      have h1 := hb.2
      have h2 := msz_ge room
      have h3 := TL.len_tl b
      omega
    refine ⟨_, rfl, _, _, rfl, rfl, _, rfl, ?_⟩
    have rest : tSeq (tAsg (tCall spNumber [] E0 (tCons (tVar 0) (tCons (tOp (rI CPow fun i j => V.int (i ^ j.toNat)) (tC (V.int 10)) (tC (V.int 30))) tNil))) (gName 4)) (tRet (tIf
        (tTest (tOp (rI0 fun i j => V.bl (decide (j < i))) (tCall spPick [] E0 (tCons (tVar 0) (tCons (tC (V.int 3)) tNil))) (tC (V.int 0)))) (tVar 4)
        (tOp (rI0 fun i j => V.int (i - j)) (tUn (rU fun i => V.int (-i)) (tC (V.int 1))) (tVar 4)))) { nx := fun x H' => Q V.non H', rt := Q } [some (.ref p), some (.int room), some (.int so), none, none] H1 := by
      refine ⟨_, rfl, _, _, rfl, rfl, ⟨by decide, by decide, by decide⟩, p, _, rfl, by decide, hS1, fun x H2 x0 x1 s2 hS2 => ?_⟩
      have hx : x.natAbs < 10 ^ 30 := by
        have e : (10 : Int) ^ Int.toNat 30 = 1000000000000000000000000000000 := by decide
        rw [e] at x1
        have e2 : 10 ^ 30 = 1000000000000000000000000000000 := by decide
        omega
      have fin : ∀ (y : Int), y.natAbs < 10 ^ 31 → ∀ H3, Stp p H2 H3 → Src H3 p → Q (.int y) H3 := fun y hy H3 s3 hS3 => by
        have h1 := TL.numL_len (by decide) hy
        refine q _ (.int y) _ ((s1.trans s2).trans s3) hS3 (.int y) ?_ ?_
        · have : (TL.numL y.natAbs).length ≤ 1000 := by omega
          cases room <;> simpa [good] using this
        · show (intL y).length ≤ _
          have := intL_len (by decide) hy
          have := msz_ge room
          omega
      refine ⟨_, rfl, p, _, rfl, by decide, by decide, hS2, fun r H3 _ _ s3 hS3 => ⟨_, _, rfl, rfl, _, rfl, ite2 (fun _ => ?_) fun _ => ?_⟩⟩
      · exact ⟨_, rfl, fin x (Nat.lt_of_lt_of_le hx (Nat.pow_le_pow_right (by decide) (by decide))) H3 s3 hS3⟩
      · refine ⟨_, rfl, _, rfl, _, _, rfl, rfl, fin _ ?_ H3 s3 hS3⟩
        have e2 : 10 ^ 30 = 1000000000000000000000000000000 := by decide
        have e3 : 10 ^ 31 = 10000000000000000000000000000000 := by decide
        rw [e2] at hx
        rw [e3]
        omega
    refine ite2 (fun _ => ?_) fun _ => rest
    refine ⟨_, rfl, _, _, rfl, rfl, _, rfl, ite2 (fun hroom => ?_) fun _ => rest⟩
    have hroom : (0 : Int) < room := of_decide_eq_true hroom
    obtain ⟨rm, rfl⟩ : ∃ rm, room = rm + 1 := ⟨room - 1, by omega⟩
    refine ⟨_, rfl, _, rfl, _, _, rfl, rfl, _, rfl, ?_⟩
    refine ite2 (fun _ => ⟨p, _, rfl, by decide, by decide, hS1, fun r H2 r0 r1 s2 hS2 => ?_⟩) fun _ => ⟨p, _, rfl, by decide, by decide, hS1, fun r H2 r0 r1 s2 hS2 => ?_⟩
    all_goals
      have r4 : r < 4 := by omega
      have ndP : ∀ {D : Addr}, H2 D = none → H D = none := fun h => (s1.trans s2).free hS2 h
      refine ⟨_, rfl, by omega, by omega, fun D hD => lc_src src_range (fun i H' => Stp p H H' ∧ Src H' p ∧ ∃ vs ds, H' D = some (.lst vs) ∧ DtAll K H' vs ds ∧ ds.length = i ∧ goods rm ds ∧ ∀ d ∈ ds, (wr d).length ≤ msz rm)
        ⟨(s1.trans s2).new (ndP hD), hS2.same (same_new hD _), [], [], upd_same, .nil, rfl, by simp [goods], by simp⟩ (fun _ _ _ _ => trivial) (fun i v H3 hx ⟨s3, hS3, vs, ds, hv, hdt, hdl, hg, hl⟩ => ?_) fun H3 ⟨s3, hS3, vs, ds, hv, hdt, hdl, hg, hl⟩ => ?_⟩
      · refine ⟨wipe1, ?_⟩
        unfold tYes
        dsimp only
        rw [if_pos rfl]
        obtain ⟨hi, rfl⟩ := nums_inv hx
        have hi : i < 4 := by omega
        refine ⟨_, rfl, _, rfl, _, _, rfl, rfl, rm, p, by omega, ?_, hS3, fun u d H4 s4 hS4 hu hgd hwd => ?_⟩
        · have : ((rm + 1 : Nat) : Int) - 1 = (rm : Int) := by omega
          rw [← this]
          rfl
        have nDp : D ≠ p := hS2.ne hD
        have hv4 := s4 _ _ nDp hv
        have t4 := hS3.ts s4
        have t5 : TS H4 (upd H4 D (.lst (vs ++ [u]))) := TS.at hv4
        have hvl := dtAll_len hdt
        refine ⟨_, hv4, small_lt (by omega), (s3.trans s4).new (ndP hD), ?_, _, ds ++ [d], upd_same, dtAll_app (dtAll_mono (t4.trans t5) hdt) (.cons (dt_mono t5 hu) .nil), ?_, ?_, ?_⟩
        · obtain ⟨g, t, c, z⟩ := hS4
          exact ⟨g, t, c, by rw [upd_ne (Ne.symm nDp)]; exact z⟩
        · rw [List.length_append, hdl]; rfl
        · exact goods_app.mpr ⟨hg, by simp [goods, hgd]⟩
        · intro e he
          rcases List.mem_append.mp he with he | he
          · exact hl e he
          · rw [List.mem_singleton.mp he]; exact hwd
      · rw [nums_len] at hdl
        refine ⟨D, vs, rfl, .inl ⟨SqL.of hv, fun l hl2 => ?_⟩⟩
        have hw := wrs_upper ds (msz rm) hl
        have h3 : ds.length ≤ 3 := by omega
        refine q _ (.tuple ds) _ (s3.trans (Stp.of (same_new hl2 _))) (hS3.same (same_new hl2 _)) (.tup (SqT.of upd_same) (dtAll_mono (TS.of (same_new hl2 _)) hdt)) (by simpa [good] using hg) ?_
        rw [wr_tuple]
        have h4 : ds.length * (msz rm + 1) ≤ 3 * (msz rm + 1) := Nat.mul_le_mul_right _ h3
        show _ ≤ 3 * msz rm + 5
        omega
theorem cutTo_len {x : Str} {k : Nat} : (cutS x none (some (k : Int))).length ≤ k := by
  rw [TL.len_tl, cut_to, List.length_take]
  omega
theorem cutFrom_len {x : Str} {k : Nat} : (cutS x (some (k : Int)) none).length = x.length - k := by
  rw [TL.len_tl, cut_from, List.length_drop, TL.len_tl]
def spSpoilt : Sp := fun vs H Q _ => ∃ (p : Addr) (x : Str), vs = [.ref p, .str x] ∧ x.length ≤ 99990 ∧ Src H p ∧ ∀ y H', Stp p H H' → Src H' p → y.length ≤ x.length + 1 → Q (.str y) H'
theorem cal_spoilt (T : Txt K mg tS tF) (F : FunAt K mg "_law_spoilt" s_law_spoilt) (c_law_pick : Cal P w K mg base CX0 1 "_law_pick" P_law_pick spPick) : Cal P w K mg base CX0 2 "_law_spoilt" P_law_spoilt spSpoilt := by
  refine F.cal (fun f fd F => ?_) fun _ _ _ _ _ _ us hl => match us, hl with | [_, _], _ => rfl
  refine F.ok sc_law_spoilt (fun vs H Q E h => ?_) (fun cdv A outer s H vs Q E hr h => ?_)
  · obtain ⟨p, x, rfl, _⟩ := h
    rfl
  obtain ⟨p, x, rfl, hx, hS, q⟩ := h
  refine ⟨_, (pss_cons (ps_set (i := 2) sc_law_spoilt.nd rfl (Or.inl rfl) (pc c_law_pick (hr.mono (by decide)) (pa_cons (pv 0) (pa_cons (pe_op op_add (pe_callB call_len_str (by rfl) T.len (by decide +kernel) (pa_cons (pv 1) pa_nil)) pe_int) pa_nil))))
  (pss_cons (ps_set (i := 3) sc_law_spoilt.nd rfl (Or.inl rfl) (pe_ix ix_list (pe_lst (pa_cons pe_str (pa_cons pe_str (pa_cons pe_str (pa_cons pe_str (pa_cons pe_str (pa_cons pe_str (pa_cons pe_str (pa_cons pe_str (pa_cons pe_str (pa_cons pe_str (pa_cons pe_str (pa_cons pe_str pa_nil))))))))))))) (pc c_law_pick (hr.mono (by decide)) (pa_cons (pv 0) (pa_cons pe_int pa_nil))) (fun _ _ => rfl)))
  (pss_cons (ps_if (pt_cmpR op_eq (pc c_law_pick (hr.mono (by decide)) (pa_cons (pv 0) (pa_cons pe_int pa_nil))) pe_int (nomark _)) (pss_one (ps_ret (pe_op op_add_str (pe_slice sl_str (pv 1) po_none (po_some (pv 2))) (pe_slice sl_str (pv 1) (po_some (pe_op op_add (pv 2) pe_int)) po_none)))) pss_nil)
  (pss_one (ps_ret (pe_op op_add_str (pe_op op_add_str (pe_slice sl_str (pv 1) po_none (po_some (pv 2))) (pv 3)) (pe_slice sl_str (pv 1) (po_some (pe_op op_add (pv 2) (pc c_law_pick (hr.mono (by decide)) (pa_cons (pv 0) (pa_cons pe_int pa_nil))))) po_none))))))), ?_⟩
  refine ⟨_, rfl, _, rfl, x, rfl, small_of (by omega), _, _, rfl, rfl, p, _, rfl, by omega, by omega, hS, fun at' H1 a0 a1 s1 hS1 => ?_⟩
  obtain ⟨k, rfl⟩ : ∃ k : Nat, at' = (k : Int) := ⟨at'.toNat, by omega⟩
  have hk : k ≤ x.length := by omega
  refine ⟨by show 12 ≤ sizeLine; decide, fun l hl => ?_⟩
  have hsg : ∀ j : Nat, j < 12 → ∃ t, (["(", ")", " ", "-", "0", "\n", "a", "A", "_", ",", "\t", "7"] : List Str)[j]? = some t ∧ t.length = 1 := fun j hj => by
    have hall : ∀ t ∈ (["(", ")", " ", "-", "0", "\n", "a", "A", "_", ",", "\t", "7"] : List Str), t.length = 1 := by decide +kernel
    have hl : (["(", ")", " ", "-", "0", "\n", "a", "A", "_", ",", "\t", "7"] : List Str).length = 12 := rfl
    exact ⟨_, List.getElem?_eq_getElem (by rw [hl]; exact hj), hall _ (List.getElem_mem _)⟩
  have key : ∀ (sg : List Str), (∀ j : Nat, j < 12 → ∃ t, sg[j]? = some t ∧ t.length = 1) → (upd H1 l (.lst (sg.map V.str))) l = some (.lst (sg.map V.str)) → ∀ H2, Stp p (upd H1 l (.lst (sg.map V.str))) H2 → ∀ r : Int, 0 ≤ r → r < 12 → ∃ t : Str, H2 l = some (.lst (sg.map V.str)) ∧ atI (sg.map V.str) r = some (.str t) ∧ t.length = 1 := fun sg hs e H2 s2 r r0 r1 => by
    obtain ⟨t, h1, h2⟩ := hs r.toNat (by omega)
    refine ⟨t, s2 _ _ (hS1.ne hl) e, ?_, h2⟩
    rw [← Int.toNat_of_nonneg r0]
    exact atI_nat (by rw [List.getElem?_map, h1]; rfl)
  refine ⟨_, rfl, p, _, rfl, by decide, by decide, hS1.same (same_new hl _), fun r H2 r0 r1 s2 hS2 => ?_⟩
  obtain ⟨t, e2, hat, ht⟩ := key _ hsg upd_same H2 s2 r r0 r1
  have s3 : Stp p H H2 := (s1.trans (Stp.of (same_new hl _))).trans s2
  refine ⟨l, _, _, .str t, rfl, rfl, SqL.of e2, hat, ?_⟩
  have l1 := @cutTo_len x k
  refine ⟨_, rfl, p, _, rfl, by decide, by decide, hS2, fun r2 H3 _ _ s4 hS3 => ⟨rfl, _, rfl, ite2 (fun _ => ?_) fun _ => ?_⟩⟩
  · refine ⟨_, rfl, _, rfl, _, rfl, x, rfl, small_of (by omega), _, rfl, _, rfl, _, _, rfl, rfl, _, rfl, x, rfl, small_of (by omega), ?_⟩
    have l2 := @cutFrom_len x (k + 1)
    have e : ((k : Int) + 1) = ((k + 1 : Nat) : Int) := by omega
    refine ⟨_, _, rfl, rfl, ?_, q _ _ (s3.trans s4) hS3 ?_⟩
    · rw [e, l2]; exact small_of (by omega)
    · rw [Str.length_append, e, l2]; omega
  · refine ⟨_, rfl, _, rfl, _, rfl, x, rfl, small_of (by omega), _, rfl, _, _, rfl, rfl, by rw [ht]; exact small_of (by omega), ?_⟩
    refine ⟨_, rfl, _, rfl, _, rfl, p, _, rfl, by decide, by decide, hS3, fun r3 H4 r30 _ s5 hS4 => ⟨_, _, rfl, rfl, _, rfl, x, rfl, small_of (by omega), ?_⟩⟩
    obtain ⟨j, rfl⟩ : ∃ j : Nat, r3 = (j : Int) := ⟨r3.toNat, by omega⟩
    have l2 := @cutFrom_len x (k + j)
    have e : ((k : Int) + (j : Int)) = ((k + j : Nat) : Int) := by omega
    refine ⟨_, _, rfl, rfl, ?_, q _ _ ((s3.trans s4).trans s5) hS4 ?_⟩
    · rw [Str.length_append, ht, e, l2]; exact small_of (by omega)
    · rw [Str.length_append, Str.length_append, ht, e, l2]; omega
end
end K66

/-! K66W11: _law_word. -/
namespace K66
open PySem PySem.Spec PyProof.Rows L2 HR
theorem num_textA {w : Cs} (h1 : figs w ≠ []) (h2 : (figs w).length ≤ 1000) (h3 : (figs w).all dig = true) : PySem.intText? (mkS w) = some (intVal w) := by
  have h3 := allDig.mp h3
  unfold intVal
  unfold figs at h1 h2 h3
  by_cases hd : w.head? = some 45
  · rw [if_pos hd] at h1 h2 h3 ⊢
    refine PySem.intText_neg (x := mkS w) (cs := w.tail) (head45 hd) h3 h1 ?_
    show w.toArray.size ≤ 4300
    have e := congrArg List.length (head45 hd)
    rw [List.length_cons] at e
    rw [List.size_toArray]
    omega
  · rw [if_neg hd] at h1 h2 h3 ⊢
    refine PySem.intText_digits (x := mkS w) h3 h1 ?_
    show w.toArray.size ≤ 4300
    rw [List.size_toArray]
    omega
theorem flt_none (p : Nat → Bool) (x : Str) : decide (V.int ((((sgns x).filter fun v => !p (sgn v)).map fun v => v).length : Nat) = V.int 0) = (TL.tl x).all p := by
  have e : ((sgns x).filter fun v => !p (sgn v)).length = ((TL.tl x).filter fun c => !p c).length := by
    show (((TL.tl x).map fun c => V.str ⟨#[c]⟩).filter fun v => !p (sgn v)).length = _
    rw [List.filter_map, List.length_map]
    rfl
  rw [List.length_map, e, Bool.eq_iff_iff, decide_eq_true_iff, List.all_eq_true]
  constructor
  · intro h c hc
    have h2 : ((TL.tl x).filter fun c => !p c).length = 0 := by
      have := V.int.inj h
      omega
    have h3 := List.length_eq_zero_iff.mp h2
    rw [List.filter_eq_nil_iff] at h3
    have := h3 c hc
    simpa using this
  · intro h
    have : ((TL.tl x).filter fun c => !p c) = [] := by
      rw [List.filter_eq_nil_iff]
      intro c hc
      simp [h c hc]
    rw [this]; rfl
theorem isWord_dig {w : Cs} (h1 : figs w ≠ []) (h2 : (figs w).all dig = true) : isWord w = false := by
  cases w with
  | nil => rfl
  | cons c r =>
    unfold figs at h1 h2
    have hl : low c = false := by
      by_cases hc : c = 45
      · rw [hc]; decide
      · have : ¬ (c :: r).head? = some 45 := by simp [hc]
        rw [if_neg this, List.all_eq_true] at h2
        have := of_decide_eq_true (h2 c (List.mem_cons_self ..))
        unfold low
        rw [decide_eq_false_iff_not]
        omega
    show (low c && (c :: r).all fun x => low x || dig x) = false
    rw [hl]; rfl
theorem dec_one (c b : Nat) : decide (TL.tl ⟨#[c]⟩ = [b]) = decide (c = b) := by
  rw [decide_eq_decide]; exact ⟨fun h => by injection h, fun h => by rw [h, tl_one]⟩
section
variable {P : Program} {w : World} {K : PySem.W.Frag} {mg : Str → Option Value} {base : Heap} {tS tF : Tok} {C S : Addr}
def spLawWord (K : PySem.W.Frag) : Sp := fun vs H Q _ => ∃ x : Str, vs = [.str x] ∧ x.length ≤ 100000 ∧ TL.tl x ≠ [] ∧
  ∀ t v b H', Same H H' → H t = none → H' t = some (.tup [.bl b, v]) → (∀ d, readWord (TL.tl x) = some d → b = true ∧ Dt K H' v d) → (readWord (TL.tl x) = none → b = false) → Q (.ref t) H'
theorem cal_law_word (T : Txt K mg tS tF) (F : FunAt K mg "_law_word" s_law_word) : Cal P w K mg base CX0 1 "_law_word" P_law_word (spLawWord K) := by
  refine F.cal (fun f fd F => ?_) fun _ _ _ _ _ _ us hl => match us, hl with | [_], _ => rfl
  refine F.ok sc_law_word (fun vs H Q E h => ?_) (fun cdv A outer s H vs Q E hr h => ?_)
  · obtain ⟨x, rfl, _⟩ := h
    rfl
  obtain ⟨x, rfl, hz, hne, q⟩ := h
  have hz' : x.length ≤ sizeLine := small_of (by omega)
  refine ⟨_, (pss_cons (ps_set (i := 1) sc_law_word.nd rfl (Or.inl rfl) (pe_ifExp (pt_cmpR op_eq (pe_slice sl_str (pv 0) po_none (po_some pe_int)) pe_str (nomark _)) (pe_slice sl_str (pv 0) (po_some pe_int) po_none) (pv 0)))
  (pss_cons (ps_if (pt_cmpR op_eq (pv 0) pe_str (nomark _)) (pss_one (ps_ret (pe_tup (pa_cons pe_bl (pa_cons pe_non pa_nil))))) pss_nil)
  (pss_cons (ps_if (PW.pt (pw_and (pt_cmpR op_ne (pv 1) pe_str (nomark _)) (pw_and1 (pt_cmpR op_eq (pe_callB call_len_seq (by rfl) T.len (by decide +kernel) (pa_cons (pe_lc (own := [("sign", 2)]) (g := gName 2) (tt := _) rfl sc_law_word.nd (pi_str (pv 1)) (blkOk_by (N := N_law_word) (sc := defScope s_law_word) (by decide +kernel)) (fun _ _ _ _ _ => pg_name (i := 2) sc_law_word.nd rfl (Or.inl rfl)) (fun _ _ _ _ _ => pts_one (pt_cmpR op_notIn_sign (pv 2) pe_str rfl)) (fun _ _ _ _ _ => (pv 2))) pa_nil)) pe_int (nomark _))))) (pss_one (ps_ret (pe_tup (pa_cons (pe_and (pe_cmpR op_le (pe_callB call_len_str (by rfl) T.len (by decide +kernel) (pa_cons (pv 1) pa_nil)) pe_int (nomark _)) (pe_one (pe_or (pe_cmpR op_ne (pe_ix ix_str (pv 1) pe_int (fun _ _ => rfl)) pe_str (nomark _)) (pe_one (pe_cmpR op_eq (pv 0) pe_str (nomark _)))))) (pa_cons (pe_ifExp (pt_cmpR op_le (pe_callB call_len_str (by rfl) T.len (by decide +kernel) (pa_cons (pv 1) pa_nil)) pe_int (nomark _)) (pe_callTy (call_intN T.nd) (by rfl) T.int (by decide +kernel) (pa_cons (pv 0) pa_nil)) pe_int) pa_nil))))) pss_nil)
  (pss_cons (ps_set (i := 3) sc_law_word.nd rfl (Or.inl rfl) (pe_and (pe_cmpR op_ne (pv 0) pe_str (nomark _)) (pe_and (pe_cmpR op_in_sign (pe_ix ix_str (pv 0) pe_int (fun _ _ => rfl)) pe_str rfl) (pe_one (pe_cmpR op_eq (pe_callB call_len_seq (by rfl) T.len (by decide +kernel) (pa_cons (pe_lc (own := [("sign", 2)]) (g := gName 2) (tt := _) rfl sc_law_word.nd (pi_str (pv 0)) (blkOk_by (N := N_law_word) (sc := defScope s_law_word) (by decide +kernel)) (fun _ _ _ _ _ => pg_name (i := 2) sc_law_word.nd rfl (Or.inl rfl)) (fun _ _ _ _ _ => pts_one (pt_cmpR op_notIn_sign (pv 2) pe_str rfl)) (fun _ _ _ _ _ => (pv 2))) pa_nil)) pe_int (nomark _))))))
  (pss_one (ps_ret (pe_tup (pa_cons (pv 3) (pa_cons (pv 0) pa_nil))))))))), ?_⟩
  have e45 : TL.tl ("-" : Str) = [45] := by decide +kernel
  have e48 : TL.tl ("0" : Str) = [48] := by decide +kernel
  have e0 : TL.tl ("" : Str) = [] := by decide +kernel
  obtain ⟨c, r, hx⟩ : ∃ c r, TL.tl x = c :: r := by
    cases e : TL.tl x with
    | nil => exact absurd e hne
    | cons c r => exact ⟨c, r, rfl⟩
  have hl := TL.len_tl x
  have hfl : (figs (TL.tl x)).length ≤ 100000 := by
    unfold figs
    split
    · rw [List.length_tail]; omega
    · omega
  refine tIf_val (b := decide (c = 45)) (v := .str (mkS (figs (TL.tl x)))) (fun Q' q' => ?_) (fun e Q' q' => ?_) (fun e Q' q' => ?_) ?_
  · refine ⟨.str x, rfl, 1, rfl, x, rfl, hz', rfl, _, rfl, ?_⟩
    rw [eq_str, e45, show (1 : Int) = ((1 : Nat) : Int) from rfl, cut_to, hx]
    have : decide ((c :: r).take 1 = [45]) = decide (c = 45) := by rw [decide_eq_decide]; exact ⟨fun h => by injection h, fun h => by rw [h]; rfl⟩
    rw [this]
    exact q'
  · have ec : c = 45 := of_decide_eq_true e
    refine ⟨.str x, rfl, 1, rfl, x, rfl, hz', ?_⟩
    have : cutS x (some 1) none = mkS (figs (TL.tl x)) := TL.ext_tl (by
      rw [show (1 : Int) = ((1 : Nat) : Int) from rfl, cut_from, hx, ec]
      rfl)
    rw [this]
    exact q'
  · have ec : ¬ c = 45 := of_decide_eq_false e
    refine ⟨.str x, rfl, ?_⟩
    have : x = mkS (figs (TL.tl x)) := TL.ext_tl (by
      show _ = figs (TL.tl x)
      unfold figs
      rw [if_neg (by rw [hx]; intro z; injection z with z; exact ec z)])
    rw [← this] at q'
    exact q'
  have hy : TL.tl (mkS (figs (TL.tl x))) = figs (TL.tl x) := rfl
  refine ⟨_, rfl, rfl, _, rfl, ?_⟩
  rw [eq_str, e45]
  refine ite2 (fun e => ?_) fun e => ?_
  · have ew : TL.tl x = [45] := of_decide_eq_true e
    refine ⟨by show 2 ≤ sizeLine; decide, fun t ht => q t .non true _ (same_new ht _) ht upd_same (fun d hd => ⟨rfl, ?_⟩) fun hn => ?_⟩
    · rw [ew, read_none] at hd
      cases hd
      exact .non
    · rw [ew, read_none] at hn
      cases hn
  have new : TL.tl x ≠ [45] := of_decide_eq_false (Bool.eq_false_iff.mpr e)
  have hfne : figs (TL.tl x) ≠ [] := fun z => by
    unfold figs at z
    split at z
    · rename_i h
      have := head45 h
      rw [z] at this
      exact new this
    · exact hne z
  refine ⟨_, rfl, rfl, _, rfl, ?_⟩
  rw [eq_str, e0, hy, decide_eq_false hfne]
  refine iteT ⟨_, rfl, _, rfl, fun D hD => lc_fm src_str (fun v => !dig (sgn v)) (fun v => v) hD (by rw [sgns_len, mkS_len]; exact small_lt (by omega)) (fun _ _ => trivial) (fun i v H Q hv s k => ?_) (fun i v H Q hv _ s k => ?_) fun H1 s1 h1 => ?_⟩
  · obtain ⟨c, rfl, hc⟩ := sign_at hv
    refine ⟨_, rfl, c, figures, rfl, rfl, _, rfl, ?_⟩
    rw [mem_figures]
    have z := k H (Same.refl _)
    rw [hc] at z
    exact z
  · exact ⟨_, rfl, k H (Same.refl _)⟩
  refine ⟨D, _, rfl, .inl (SqL.of h1), rfl, _, rfl, ?_⟩
  rw [flt_none, hy]
  refine ite2 (fun hall => ?_) fun hall => ?_
  · -- figures alone
    have hnw := isWord_dig hfne hall
    obtain ⟨c', r', hf⟩ : ∃ c' r', figs (TL.tl x) = c' :: r' := by
      cases e : figs (TL.tl x) with
      | nil => exact absurd e hfne
      | cons c' r' => exact ⟨c', r', rfl⟩
    have hrd : readWord (TL.tl x) = if isNumber (TL.tl x) = true then some (.int (intVal (TL.tl x))) else none := by
      unfold readWord
      rw [if_neg new, hnw]
      simp
    refine ⟨_, rfl, _, rfl, by rw [mkS_len]; exact small_of (by omega), _, _, rfl, rfl, _, rfl, ite2 (fun h1000 => ?_) fun h1000 => ?_⟩
    · have h1000 : ((mkS (figs (TL.tl x))).length : Int) ≤ 1000 := of_decide_eq_true h1000
      rw [mkS_len] at h1000
      have h10 : (figs (TL.tl x)).length ≤ 1000 := by omega
      have fin : ∀ b : Bool, b = isNumber (TL.tl x) → tCons (tC (.bl b)) (tCons (tIf (tTest (tOp (rI0 fun i j => V.bl (decide (i ≤ j))) (tCB (fun xs H Q => ∃ z, xs = [V.str z] ∧ z.length ≤ sizeLine ∧ Q (V.int ↑z.length) H) (tCons (tVar 1) tNil)) (tC (V.int 1000))))
          (tCB (fun xs H Q => ∃ a n, xs = [V.str a] ∧ PySem.intText? a = some n ∧ a.length ≤ 4300 ∧ Q (V.int n) H) (tCons (tVar 0) tNil)) (tC (V.int 0))) tNil) [some (.str x), some (.str (mkS (figs (TL.tl x)))), none, none] H1
          (fun xs H1 => xs.length ≤ sizeLine ∧ ∀ p, H1 p = none → Q (.ref p) (upd H1 p (.tup xs))) := fun b hb => by
        refine ⟨_, rfl, _, rfl, by rw [mkS_len]; exact small_of (by omega), _, _, rfl, rfl, _, rfl, ite2 (fun _ => ?_) fun e => absurd (decide_eq_true (by rw [mkS_len]; omega)) e⟩
        have hI := num_textA hfne h10 hall
        rw [mkS_tl] at hI
        refine ⟨_, rfl, x, _, rfl, hI, ?_, by show 2 ≤ sizeLine; decide, fun t ht => ?_⟩
        · rw [hl]
          have h3 := h10
          unfold figs at h3
          split at h3
          · rw [List.length_tail] at h3; omega
          · omega
        refine q t _ b _ (s1.trans (same_new ht _)) (s1.free ht) upd_same (fun d hd => ?_) fun hn => ?_
        · rw [hrd, ← hb] at hd
          cases b with
          | true => cases hd; exact ⟨rfl, .int _⟩
          | false => simp at hd
        · rw [hrd, ← hb] at hn
          cases b with
          | true => simp at hn
          | false => rfl
      have hnum : isNumber (TL.tl x) = (!decide (c' = 48) || decide (TL.tl x = [48])) := by
        unfold isNumber
        rw [decide_eq_true hfne, decide_eq_true h10, hall, hf]
        simp
      refine ⟨_, rfl, _, 0, c', rfl, rfl, by rw [mkS_len]; exact small_of (by omega), head_at hf, rfl, _, rfl, ?_⟩
      rw [eq_str, e48, dec_one]
      refine ite2 (fun h => ?_) fun h => ?_
      · exact fin true (by rw [hnum, h]; rfl)
      · refine ⟨_, rfl, rfl, ?_⟩
        rw [eq_str, e48]
        refine fin _ ?_
        rw [hnum, Bool.eq_false_iff.mpr h]
        rfl
    · have h1000 : ¬ ((mkS (figs (TL.tl x))).length : Int) ≤ 1000 := of_decide_eq_false (Bool.eq_false_iff.mpr h1000)
      have hno : isNumber (TL.tl x) = false := by
        rw [mkS_len] at h1000
        have : ¬ (figs (TL.tl x)).length ≤ 1000 := by omega
        unfold isNumber
        rw [decide_eq_false this]
        simp
      refine ⟨_, rfl, _, rfl, by rw [mkS_len]; exact small_of (by omega), _, _, rfl, rfl, _, rfl, ite2 (fun e => absurd (of_decide_eq_true e) h1000) fun _ => ?_⟩
      refine ⟨by show 2 ≤ sizeLine; decide, fun t ht => ?_⟩
      refine q t _ false _ (s1.trans (same_new ht _)) (s1.free ht) upd_same (fun d hd => ?_) fun _ => rfl
      rw [hrd, hno] at hd
      simp at hd
  · have hno : isNumber (TL.tl x) = false := by
      unfold isNumber
      rw [Bool.eq_false_iff.mpr hall]
      simp
    have hw : isWord (TL.tl x) = (low c && (TL.tl x).all fun c => low c || dig c) := by rw [hx]; rfl
    have hrd : readWord (TL.tl x) = if isWord (TL.tl x) = true then some (.str x) else none := by
      unfold readWord
      rw [if_neg new, hno, mkS_tl]
      simp
    have fin : ∀ H2, Same H1 H2 → ∀ b : Bool, b = isWord (TL.tl x) → tRet (tTup (tCons (tVar 3) (tCons (tVar 0) tNil))) { nx := fun x H' => Q V.non H', rt := Q } [some (.str x), some (.str (mkS (figs (TL.tl x)))), none, some (.bl b)] H2 := fun H2 s2 b hb => by
      refine ⟨_, rfl, _, rfl, by show 2 ≤ sizeLine; decide, fun t ht => ?_⟩
      refine q t _ b _ ((s1.trans s2).trans (same_new ht _)) ((s1.trans s2).free ht) upd_same (fun d hd => ?_) fun hn => ?_
      · rw [hrd, ← hb] at hd
        cases b with
        | true => cases hd; exact ⟨rfl, .str _⟩
        | false => simp at hd
      · rw [hrd, ← hb] at hn
        cases b with
        | true => simp at hn
        | false => rfl
    refine ⟨_, rfl, rfl, _, rfl, ?_⟩
    rw [eq_str, e0, decide_eq_false hne]
    refine iteT ⟨_, rfl, x, 0, c, rfl, rfl, hz', head_at hx, c, small, rfl, rfl, _, rfl, ?_⟩
    rw [mem_small]
    refine ite2 (fun hc => ?_) fun hc => ?_
    · refine ⟨_, rfl, x, rfl, fun D2 hD2 => lc_fm src_str (fun v => !(low (sgn v) || dig (sgn v))) (fun v => v) hD2 (by rw [sgns_len]; exact small_lt (by omega)) (fun _ _ => trivial) (fun i v H Q hv s k => ?_) (fun i v H Q hv _ s k => ?_) fun H2 s2 h2 => ?_⟩
      · obtain ⟨c, rfl, hc⟩ := sign_at hv
        refine ⟨_, rfl, c, _, rfl, rfl, _, rfl, ?_⟩
        have e : (Str.ofString "abcdefghijklmnopqrstuvwxyz0123456789") = small ++ figures := by decide +kernel
        rw [e, mem_both]
        have z := k H (Same.refl _)
        rw [hc] at z
        exact z
      · exact ⟨_, rfl, k H (Same.refl _)⟩
      refine ⟨D2, _, rfl, .inl (SqL.of h2), rfl, ?_⟩
      rw [flt_none (fun c => low c || dig c)]
      exact fin H2 s2 _ (by rw [hw, hc]; rfl)
    · exact fin H1 (Same.refl _) false (by rw [hw, Bool.eq_false_iff.mpr hc]; rfl)
end
end K66

/-! K66W12: _law_line. -/
namespace HR
open PySem PySem.Spec PyProof.Rows L2
/-- xs == [] of lists -/
theorem op_eqE {X : Cx} (hu : X.A.units < cLine) : OpR X (compareOp .Eq) (fun x y H Q => ∃ a b xs, x = .ref a ∧ y = .ref b ∧ SqL X.K H a xs ∧ SqL X.K H b [] ∧ Q (.bl (decide (xs = []))) H) := by
  intro pins s σ H x y v u Q I rx ry h
  obtain ⟨a, b, xs, rfl, rfl, ha, hb, q⟩ := h
  cases rx
  cases ry
  obtain ⟨its, rv, hl, _⟩ := I.list ha
  obtain ⟨its2, rv2, hl2, _⟩ := I.list hb
  cases rv2
  have hlen := rv.length
  by_cases e : xs = []
  · subst e
    cases rv
    refine SeqAt.eq_listAt (e := fun _ => true) hl.isList hl2.isList rfl hu (fun j h1 h2 => absurd h1 (by simp)) ?_
    exact ⟨.bl _, H, I, rfl, q⟩
  · rw [decide_eq_false e] at q
    refine SeqAt.eq_list_lengthsAt hl.isList hl2.isList ?_ hu ⟨.bl _, H, I, rfl, q⟩
    have : its.length ≠ 0 := fun z => e (List.length_eq_zero_iff.mp (by omega))
    simp only [bne_iff_ne, ne_eq, List.size_toArray, List.length_nil]
    exact this
end HR
namespace K66
open PySem PySem.Spec PyProof.Rows L2 HR
/-! the law's tokens: spaces put in, split, the empty ones left out -/
def rep (c : Nat) (l : Cs) : Cs := l.flatMap fun x => if x = c then [32, c, 32] else [x]
theorem replL_one (c : Nat) (z : Cs) : ∀ l : Cs, PySem.StrLaws.replL [c] z l = l.flatMap fun x => if x = c then z else [x]
  | [] => PySem.StrLaws.replL_nil
  | x :: r => by
    by_cases h : x = c
    · subst h
      rw [PySem.StrLaws.replL_hit (by simp) (by simp), List.flatMap_cons, if_pos rfl]
      have e : (x :: r).drop [x].length = r := rfl
      rw [e, replL_one x z r]
    · rw [PySem.StrLaws.replL_miss (by simpa using h), List.flatMap_cons, if_neg h, replL_one c z r]
      rfl
theorem law_toks (l : Cs) : ∀ w : Cs, (∀ c ∈ w, c ≠ 32) → (TL.spl [32] 0 w (rep 41 (rep 40 l))).filter (fun t => decide (t ≠ [])) = toksGo w l := by
  have flt : ∀ (w : Cs) (r : List Cs), (w :: r).filter (fun t => decide (t ≠ [])) = put w ++ r.filter fun t => decide (t ≠ []) := fun w r => by
    unfold put
    by_cases h : w = []
    · rw [if_pos h, List.filter_cons_of_neg (by simp [h])]; rfl
    · rw [if_neg h, List.filter_cons_of_pos (by simp [h])]; rfl
  have hit : ∀ (w r : Cs), TL.spl [32] 0 w (32 :: r) = w :: TL.spl [32] 0 [] r := fun w r => by
    rw [TL.spl_hit (by simp [TL.pre])]
    rfl
  have miss : ∀ (w r : Cs) (c : Nat), c ≠ 32 → TL.spl [32] 0 w (c :: r) = TL.spl [32] 0 (w ++ [c]) r := fun w r c h => TL.spl_miss (by simp [TL.pre]; exact h)
  induction l with
  | nil =>
    intro w _
    show (TL.spl [32] 0 w []).filter _ = toksGo w []
    rw [TL.spl_nil, flt, toksGo]
    simp
  | cons c r ih =>
    intro w hw
    by_cases h40 : c = 40
    · subst h40
      have e : rep 41 (rep 40 (40 :: r)) = 32 :: 40 :: 32 :: rep 41 (rep 40 r) := by simp [rep]
      rw [e, hit, flt, miss _ _ _ (by decide), hit, flt, ih [] (by simp), toksGo, if_pos (.inl rfl)]
      rfl
    by_cases h41 : c = 41
    · subst h41
      have e : rep 41 (rep 40 (41 :: r)) = 32 :: 41 :: 32 :: rep 41 (rep 40 r) := by simp [rep]
      rw [e, hit, flt, miss _ _ _ (by decide), hit, flt, ih [] (by simp), toksGo, if_pos (.inr rfl)]
      rfl
    have e : rep 41 (rep 40 (c :: r)) = c :: rep 41 (rep 40 r) := by simp [rep, h40, h41]
    rw [e, toksGo, if_neg (by omega)]
    by_cases h32 : c = 32
    · subst h32
      rw [hit, flt, ih [] (by simp), if_pos rfl]
    · rw [miss _ _ _ h32, if_neg h32, ih (w ++ [c]) ?_]
      intro x hx
      rcases List.mem_append.mp hx with h | h
      · exact hw x h
      · rw [List.mem_singleton.mp h]; exact h32
theorem spl_sum (s : Nat) (t : Cs) : (TL.spl [s] 0 [] t).length ≤ t.length + 1 := by
  have key : ∀ (l acc : Cs), (TL.spl [s] 0 acc l).length ≤ l.length + 1 := by
    intro l
    induction l with
    | nil => intro acc; rw [TL.spl_nil]; simp
    | cons c r ih =>
      intro acc
      cases h : TL.pre [s] (c :: r) with
      | true =>
        rw [TL.spl_hit h]
        have := ih []
        have e : TL.spl [s] ([s].length - 1) [] r = TL.spl [s] 0 [] r := rfl
        rw [e, List.length_cons, List.length_cons]
        omega
      | false =>
        rw [TL.spl_miss h]
        have := ih (acc ++ [c])
        rw [List.length_cons]
        omega
  exact key t []
theorem tok_list {ys : List Str} {ts : List Cs} (h : (ys.map TL.tl).filter (fun t => decide (t ≠ [])) = ts) : ((ys.map V.str).filter fun v => decide (v ≠ V.str (Str.ofString ""))).map (fun v => v) = tokV ts := by
  have e0 : TL.tl (Str.ofString "") = [] := by decide +kernel
  rw [← h, List.map_id'', List.filter_map, List.filter_map, tokV, List.map_map]
  · have e1 : (fun v => decide (v ≠ V.str (Str.ofString ""))) ∘ V.str = (fun t => decide (t ≠ [])) ∘ TL.tl := by
      funext y
      show decide (V.str y ≠ V.str (Str.ofString "")) = decide (TL.tl y ≠ [])
      rw [decide_eq_decide]
      constructor
      · intro a b
        exact a (by rw [TL.ext_tl (b.trans e0.symm)])
      · intro a b
        rw [V.str.inj b] at a
        exact a e0
    rw [e1]
    refine List.map_congr_left fun y _ => ?_
    show V.str y = V.str (mkS (TL.tl y))
    rw [mkS_tl]
  · exact fun _ => rfl
/-! what is read is good -/
theorem good_leaf {n : Nat} {w : Cs} {d : D} (h : readWord w = some d) : good n d := by
  unfold readWord at h
  split at h
  · cases h; simp [good]
  · split at h
    · rename_i hn
      cases h
      have hb := num_back hn
      have h3 := (isNumber_iff.mp hn).2.1
      have : (TL.numL (intVal w).natAbs).length ≤ 1000 := by
        unfold figs at h3
        unfold intL at hb
        split at hb
        · rw [← hb] at h3
          simpa using h3
        · rename_i hi
          split at h3
          · rename_i h45
            have e := congrArg List.length hb
            have e2 : TL.numL (intVal w).natAbs = w := hb
            rw [e2]
            have := congrArg List.length (head45 h45)
            rw [List.length_cons] at this
            have hd := TL.numL_digits (intVal w).natAbs
            rw [e2, head45 h45] at hd
            have := hd 45 (List.mem_cons_self ..)
            omega
          · rw [hb]; exact h3
      cases n <;> simpa [good] using this
    · split at h
      · rename_i hw
        cases h
        have hw : isWord (TL.tl (mkS w)) = true := hw
        cases n <;> simpa [good] using hw
      · cases h
def SG : List (List D) → Prop
  | [] => True
  | b :: bs => goods (11 - bs.length) b ∧ SG bs
theorem step_SG {st st' : Stk} {t : Cs} (h : step st t = some st') (hs : SG (st.1 :: st.2)) (hl : st.2.length ≤ 11) : SG (st'.1 :: st'.2) ∧ st'.2.length ≤ 11 := by
  unfold step at h
  split at h
  · split at h
    · cases h
    · rename_i hn
      cases h
      refine ⟨⟨by simp [goods], hs⟩, ?_⟩
      show st.2.length + 1 ≤ 11
      omega
  · split at h
    · split at h
      · cases h
      · rename_i b bs hb
        cases h
        rw [hb] at hs hl
        obtain ⟨h1, h2, h3⟩ := hs
        rw [List.length_cons] at hl h1
        refine ⟨⟨goods_app.mpr ⟨h2, ?_⟩, h3⟩, by show bs.length ≤ 11; omega⟩
        obtain ⟨k, hk⟩ : ∃ k, 11 - bs.length = k + 1 := ⟨11 - bs.length - 1, by omega⟩
        rw [hk]
        have e : 11 - (bs.length + 1) = k := by omega
        rw [e] at h1
        simp [goods, good, h1]
    · cases hr : readWord t with
      | none => rw [hr] at h; cases h
      | some m =>
        rw [hr] at h
        cases h
        obtain ⟨h1, h2⟩ := hs
        exact ⟨⟨goods_app.mpr ⟨h1, by simp [goods, good_leaf hr]⟩, h2⟩, hl⟩
theorem run_SG : ∀ (ts : List Cs) (st st' : Stk), runS st ts = some st' → SG (st.1 :: st.2) → st.2.length ≤ 11 → SG (st'.1 :: st'.2) ∧ st'.2.length ≤ 11
  | [], st, st', h, a, b => by
    cases h
    exact ⟨a, b⟩
  | t :: r, st, st', h, a, b => by
    rw [runS] at h
    cases hs : step st t with
    | none => rw [hs] at h; cases h
    | some st2 =>
      rw [hs] at h
      obtain ⟨a2, b2⟩ := step_SG hs a b
      exact run_SG r st2 st' h a2 b2
theorem read_good {ts : List Cs} {row : List D} (h : readToks ts = some row) : goods 11 row := by
  unfold readToks at h
  split at h
  · rename_i row' e
    cases h
    exact (run_SG ts ([], []) _ e ⟨by simp [goods], trivial⟩ (Nat.zero_le _)).1.1
  · cases h
theorem read_len {l : Cs} {row : List D} (h : readToks (toks l) = some row) : (wrs row).length ≤ 2 * l.length := by
  have h1 := (readToks_inv h).1
  have h2 := lineOf_len (toks l)
  have h3 := toks_sum l
  rw [h1] at h2
  omega
section
variable {P : Program} {w : World} {K : PySem.W.Frag} {mg : Str → Option Value} {base : Heap} {tS tF : Tok} {C S : Addr}
def spLawLine (K : PySem.W.Frag) : Sp := fun vs H Q _ => ∃ x : Str, vs = [.str x] ∧ x.length ≤ 100000 ∧
  (∀ row, lawLine (TL.tl x) = some row → ∀ v H', Same H H' → Dt K H' v (.tuple row) → Q v H') ∧ (lawLine (TL.tl x) = none → ∀ H', Same H H' → Q .non H')
theorem cal_law_line (T : Txt K mg tS tF) (F : FunAt K mg "_law_line" s_law_line) (c_law_word : Cal P w K mg base CX0 1 "_law_word" P_law_word (spLawWord K)) (c_law_written : Cal P w K mg base CX0 13 "_law_written" P_law_written (spText_law_written K 13)) :
    Cal P w K mg base CX0 14 "_law_line" P_law_line (spLawLine K) := by
  refine F.cal (fun f fd F => ?_) fun _ _ _ _ _ _ us hl => match us, hl with | [_], _ => rfl
  refine fun_okT F sc_law_line (by decide +kernel) (by decide) (fun vs H Q E h => ?_) (fun cdv A outer s H vs Q E hr h => ?_)
  · obtain ⟨x, rfl, _⟩ := h
    rfl
  obtain ⟨x, rfl, hz, q1, q2⟩ := h
  refine ⟨_, (L2.psst_cons (L2.PST.of (ps_set (i := 1) sc_law_line.nd rfl (Or.inl rfl) (pe_lst (pa_cons (pe_lst pa_nil) pa_nil)))) (L2.psst_cons (pst_set (i := 2) sc_law_line.nd rfl (Or.inl rfl) (pet_split (CwR.pet_replT (CwR.pet_replC (pv 0) (by decide +kernel)) (by decide +kernel)) pe_str)) (L2.PSsT.of (pss_cons (ps_for PassesOwn.never rfl (pi_list (pe_lc (own := [("one", 4)]) (g := gName 4) (tt := _) rfl sc_law_line.nd (pi_list (pv 2)) (blkOk_by (N := N_law_line) (sc := defScope s_law_line) (by decide +kernel)) (fun _ _ _ _ _ => pg_name (i := 4) sc_law_line.nd rfl (Or.inl rfl)) (fun _ _ _ _ _ => pts_one (pt_cmpR op_ne (pv 4) pe_str (nomark _))) (fun _ _ _ _ _ => (pv 4)))) (pg_name (i := 3) sc_law_line.nd rfl (Or.inl rfl)) (pss_one (ps_if (pt_cmpR op_eq (pv 3) pe_str (nomark _)) (pss_cons (ps_expr (pe_bm PySem.F.plainAttrs_list PySem.F.slot_list_append PySem.F.type_list_append mt_append (pv 1) (pa_cons (pe_lst pa_nil) pa_nil)))
  (pss_one (ps_if (pt_cmpR op_gt (pe_callB call_len_seq (by rfl) T.len (by decide +kernel) (pa_cons (pv 1) pa_nil)) pe_int (nomark _)) (pss_one (ps_ret pe_non)) pss_nil))) (pss_one (ps_if (pt_cmpR op_eq (pv 3) pe_str (nomark _)) (pss_cons (ps_if (pt_cmpR op_eq (pe_callB call_len_seq (by rfl) T.len (by decide +kernel) (pa_cons (pv 1) pa_nil)) pe_int (nomark _)) (pss_one (ps_ret pe_non)) pss_nil)
  (pss_cons (ps_set (i := 5) sc_law_line.nd rfl (Or.inl rfl) (pe_callTy call_tuple_of (by rfl) T.tuple (by decide +kernel) (pa_cons (pe_bm0 PySem.F.plainAttrs_list PySem.F.slot_list_pop PySem.F.type_list_pop mt_pop (pv 1)) pa_nil)))
  (pss_one (ps_expr (pe_bm PySem.F.plainAttrs_list PySem.F.slot_list_append PySem.F.type_list_append mt_append (pe_ix ix_list (pv 1) (pe_un un_neg pe_int) (fun _ _ => rfl)) (pa_cons (pv 5) pa_nil)))))) (pss_cons (ps_asg (pc c_law_word (hr.mono (by decide)) (pa_cons (pv 3) pa_nil)) (pg_tup rfl (pgs_cons (pg_name (i := 6) sc_law_line.nd rfl (Or.inl rfl)) (pgs_cons (pg_name (i := 7) sc_law_line.nd rfl (Or.inl rfl)) pgs_nil))))
  (pss_cons (ps_if (pt_not (pt_val (pv 6))) (pss_one (ps_ret pe_non)) pss_nil)
  (pss_one (ps_expr (pe_bm PySem.F.plainAttrs_list PySem.F.slot_list_append PySem.F.type_list_append mt_append (pe_ix ix_list (pv 1) (pe_un un_neg pe_int) (fun _ _ => rfl)) (pa_cons (pv 7) pa_nil)))))))))))
  (pss_cons (ps_if (PW.pt (pw_or (pt_cmpR op_gt (pe_callB call_len_seq (by rfl) T.len (by decide +kernel) (pa_cons (pv 1) pa_nil)) pe_int (nomark _)) (pw_or1 (pt_cmpR (op_eqE (Nat.lt_of_le_of_lt (Nat.le_add_right _ _) hr.units)) (pe_ix ix_list (pv 1) pe_int (fun _ _ => rfl)) (pe_lst pa_nil) (nomark _))))) (pss_one (ps_ret pe_non)) pss_nil)
  (pss_cons (ps_set (i := 8) sc_law_line.nd rfl (Or.inl rfl) (pe_callTy call_tuple_of (by rfl) T.tuple (by decide +kernel) (pa_cons (pe_ix ix_list (pv 1) pe_int (fun _ _ => rfl)) pa_nil)))
  (pss_one (ps_ret (pe_ifExp (pt_cmpR op_eq (pe_slice sl_str (pc c_law_written (hr.mono (by decide)) (pa_cons (pv 8) pa_nil)) (po_some pe_int) (po_some (pe_un un_neg pe_int))) (pv 0) (nomark _)) (pv 8) pe_non))))))))), ?_⟩
  have hl := TL.len_tl x
  have e40 : TL.tl ("(" : Str) = [40] := by decide +kernel
  have e41 : TL.tl (")" : Str) = [41] := by decide +kernel
  have e32 : TL.tl (" " : Str) = [32] := by decide +kernel
  have e0 : TL.tl ("" : Str) = [] := by decide +kernel
  have er40 : TL.tl (" ( " : Str) = [32, 40, 32] := by decide +kernel
  have er41 : TL.tl (" ) " : Str) = [32, 41, 32] := by decide +kernel
  refine ⟨Nat.zero_le _, fun a0 ha0 => ⟨by show 1 ≤ sizeLine; decide, fun R hR => ?_⟩⟩
  have hR0 : H R = none := (same_new ha0 _).free hR
  have naR : a0 ≠ R := ne_of_none (H := upd H a0 (.lst [])) upd_same hR
  have sR : Same H (upd (upd H a0 (.lst [])) R (.lst [.ref a0])) := (same_new ha0 _).trans (same_new hR _)
  have eR : (upd (upd H a0 (.lst [])) R (.lst [.ref a0])) R = some (.lst [.ref a0]) := upd_same
  have ea0 : (upd (upd H a0 (.lst [])) R (.lst [.ref a0])) a0 = some (.lst []) := by rw [upd_ne naR, upd_same]
  generalize upd (upd H a0 (.lst [])) R (.lst [.ref a0]) = HA at sR eR ea0
  have l3 : (Str.ofString " ( ").length = 3 := by decide +kernel
  have l3b : (Str.ofString " ) ").length = 3 := by decide +kernel
  have hrl := TK.replace_len x (Str.ofString "(") (Str.ofString " ( ")
  rw [l3] at hrl
  have hrl2 := TK.replace_len (Txt.replace x (Str.ofString "(") (Str.ofString " ( ")) (Str.ofString ")") (Str.ofString " ) ")
  rw [l3b] at hrl2
  refine ⟨_, rfl, x, rfl, by rw [l3]; omega, _, rfl, by rw [l3b]; omega, ⟨_, rfl⟩, _, _, rfl, rfl, by decide +kernel, Nat.le_trans (by omega : _ ≤ 2000000) (by decide), fun p hp => ?_⟩
  have hrt : TL.tl (Txt.replace (Txt.replace x (Str.ofString "(") (Str.ofString " ( ")) (Str.ofString ")") (Str.ofString " ) ")) = rep 41 (rep 40 (TL.tl x)) := by
    have h1 : TL.tl (Txt.replace x (Str.ofString "(") (Str.ofString " ( ")) = rep 40 (TL.tl x) := by
      show (Txt.replace x (Str.ofString "(") (Str.ofString " ( ")).cps.toList = _
      rw [PySem.StrLaws.replace_list (by decide +kernel)]
      show PySem.StrLaws.replL (TL.tl (Str.ofString "(")) (TL.tl (Str.ofString " ( ")) (TL.tl x) = _
      rw [e40, er40, replL_one]; rfl
    show (Txt.replace (Txt.replace x (Str.ofString "(") (Str.ofString " ( ")) (Str.ofString ")") (Str.ofString " ) ")).cps.toList = _
    rw [PySem.StrLaws.replace_list (by decide +kernel)]
    show PySem.StrLaws.replL (TL.tl (Str.ofString ")")) (TL.tl (Str.ofString " ) ")) (TL.tl (Txt.replace x (Str.ofString "(") (Str.ofString " ( "))) = _
    rw [e41, er41, h1, replL_one]; rfl
  have hsp : (Txt.split (Txt.replace (Txt.replace x (Str.ofString "(") (Str.ofString " ( ")) (Str.ofString ")") (Str.ofString " ) ")) (Str.ofString " ")).map TL.tl = TL.spl [32] 0 [] (rep 41 (rep 40 (TL.tl x))) := by
    rw [TL.split_spl _ _ (by rw [e32]; simp) (TL.kind_ok (by decide +kernel)), e32, hrt]
  have hyl : (Txt.split (Txt.replace (Txt.replace x (Str.ofString "(") (Str.ofString " ( ")) (Str.ofString ")") (Str.ofString " ) ")) (Str.ofString " ")).length ≤ 1700000 := by
    have h1 := spl_sum 32 (rep 41 (rep 40 (TL.tl x)))
    rw [← hsp, List.length_map, ← hrt, ← TL.len_tl] at h1
    omega
  generalize Txt.split (Txt.replace (Txt.replace x (Str.ofString "(") (Str.ofString " ( ")) (Str.ofString ")") (Str.ofString " ) ")) (Str.ofString " ") = ys at hsp hyl
  have sP : Same HA (upd HA p (.lst (ys.map V.str))) := same_new hp _
  have eP : (upd HA p (.lst (ys.map V.str))) p = some (.lst (ys.map V.str)) := upd_same
  generalize upd HA p (.lst (ys.map V.str)) = HB at sP eP
  refine ⟨_, rfl, p, rfl, ⟨_, SqL.of eP⟩, fun Dd hD => lc_fm (src_list (K := K)) (fun v => decide (v ≠ V.str (Str.ofString ""))) (fun v => v) hD ?_ (fun H' s => SqL.of (s _ _ eP)) (fun i v H Q hv s k => ?_) (fun i v H Q hv _ s k => ?_) fun H4 s4 h4 => ?_⟩
  · rw [List.length_map]
    exact Nat.lt_of_le_of_lt hyl (by decide)
  · refine ⟨_, rfl, ?_, _, rfl, ?_⟩
    · rw [List.getElem?_map] at hv
      obtain ⟨y, _, rfl⟩ := Option.map_eq_some_iff.mp hv
      rfl
    · have z := k H (Same.refl _)
      rw [show decide (v ≠ V.str (Str.ofString "")) = !decide (v = V.str (Str.ofString "")) from decide_not] at z
      exact z
  · exact ⟨_, rfl, k H (Same.refl _)⟩
  rw [tok_list (hsp ▸ law_toks (TL.tl x) [] (by simp))] at h4
  have htok : ∀ {i : Nat} {t : Cs}, (toks (TL.tl x))[i]? = some t → t ≠ [] ∧ t.length ≤ 100000 := fun {i t} h => by
    have := tok_ok h
    exact ⟨this.1, by omega⟩
  have hsum := toks_sum (TL.tl x)
  have hll : lawLine (TL.tl x) = match readToks (toks (TL.tl x)) with | none => none | some row => if row = [] then none else if wrs row = TL.tl x then some row else none := rfl
  have hrlen : ∀ row, readToks (toks (TL.tl x)) = some row → (wrs row).length ≤ 2 * (TL.tl x).length := fun row h => read_len h
  have h4 : H4 Dd = some (.lst (tokV (toks (TL.tl x)))) := h4
  generalize toks (TL.tl x) = ts at *
  -- the ground: H and the list of tokens
  have hD0 : H Dd = none := sR.free (sP.free hD)
  have e1 : (upd H Dd (.lst (tokV ts))) Dd = some (.lst (tokV ts)) := upd_same
  have s1 : Same H (upd H Dd (.lst (tokV ts))) := same_new hD0 _
  have nRD : R ≠ Dd := ne_of_none (sP _ _ eR) hD
  have naD : a0 ≠ Dd := ne_of_none (sP _ _ ea0) hD
  have hR1 : (upd H Dd (.lst (tokV ts))) R = none := by rw [upd_ne nRD]; exact hR0
  have ha1 : (upd H Dd (.lst (tokV ts))) a0 = none := by rw [upd_ne naD]; exact ha0
  have sH : Same (upd H Dd (.lst (tokV ts))) H4 := fun b o z => by
    by_cases hb : b = Dd
    · subst hb
      rw [upd_same] at z
      rw [h4]; exact z
    · rw [upd_ne hb] at z
      exact s4 _ _ (sP _ _ (sR _ _ z))
  have eR4 := s4 _ _ (sP _ _ eR)
  have ea4 := s4 _ _ (sP _ _ ea0)
  generalize upd H Dd (.lst (tokV ts)) = H1 at e1 s1 hR1 ha1 sH
  have lt : ∀ {m : Nat}, m ≤ 300000 → m < sizeLine := fun h => small_lt (by omega)
  have bad : ∀ (i : Nat) (H2 : Hp), Same H1 H2 → runS ([], []) (ts.take i) = none → Q .non H2 := fun i H2 s2 hno => q2 (by rw [hll, pfx_none hno]) H2 (s1.trans s2)
  refine ⟨Dd, rfl, ⟨_, SqL.of h4⟩, for_src (src_list (K := K)) (fun i σ H' => Same H1 H' ∧ ∃ st, runS ([], []) (ts.take i) = some st ∧ StkAt K H1 H' R st ∧ (∀ row ∈ rowsOf st, row.length ≤ i) ∧ st.2.length ≤ 11 ∧
      ∃ v3 v5 v6 v7, σ = [some (.str x), some (.ref R), some (.ref p), v3, none, v5, v6, v7, none]) ⟨sH, ([], []), rfl, ⟨[a0], eR4, hR1, by simp, by simp; exact naR.symm, by simp; exact ha1, ?_⟩, by simp [rowsOf], by simp, none, none, none, none, rfl⟩
      (fun i σ H' _ h => SqL.of (h.1 _ _ e1)) (fun i v σ H' hx ⟨sm, st, hrun, hst, hlen, h11, v3, v5, v6, v7, eσ⟩ => ?_) fun σ H' ⟨sm, st, hrun, hst, hlen, h11, v3, v5, v6, v7, eσ⟩ => ?_⟩
  · have : LR K H4 ([] ++ [a0]) ([] ++ [[]]) := LR.snoc ⟨rfl, fun i a r h => by simp at h⟩ (vs := []) ea4 .nil
    exact this
  · subst eσ
    obtain ⟨as, hRl, hR0', hnd, hRas, hfr, hLR⟩ := hst.ex
    have hi : i < ts.length := by
      have := (List.getElem?_eq_some_iff.mp hx).1
      rwa [List.length_map] at this
    obtain ⟨t, ht⟩ : ∃ t, ts[i]? = some t := ⟨ts[i], List.getElem?_eq_getElem hi⟩
    rw [List.getElem?_map, ht] at hx
    cases hx
    have hnext := pfx ht hrun
    have hal : as.length = st.2.length + 1 := by rw [hLR.len]; unfold rowsOf; simp
    refine ⟨_, rfl, rfl, _, rfl, ?_⟩
    rw [eq_str, e40]
    refine ite2 (fun e => ?_) fun e => ?_
    · have et : t = [40] := of_decide_eq_true e
      subst et
      refine ⟨_, rfl, .inl ⟨rfl, _, SqL.of hRl⟩, Nat.zero_le _, fun q hq => ?_⟩
      have nqR : R ≠ q := ne_of_none hRl hq
      have hR' : (upd H' q (.lst [])) R = some (.lst (as.map V.ref)) := by rw [upd_ne nqR]; exact hRl
      refine ⟨R, _, _, rfl, rfl, hR', lt (by rw [List.length_map]; omega), ?_⟩
      have s2 : Same H1 (upd (upd H' q (.lst [])) R (.lst (as.map V.ref ++ [.ref q]))) := fun b o z => by
        rw [upd_ne (ne_of_none z hR0')]
        exact same_new hq _ _ _ (sm _ _ z)
      refine ⟨_, rfl, R, _, rfl, .inl (SqL.of upd_same), _, _, rfl, rfl, _, rfl, ?_⟩
      have hl2 : (as.map V.ref ++ [V.ref q]).length = as.length + 1 := by rw [List.length_append, List.length_map]; rfl
      rw [hl2]
      refine ite2 (fun e2 => ?_) fun e2 => ?_
      · have h12 : as.length = 12 := by
          have h1 : (12 : Int) < ((as.length + 1 : Nat) : Int) := of_decide_eq_true e2
          omega
        refine bad (i + 1) _ s2 ?_
        rw [hnext]
        unfold step
        rw [if_pos rfl, if_pos (by omega)]
      · have h12 : ¬ as.length = 12 := fun z => e2 (decide_eq_true (by omega))
        have hstep : step st [40] = some ([], st.1 :: st.2) := by
          unfold step
          rw [if_pos rfl, if_neg (by omega)]
        have hqas : q ∉ as := fun m => by
          obtain ⟨j, hj⟩ := List.mem_iff_getElem?.mp m
          have hj2 := (List.getElem?_eq_some_iff.mp hj).1
          obtain ⟨vs, h1, _⟩ := hLR.at_ j q ((rowsOf st)[j]'(by rw [← hLR.len]; exact hj2)) hj (List.getElem?_eq_getElem _)
          rw [hq] at h1; cases h1
        have tsH : TS H' (upd (upd H' q (.lst [])) R (.lst (as.map V.ref ++ [.ref q]))) := (TS.of (same_new hq _)).trans (TS.at hR')
        have ag : ∀ a ∈ as, (upd (upd H' q (.lst [])) R (.lst (as.map V.ref ++ [.ref q]))) a = H' a := fun a ha => by
          rw [upd_ne (fun z => hRas (by rw [← z]; exact ha)), upd_ne (fun z => hqas (by rw [← z]; exact ha))]
        have hq0 : H1 q = none := sm.free hq
        refine ⟨s2, ([], st.1 :: st.2), hnext.trans hstep, ⟨as ++ [q], ?_, hR0', snoc_nd hnd hqas, ?_, ?_, ?_⟩, ?_, ?_, _, v5, v6, v7, rfl⟩
        · rw [upd_same, List.map_append]; rfl
        · intro m
          rcases List.mem_append.mp m with m | m
          · exact hRas m
          · exact nqR (List.mem_singleton.mp m)
        · intro a ha
          rcases List.mem_append.mp ha with ha | ha
          · exact hfr a ha
          · rw [List.mem_singleton.mp ha]; exact hq0
        · have : rowsOf ([], st.1 :: st.2) = rowsOf st ++ [[]] := by unfold rowsOf; simp
          rw [this]
          exact (hLR.mono ag tsH).snoc (vs := []) (by rw [upd_ne (Ne.symm nqR), upd_same]) .nil
        · intro row hrow
          have : rowsOf ([], st.1 :: st.2) = rowsOf st ++ [[]] := by unfold rowsOf; simp
          rw [this] at hrow
          rcases List.mem_append.mp hrow with h | h
          · have := hlen row h; omega
          · rw [List.mem_singleton.mp h]; exact Nat.zero_le _
        · show (st.1 :: st.2).length ≤ 11
          rw [List.length_cons]; omega
    · have nt40 : t ≠ [40] := of_decide_eq_false (Bool.eq_false_iff.mpr e)
      refine ⟨_, rfl, rfl, _, rfl, ?_⟩
      rw [eq_str, e41]
      refine ite2 (fun e1 => ?_) fun e1 => ?_
      · have et : t = [41] := of_decide_eq_true e1
        subst et
        refine ⟨_, rfl, R, _, rfl, .inl (SqL.of hRl), rfl, _, rfl, ?_⟩
        rw [List.length_map]
        refine ite2 (fun e2 => ?_) fun e2 => ?_
        · have h1 : as.length = 1 := by
            have h1 : V.int (as.length : Int) = V.int 1 := of_decide_eq_true e2
            have h2 := V.int.inj h1
            omega
          have hb : st.2 = [] := List.length_eq_zero_iff.mp (by omega)
          refine bad (i + 1) H' sm ?_
          rw [hnext]
          unfold step
          rw [if_neg (by decide), if_pos rfl, hb]
        · have h1 : ¬ as.length = 1 := fun z => e2 (by rw [z]; rfl)
          obtain ⟨top, bel⟩ := st
          cases bel with
          | nil => exact absurd hal h1
          | cons b bs =>
            have hstep : step (top, b :: bs) [41] = some (b ++ [.tuple top], bs) := rfl
            have er : rowsOf (top, b :: bs) = (bs.reverse ++ [b]) ++ [top] := by unfold rowsOf; simp
            rw [er] at hLR
            obtain ⟨as1, a, ea, hLR1, vt, hat, hdt⟩ := hLR.last
            obtain ⟨cs, c, ec, hLR2, vb, hct, hdb⟩ := hLR1.last
            subst ec ea
            obtain ⟨hnd1, ha1'⟩ := nd_snoc hnd
            obtain ⟨hnd2, hc2⟩ := nd_snoc hnd1
            have hRa : R ≠ a := fun z => hRas (by rw [z]; simp)
            have hRc : R ≠ c := fun z => hRas (by rw [z]; simp)
            have hac : a ≠ c := fun z => ha1' (by rw [z]; simp)
            have em : ((cs ++ [c]) ++ [a]).map V.ref = (cs ++ [c]).map V.ref ++ [V.ref a] := by rw [List.map_append]; rfl
            rw [em] at hRl
            refine ⟨_, rfl, .inl ⟨rfl, _, SqL.of hRl⟩, R, _, V.ref a, rfl, rfl, hRl, by rw [List.length_append, List.length_singleton, Nat.add_sub_cancel, List.getElem?_append_right (Nat.le_refl _), Nat.sub_self]; rfl, ?_⟩
            rw [List.dropLast_concat]
            refine ⟨a, vt, rfl, .inl ⟨SqL.of (by rw [upd_ne (Ne.symm hRa)]; exact hat), fun l hl => ?_⟩⟩
            have hlR : R ≠ l := ne_of_none upd_same hl
            have hl' : H' l = none := by rw [upd_ne (Ne.symm hlR)] at hl; exact hl
            have hlc : c ≠ l := ne_of_none hct hl'
            have em2 : (cs ++ [c]).map V.ref = cs.map V.ref ++ [V.ref c] := by rw [List.map_append]; rfl
            have hR3 : (upd (upd H' R (.lst ((cs ++ [c]).map V.ref))) l (.tup vt)) R = some (.lst (cs.map V.ref ++ [V.ref c])) := by rw [upd_ne hlR, upd_same, em2]
            have hc3 : (upd (upd H' R (.lst ((cs ++ [c]).map V.ref))) l (.tup vt)) c = some (.lst vb) := by rw [upd_ne hlc, upd_ne (Ne.symm hRc)]; exact hct
            have hvb : vb.length ≤ i := by
              rw [dtAll_len hdb]
              exact hlen b (by rw [er]; simp)
            have hcl : ts.length ≤ 200000 := by omega
            refine ⟨_, rfl, 1, rfl, R, _, _, .ref c, rfl, rfl, SqL.of hR3, atI_last, .inl ⟨rfl, _, SqL.of hc3⟩, _, rfl, c, _, _, rfl, rfl, hc3, lt (by omega), ?_⟩
            have ts1 : TS H' (upd (upd (upd H' R (.lst ((cs ++ [c]).map V.ref))) l (.tup vt)) c (.lst (vb ++ [.ref l]))) :=
              (TS.at hRl).trans ((TS.of (same_new hl _)).trans (TS.at hc3))
            have ag : ∀ a' ∈ cs, (upd (upd (upd H' R (.lst ((cs ++ [c]).map V.ref))) l (.tup vt)) c (.lst (vb ++ [.ref l]))) a' = H' a' := fun a' ha' => by
              have n1 : a' ≠ c := fun z => hc2 (by rw [← z]; exact ha')
              have n2 : a' ≠ R := fun z => hRas (by rw [← z]; simp [ha'])
              have n3 : a' ≠ l := fun z => by
                obtain ⟨j, hj⟩ := List.mem_iff_getElem?.mp ha'
                have hj2 := (List.getElem?_eq_some_iff.mp hj).1
                obtain ⟨vs, h1, _⟩ := hLR2.at_ j a' (bs.reverse[j]'(by rw [← hLR2.len]; exact hj2)) hj (List.getElem?_eq_getElem _)
                rw [z, hl'] at h1; cases h1
              rw [upd_ne n1, upd_ne n3, upd_ne n2]
            have s2 : Same H1 (upd (upd (upd H' R (.lst ((cs ++ [c]).map V.ref))) l (.tup vt)) c (.lst (vb ++ [.ref l]))) := fun b' o z => by
              rw [upd_ne (ne_of_none z (hfr c (by simp))), upd_ne (ne_of_none z (sm.free hl')), upd_ne (ne_of_none z hR0')]
              exact sm _ _ z
            have er2 : rowsOf (b ++ [.tuple top], bs) = bs.reverse ++ [b ++ [.tuple top]] := rfl
            refine ⟨s2, (b ++ [.tuple top], bs), hnext.trans hstep, ⟨cs ++ [c], ?_, hR0', hnd1, fun m => hRas (List.mem_append_left _ m), fun a' m => hfr a' (List.mem_append_left _ m), ?_⟩, ?_, ?_, _, _, v6, v7, rfl⟩
            · rw [upd_ne hRc, hR3, em2]
            · rw [er2]
              refine (hLR2.mono ag ts1).snoc (vs := vb ++ [.ref l]) upd_same ?_
              refine dtAll_app (dtAll_mono ts1 hdb) (.cons (.tup (SqT.of ?_) (dtAll_mono ts1 hdt)) .nil)
              rw [upd_ne (Ne.symm hlc), upd_same]
            · intro row hrow
              rw [er2] at hrow
              rcases List.mem_append.mp hrow with h | h
              · have := hlen row (by rw [er]; simp at h ⊢; exact .inl h)
                omega
              · rw [List.mem_singleton.mp h, List.length_append, List.length_singleton, ← dtAll_len hdb]
                omega
            · show bs.length ≤ 11
              have : (b :: bs).length ≤ 11 := h11
              rw [List.length_cons] at this
              omega
      · have nt41 : t ≠ [41] := of_decide_eq_false (Bool.eq_false_iff.mpr e1)
        obtain ⟨htne, htl⟩ := htok ht
        refine ⟨_, rfl, mkS t, rfl, by rw [mkS_len]; exact htl, htne, fun tp mv gb H2 s2 htp etp hyes hno => ?_⟩
        refine ⟨tp, _, rfl, SqT.of etp, rfl, _, _, rfl, _, _, rfl, rfl, _, rfl, gb, rfl, ?_⟩
        have hst1 : step st t = (readWord t).map fun m => (st.1 ++ [m], st.2) := by
          unfold step
          rw [if_neg nt40, if_neg nt41]
        cases hrw : readWord t with
        | none =>
          have hg := hno hrw
          subst hg
          refine iteT (bad (i + 1) H2 (sm.trans s2) ?_)
          rw [hnext, hst1, hrw]
          rfl
        | some d =>
          obtain ⟨hg, hv⟩ := hyes d hrw
          subst hg
          refine iteF ?_
          obtain ⟨top, bel⟩ := st
          have er : rowsOf (top, bel) = bel.reverse ++ [top] := rfl
          rw [er] at hLR
          obtain ⟨cs, a, ea, hLR1, vt, hat, hdt⟩ := hLR.last
          subst ea
          obtain ⟨hnd1, ha1'⟩ := nd_snoc hnd
          have hRa : R ≠ a := fun z => hRas (by rw [z]; simp)
          have em : (cs ++ [a]).map V.ref = cs.map V.ref ++ [V.ref a] := by rw [List.map_append]; rfl
          rw [em] at hRl
          have hvt : vt.length ≤ i := by
            rw [dtAll_len hdt]
            exact hlen top (by rw [er]; simp)
          have hcl : ts.length ≤ 200000 := by omega
          have hR2 := s2 _ _ hRl
          have ha2 := s2 _ _ hat
          refine ⟨_, rfl, 1, rfl, R, _, _, .ref a, rfl, rfl, SqL.of hR2, atI_last, .inl ⟨rfl, _, SqL.of ha2⟩, _, rfl, a, _, _, rfl, rfl, ha2, lt (by omega), ?_⟩
          have ts1 : TS H' (upd H2 a (.lst (vt ++ [mv]))) := (TS.of s2).trans (TS.at ha2)
          have ag : ∀ a' ∈ cs, (upd H2 a (.lst (vt ++ [mv]))) a' = H' a' := fun a' ha' => by
            have n1 : a' ≠ a := fun z => ha1' (by rw [← z]; exact ha')
            obtain ⟨j, hj⟩ := List.mem_iff_getElem?.mp ha'
            have hj2 := (List.getElem?_eq_some_iff.mp hj).1
            obtain ⟨vs, h1, _⟩ := hLR1.at_ j a' (bel.reverse[j]'(by rw [← hLR1.len]; exact hj2)) hj (List.getElem?_eq_getElem _)
            rw [upd_ne n1, h1]
            exact s2 _ _ h1
          have s3 : Same H1 (upd H2 a (.lst (vt ++ [mv]))) := fun b' o z => by
            rw [upd_ne (ne_of_none z (hfr a (by simp)))]
            exact s2 _ _ (sm _ _ z)
          have er2 : rowsOf (top ++ [d], bel) = bel.reverse ++ [top ++ [d]] := rfl
          refine ⟨s3, (top ++ [d], bel), hnext.trans (by rw [hst1, hrw]; rfl), ⟨cs ++ [a], ?_, hR0', hnd, hRas, hfr, ?_⟩, ?_, h11, _, v5, _, _, rfl⟩
          · rw [upd_ne hRa, hR2, em]
          · rw [er2]
            exact (hLR1.mono ag ts1).snoc (vs := vt ++ [mv]) upd_same (dtAll_app (dtAll_mono ts1 hdt) (.cons (dt_mono (TS.at ha2) hv) .nil))
          · intro row hrow
            rw [er2] at hrow
            rcases List.mem_append.mp hrow with h | h
            · have := hlen row (by rw [er]; exact List.mem_append_left _ h)
              omega
            · rw [List.mem_singleton.mp h, List.length_append, List.length_singleton, ← dtAll_len hdt]
              omega
  · subst eσ
    obtain ⟨as, hRl, hR0', hnd, hRas, hfr, hLR⟩ := hst.ex
    rw [List.length_map, List.take_length] at hrun
    have hal : as.length = st.2.length + 1 := by rw [hLR.len]; unfold rowsOf; simp
    obtain ⟨top, bel⟩ := st
    refine ⟨_, rfl, R, _, rfl, .inl (SqL.of hRl), _, _, rfl, rfl, _, rfl, ?_⟩
    rw [List.length_map]
    cases bel with
    | cons b bs =>
      have h2 : as.length = (b :: bs).length + 1 := hal
      rw [List.length_cons] at h2
      refine ite2 (fun _ => ?_) fun e => absurd (decide_eq_true (by omega)) e
      refine q2 ?_ H' (s1.trans sm)
      rw [hll]
      have : readToks ts = none := by
        unfold readToks
        rw [hrun]
      rw [this]
    | nil =>
      have h2 : as.length = 1 := hal
      have hrd : readToks ts = some top := by
        unfold readToks
        rw [hrun]
      refine ite2 (fun e => absurd (of_decide_eq_true e) (by omega)) fun _ => ?_
      have er : rowsOf (top, []) = [] ++ [top] := rfl
      rw [er] at hLR
      obtain ⟨cs, a, ea, hLR1, vt, hat, hdt⟩ := hLR.last
      have hcs : cs = [] := List.length_eq_zero_iff.mp hLR1.len
      subst hcs ea
      have hvt := dtAll_len hdt
      refine ⟨_, rfl, R, _, 0, .ref a, rfl, rfl, SqL.of hRl, rfl, Nat.zero_le _, fun b hb => ?_⟩
      have s5 : Same H' (upd H' b (.lst [])) := same_new hb _
      refine ⟨a, b, vt, rfl, rfl, SqL.of (s5 _ _ hat), SqL.of upd_same, _, rfl, ite2 (fun e => ?_) fun e => ?_⟩
      · have hv0 : vt = [] := of_decide_eq_true e
        have ht0 : top = [] := List.length_eq_zero_iff.mp (by rw [← hvt, hv0]; rfl)
        refine q2 ?_ _ ((s1.trans sm).trans s5)
        rw [hll, hrd]
        exact if_pos ht0
      have hv0 : vt ≠ [] := of_decide_eq_false (Bool.eq_false_iff.mpr e)
      have ht0 : top ≠ [] := fun z => hv0 (List.length_eq_zero_iff.mp (by rw [hvt, z]; rfl))
      generalize upd H' b (.lst []) = H5 at s5
      refine ⟨_, rfl, R, _, 0, .ref a, rfl, rfl, SqL.of (s5 _ _ hRl), rfl, a, vt, rfl, .inl ⟨SqL.of (s5 _ _ hat), fun l hl5 => ?_⟩⟩
      have s6 : Same H5 (upd H5 l (.tup vt)) := same_new hl5 _
      have hdl : Dt K (upd H5 l (.tup vt)) (.ref l) (.tuple top) := .tup (SqT.of upd_same) (dtAll_mono (TS.of (s5.trans s6)) hdt)
      have hw := hrlen top hrd
      refine ⟨_, rfl, 12, .ref l, .tuple top, rfl, rfl, hdl, read_good hrd, by rw [wr_tuple]; omega, fun H6 s7 => ⟨1, rfl, 1, rfl, _, rfl, _, rfl, by rw [mkS_len, wr_tuple]; exact small_of (by omega), ?_⟩⟩
      refine ⟨_, rfl, rfl, _, rfl, ?_⟩
      have hcut : TL.tl (cutS (mkS (wr (.tuple top))) (some 1) (some (-1))) = wrs top := by
        rw [cut_in, mkS_len, tl_mkS, wr_tuple]
        have : wr (.tuple top) = 40 :: (wrs top ++ [41]) := by simp [wr]
        rw [this]
        simp
      rw [eq_str, hcut]
      refine ite2 (fun e => ?_) fun e => ?_
      · have ew : wrs top = TL.tl x := of_decide_eq_true e
        refine ⟨_, rfl, q1 top ?_ _ H6 ((((s1.trans sm).trans s5).trans s6).trans s7) (dt_mono (TS.of s7) hdl)⟩
        rw [hll, hrd]
        exact (if_neg ht0).trans (if_pos ew)
      · have ew : ¬ wrs top = TL.tl x := of_decide_eq_false (Bool.eq_false_iff.mpr e)
        refine q2 ?_ H6 ((((s1.trans sm).trans s5).trans s6).trans s7)
        rw [hll, hrd]
        exact (if_neg ht0).trans (if_neg ew)
end
end K66

/-! K66W13: _law_told, _law_read. -/
namespace K66
open PySem PySem.Spec PyProof.Rows L2 HR
/-- what both readers answer -/
def ansD : Except Nat (List (List D)) → D
  | .ok rows => .tuple [.str "let", .tuple (rows.map .tuple)]
  | .error n => .tuple [.str "raised", .int n]
def rowD (l : Cs) : D := match lawLine l with
  | none => .none
  | some r => .tuple r
theorem dt_int {K : PySem.W.Frag} {H : Hp} {a b : Int} (h : a = b) : Dt K H (.int a) (.int b) := h ▸ .int a
section
variable {P : Program} {w : World} {K : PySem.W.Frag} {mg : Str → Option Value} {base : Heap} {tS tF : Tok} {C S : Addr}
def spTold (K : PySem.W.Frag) : Sp := fun vs H Q _ => ∃ x : Str, vs = [.str x] ∧ x.length ≤ 99990 ∧ ∀ v H', Same H H' → Dt K H' v (ansD (paperOf (TL.tl x))) → Q v H'
theorem cal_told (T : Txt K mg tS tF) (ER : Err K mg C S) (F : FunAt K mg "_law_told" s_law_told) (c_paper_from : Cal P w K mg base (L2.CX P w) 5 "paper_from" P_paper_from (spPaperFrom K C)) :
    Cal P w K mg base CX0 6 "_law_told" P_law_told (spTold K) := by
  refine F.cal (fun f fd F => ?_) fun _ _ _ _ _ _ us hl => match us, hl with | [_], _ => rfl
  refine F.ok sc_law_told (fun vs H Q E h => ?_) (fun cdv A outer s H vs Q E hr h => ?_)
  · obtain ⟨x, rfl, _⟩ := h
    rfl
  obtain ⟨x, rfl, hz, q⟩ := h
  refine ⟨_, (pss_cons (ps_try_as (i := 2) (tb := fun W => tAsg (tCallS (spPaperFrom K C) (WE W) (tCons (tVar 0) tNil)) (gName 1)) (ts := fun a cls d => tRet (tTup (tCons (tC (.str "raised")) (tCons (tXf a cls d C "line" (tVar 2)) tNil)))) (Wout := fun _ _ _ _ => False)
    rfl rfl sc_law_told.nd rfl rfl ⟨rfl, by decide, Or.inl ER.gC⟩ takes0
    (fun W pn xe tk _ => pss_one (ps_set (i := 1) sc_law_told.nd rfl (Or.inl rfl) (pcS (E := WE W) c_paper_from (hr.mono (by decide)) (fun σ => passAt tk σ) (pa_cons (pv 0) pa_nil))))
    (fun a oe cls d pn hz hf => pss_one (ps_ret (pe_tup (pa_cons pe_str (pa_cons (pe_xf ⟨ER.ga, ER.gg, ER.ox.exC, ER.hd⟩ ER.noL hz hf (pv 2)) pa_nil))))))
    (pss_one (ps_ret (pe_tup (pa_cons pe_str (pa_cons (pv 1) pa_nil)))))), ?_⟩
  refine ⟨_, rfl, x, rfl, hz, fun rows hrows v H1 s1 hv => ?_, fun n hn a H1 ha s1 e1 => ?_⟩
  · refine ⟨_, rfl, by show 2 ≤ sizeLine; decide, fun t ht => q _ _ (s1.trans (same_new ht _)) ?_⟩
    rw [hrows]
    exact .tup (SqT.of upd_same) (.cons (.str _) (.cons (dt_mono (TS.of (same_new ht _)) hv) .nil))
  · refine ⟨true, ER.te, fun _ b hb => ?_, fun e => nomatch e⟩
    refine ⟨_, rfl, rfl, rfl, a, _, .int n, rfl, e1, rfl, by show 2 ≤ sizeLine; decide, fun t ht => q _ _ (s1.trans (same_new ht _)) ?_⟩
    rw [hn]
    exact .tup (SqT.of upd_same) (.cons (.str _) (.cons (.int _) .nil))
theorem cal_read (T : Txt K mg tS tF) (F : FunAt K mg "_law_read" s_law_read) (c_law_line : Cal P w K mg base CX0 14 "_law_line" P_law_line (spLawLine K)) : Cal P w K mg base CX0 15 "_law_read" P_law_read (spTold K) := by
  refine F.cal (fun f fd F => ?_) fun _ _ _ _ _ _ us hl => match us, hl with | [_], _ => rfl
  refine F.ok sc_law_read (fun vs H Q E h => ?_) (fun cdv A outer s H vs Q E hr h => ?_)
  · obtain ⟨x, rfl, _⟩ := h
    rfl
  obtain ⟨x, rfl, hz, q⟩ := h
  rw [papers_same] at q
  refine ⟨_, (pss_cons (ps_if (pt_cmpR op_eq (pv 0) pe_str (nomark _)) (pss_one (ps_ret (pe_tup (pa_cons pe_str (pa_cons (pe_tup pa_nil) pa_nil))))) pss_nil)
  (pss_cons (ps_setLc (i := 1) (own := [("line", 2)]) (g := gName 2) (tt := tYes) rfl sc_law_read.nd rfl rfl (sw_true rfl rfl rfl (by decide +kernel)) (pi_list (pe_split (pv 0) pe_str)) (blkOk_by (N := N_law_read) (sc := defScope s_law_read) (by decide +kernel)) (fun _ _ _ _ _ => pg_name (i := 2) sc_law_read.nd rfl (Or.inl rfl)) (fun _ _ _ _ _ => pts_nil) (fun _ _ _ _ _ => (pc c_law_line (hr.mono (by decide)) (pa_cons (pv 2) pa_nil))))
  (pss_cons (ps_for PassesOwn.never rfl (pi_range1 rfl T.range (pa_cons (pe_callB call_len_seq (by rfl) T.len (by decide +kernel) (pa_cons (pv 1) pa_nil)) pa_nil)) (pg_name (i := 3) sc_law_read.nd rfl (Or.inl rfl)) (pss_one (ps_if (pt_cmpR op_isN (pe_ix ix_list (pv 1) (pv 3) (fun _ _ => rfl)) pe_non (nomark _)) (pss_one (ps_ret (pe_tup (pa_cons pe_str (pa_cons (pe_op op_add (pv 3) pe_int) pa_nil))))) pss_nil)))
  (pss_one (ps_ret (pe_tup (pa_cons pe_str (pa_cons (pe_callTy call_tuple_of (by rfl) T.tuple (by decide +kernel) (pa_cons (pv 1) pa_nil)) pa_nil)))))))), ?_⟩
  have e0 : TL.tl ("" : Str) = [] := by decide +kernel
  have e10 : TL.tl ("\n" : Str) = [10] := by decide +kernel
  have hl := TL.len_tl x
  refine ⟨_, rfl, rfl, _, rfl, ?_⟩
  rw [eq_str, e0]
  refine ite2 (fun e => ?_) fun e => ?_
  · have hx : TL.tl x = [] := of_decide_eq_true e
    refine ⟨Nat.zero_le _, fun a na => ⟨by show 2 ≤ sizeLine; decide, fun t ht => q _ _ ((same_new na _).trans (same_new ht _)) ?_⟩⟩
    have hp : paperOfL (TL.tl x) = .ok [] := if_pos hx
    rw [hp]
    exact .tup (SqT.of upd_same) (.cons (.str _) (.cons (.tup (SqT.of (same_new ht _ _ _ upd_same)) .nil) .nil))
  have hx : TL.tl x ≠ [] := of_decide_eq_false (Bool.eq_false_iff.mpr e)
  have hp : paperOfL (TL.tl x) = readAll lawLine 1 (lines (TL.tl x)) := if_neg hx
  have hsp : (Txt.split x "\n").map TL.tl = lines (TL.tl x) := by
    rw [TL.split_spl x "\n" (by rw [e10]; simp) (TL.kind_ok (by decide +kernel)), e10]; rfl
  have hls := lines_sum (TL.tl x)
  generalize hys : Txt.split x "\n" = ys at hsp
  generalize hLs : lines (TL.tl x) = ls at *
  have hyl : ys.length = ls.length := by rw [← hsp, List.length_map]
  refine ⟨_, rfl, ⟨_, rfl⟩, x, _, rfl, rfl, by decide +kernel, small_of (by omega), fun p hp1 => ?_⟩
  rw [hys]
  have s1 : Same H (upd H p (.lst (ys.map V.str))) := same_new hp1 _
  have e1 : (upd H p (.lst (ys.map V.str))) p = some (.lst (ys.map V.str)) := upd_same
  generalize upd H p (.lst (ys.map V.str)) = H1 at s1 e1
  refine ⟨p, rfl, ⟨_, SqL.of e1⟩, fun D hD => ?_⟩
  have ext : ∀ {H2 : Hp} {o : HO}, Same H1 H2 → Same H1 (upd H2 D o) := fun {H o} s b u e => by rw [upd_ne (ne_of_none e hD)]; exact s b u e
  refine lc_src (src_list (K := K)) (fun i H2 => Same H1 H2 ∧ ∃ vs, H2 D = some (.lst vs) ∧ DtAll K H2 vs ((ls.take i).map rowD))
    ⟨ext (Same.refl _), [], upd_same, .nil⟩ (fun _ _ _ h => SqL.of (h.1 _ _ e1)) (fun i v H2 hx2 ⟨s2, vs, hv2, hdt⟩ => ?_) fun H2 ⟨s2, vs, hv2, hdt⟩ => ?_
  · rw [List.getElem?_map] at hx2
    obtain ⟨y, hy, rfl⟩ := Option.map_eq_some_iff.mp hx2
    have hi := (List.getElem?_eq_some_iff.mp hy).1
    obtain ⟨l, hl1⟩ : ∃ l, ls[i]? = some l := ⟨ls[i]'(by omega), List.getElem?_eq_getElem _⟩
    have hyt : TL.tl y = l := by
      rw [← hsp, List.getElem?_map, hy] at hl1
      exact Option.some.inj hl1
    have hyz : y.length ≤ 100000 := by
      rw [TL.len_tl, hyt]
      have := sum_take_at (ls.map List.length) i l.length (by rw [List.getElem?_map, hl1]; rfl)
      omega
    refine ⟨wipe1, ?_⟩
    unfold tYes
    dsimp only
    rw [if_pos rfl]
    have hvl := dtAll_len hdt
    rw [List.length_map, List.length_take] at hvl
    have fin : ∀ (v : V) (H3 : Hp), Same H2 H3 → Dt K H3 v (rowD l) → ∃ acc, H3 D = some (.lst acc) ∧ acc.length < sizeLine ∧ (Same H1 (upd H3 D (.lst (acc ++ [v]))) ∧ ∃ vs, (upd H3 D (.lst (acc ++ [v]))) D = some (.lst vs) ∧ DtAll K (upd H3 D (.lst (acc ++ [v]))) vs ((ls.take (i + 1)).map rowD)) := fun v H3 s3 hv => by
      have t2 := TS.at (o := .lst (vs ++ [v])) (s3 _ _ hv2)
      refine ⟨_, s3 _ _ hv2, small_lt (by omega), ext (s2.trans s3), _, upd_same, ?_⟩
      rw [take_snoc hl1, List.map_append]
      exact dtAll_app (dtAll_mono ((TS.of s3).trans t2) hdt) (.cons (dt_mono t2 hv) .nil)
    refine ⟨_, rfl, y, rfl, hyz, fun row hrow v H3 s3 hv => fin v H3 s3 ?_, fun hno H3 s3 => fin .non H3 s3 ?_⟩
    · rw [hyt] at hrow
      unfold rowD
      rw [hrow]
      exact hv
    · rw [hyt] at hno
      unfold rowD
      rw [hno]
      exact .non
  · have hlen : (ys.map V.str).length = ls.length := by rw [List.length_map, hyl]
    rw [hlen, List.take_length] at hdt
    have hvl := dtAll_len hdt
    rw [List.length_map] at hvl
    have s12 := s1.trans s2
    refine ⟨_, rfl, D, _, rfl, .inl (SqL.of hv2), _, rfl, by omega, by omega, for_src src_range (fun i σ H' => H' = H2 ∧ (∀ (j : Nat) (m : Cs), j < i → ls[j]? = some m → ∃ row, lawLine m = some row) ∧ ∃ v2 v3, σ = [some (.str x), some (.ref D), v2, v3])
      ⟨rfl, fun j m hj => absurd hj (Nat.not_lt_zero _), none, none, rfl⟩ (fun _ _ _ _ _ => trivial) (fun i v σ H' hx2 ⟨eH, hok, v2, v3, eσ⟩ => ?_) fun σ H' ⟨eH, hok, v2, v3, eσ⟩ => ?_⟩
    · subst eH eσ
      obtain ⟨hi, rfl⟩ := nums_inv hx2
      have hi : i < vs.length := by simpa using hi
      obtain ⟨l, hl1⟩ : ∃ l, ls[i]? = some l := ⟨ls[i]'(by omega), List.getElem?_eq_getElem _⟩
      have hvi : vs[i]? = some vs[i] := List.getElem?_eq_getElem hi
      obtain ⟨d, hd, hdd⟩ := dtAll_get hdt hvi
      rw [List.getElem?_map, hl1] at hd
      have hd : rowD l = d := Option.some.inj hd
      subst hd
      refine ⟨_, rfl, _, rfl, D, _, _, vs[i], rfl, rfl, SqL.of hv2, ?_, rfl, _, rfl, ?_⟩
      · rw [show ((0 : Int) + (i : Nat)) = ((i : Nat) : Int) from Int.zero_add _]
        exact atI_nat hvi
      unfold rowD at hdd
      cases hlw : lawLine l with
      | none =>
        rw [hlw] at hdd
        generalize vs[i] = vv at hdd
        cases hdd
        refine ite2 (fun _ => ?_) fun e => absurd (decide_eq_true rfl) e
        refine ⟨_, rfl, _, _, rfl, rfl, by show 2 ≤ sizeLine; decide, fun t ht => q _ _ (s12.trans (same_new ht _)) ?_⟩
        rw [hp, readAll_bad ls 1 i l hl1 hlw hok]
        have : ((0 : Int) + (i : Nat)) + 1 = ((1 + i : Nat) : Int) := by omega
        exact .tup (SqT.of upd_same) (.cons (.str _) (.cons (dt_int this) .nil))
      | some row =>
        rw [hlw] at hdd
        generalize vs[i] = vv at hdd
        cases hdd
        refine ite2 (fun e => nomatch (of_decide_eq_true e)) fun _ => ?_
        refine ⟨rfl, fun j m hj hm => ?_, _, _, rfl⟩
        by_cases e : j < i
        · exact hok j m e hm
        · have : j = i := by omega
          subst this
          rw [hl1] at hm
          cases hm
          exact ⟨row, hlw⟩
    · subst eH eσ
      rw [nums_len] at hok
      have hok : ∀ (j : Nat) (m : Cs), ls[j]? = some m → ∃ row, lawLine m = some row := fun j m hm => hok j m (by have := (List.getElem?_eq_some_iff.mp hm).1; simp; omega) hm
      obtain ⟨rows, h1, h2⟩ := readAll_ok (f := lawLine) ls 1 hok
      have em : ls.map rowD = rows.map .tuple := by
        rw [h2, List.map_map]
        refine List.map_congr_left fun l hlm => ?_
        obtain ⟨j, hj⟩ := List.mem_iff_getElem?.mp hlm
        obtain ⟨row, hr⟩ := hok j l hj
        show rowD l = .tuple ((lawLine l).getD [])
        unfold rowD
        rw [hr]; rfl
      rw [em] at hdt
      refine ⟨_, rfl, D, vs, rfl, .inl ⟨SqL.of hv2, fun l hl => ⟨by show 2 ≤ sizeLine; decide, fun t ht => q _ _ ((s12.trans (same_new hl _)).trans (same_new ht _)) ?_⟩⟩⟩
      rw [hp, h1]
      have s6 := (same_new hl (.tup vs)).trans (same_new ht (.tup [.str "let", .ref l]))
      exact .tup (SqT.of upd_same) (.cons (.str _) (.cons (.tup (SqT.of (same_new ht _ _ _ upd_same)) (dtAll_mono (TS.of s6) hdt)) .nil))
end
end K66

/-! K66W14: what the law's own texts read as. -/
namespace K66
open PySem PySem.Spec PyProof.Rows L2 HR
theorem joinL_upper (c : Nat) : ∀ l : List Cs, (TL.joinL [c] l).length ≤ (l.map List.length).sum + l.length
  | [] => Nat.zero_le _
  | [x] => by simp [TL.joinL]
  | x :: y :: r => by
    have h := joinL_upper c (y :: r)
    have e : TL.joinL [c] (x :: y :: r) = x ++ ([c] ++ TL.joinL [c] (y :: r)) := by simp [TL.joinL]
    rw [e, List.map_cons, List.sum_cons, List.length_cons, List.length_append, List.length_append, List.length_singleton]
    omega
theorem ptext_upper (p : List (List D)) : (ptext p).length ≤ (p.map fun r => (wrs r).length).sum + p.length := by
  have h := joinL_upper 10 (p.map wrs)
  rw [List.map_map, List.length_map] at h
  exact h
theorem readAll_rows {f : Cs → Option (List D)} : ∀ (ls : List Cs) (k : Nat) (rows : List (List D)), readAll f k ls = .ok rows → ∀ row ∈ rows, ∃ l, f l = some row
  | [], k, rows, h, row, hr => by
    cases h
    cases hr
  | l :: r, k, rows, h, row, hr => by
    rw [readAll] at h
    cases hf : f l with
    | none => rw [hf] at h; cases h
    | some x =>
      rw [hf] at h
      dsimp only at h
      cases hg : readAll f (k + 1) r with
      | error e => rw [hg] at h; cases h
      | ok rs =>
        rw [hg] at h
        cases h
        rcases List.mem_cons.mp hr with e | hr
        · exact ⟨l, e ▸ hf⟩
        · exact readAll_rows r (k + 1) rs hg row hr
theorem prog_good {l : Cs} {row : List D} (h : progLine l = some row) : goods 11 row := by
  unfold progLine at h
  split at h
  · cases h
  · exact read_good h
theorem rows_dep {rows : List (List D)} (h : ∀ row ∈ rows, goods 11 row) : dep 14 (.tuple [.str "let", .tuple (rows.map .tuple)]) := by
  show deps 13 [.str "let", .tuple (rows.map .tuple)]
  refine deps_mem.mpr fun d hd => ?_
  rcases List.mem_cons.mp hd with e | hd
  · subst e; simp [dep]
  · rw [List.mem_singleton.mp hd]
    show deps 12 (rows.map .tuple)
    refine deps_mem.mpr fun d hd => ?_
    obtain ⟨row, hr, rfl⟩ := List.mem_map.mp hd
    show deps 11 row
    exact deps_mem.mpr fun d hd => good_dep 11 d (goods_mem.mp (h row hr) d hd)
theorem ansD_dep (t : Cs) : dep 14 (ansD (paperOf t)) := by
  unfold paperOf
  split
  · exact rows_dep (rows := []) (by simp)
  · cases h : readAll progLine 1 (lines t) with
    | error n => simp [ansD, dep, deps]
    | ok rows =>
      refine rows_dep fun row hr => ?_
      obtain ⟨l, hl⟩ := readAll_rows _ _ _ h row hr
      exact prog_good hl
theorem one_line {t : Cs} (h0 : t ≠ []) (h10 : 10 ∉ t) : lines t = [t] := by
  unfold lines
  have := TL.spl_join (s := 10) (S := []) (parts := [t]) (by simp) (fun p hp => by rw [List.mem_singleton.mp hp]; exact h10)
  exact this
theorem isOk_of {f : Cs → Option (List D)} : ∀ (ls : List Cs) (k : Nat), (∀ l ∈ ls, (f l).isSome = true) → ∃ rows, readAll f k ls = .ok rows
  | [], _, _ => ⟨_, rfl⟩
  | l :: r, k, h => by
    obtain ⟨row, e⟩ := Option.isSome_iff_exists.mp (h l (List.mem_cons_self ..))
    obtain ⟨rows, h1⟩ := isOk_of r (k + 1) fun l hl => h l (List.mem_cons_of_mem _ hl)
    exact ⟨row :: rows, by rw [readAll, e, h1]⟩
/-! closed texts -/
def deepT (n : Nat) : Cs := List.replicate n 40 ++ [120] ++ List.replicate n 41
theorem deep0 : deepT 11 = ptext [[nestD 11 (.str "x")]] := by decide +kernel
theorem deep0_back : paperOf (deepT 11) = .ok [[nestD 11 (.str "x")]] := by
  rw [deep0]
  refine paper_back fun row hr => ?_
  rw [List.mem_singleton.mp hr]
  refine ⟨?_, by simp⟩
  have h : good 11 (nestD 11 (.str "x")) := nest_good (m := 0) (d := .str "x") (by show isWord _ = true; decide +kernel) 11
  simp [goods, h]
theorem deep1_bad : (progLine (deepT 12)).isNone = true := by decide +kernel
theorem deep1_err : paperOf (deepT 12) = .error 1 := by
  unfold paperOf
  rw [if_neg (by decide), one_line (by decide) (by decide), readAll, Option.isNone_iff_eq_none.mp deep1_bad]
def longT (n : Nat) : Cs := 49 :: List.replicate n 48
theorem long_a (n : Nat) : lines ([97, 10] ++ longT n) = [[97], longT n] := by
  have := TL.spl_join (s := 10) (S := []) (parts := [[97], longT n]) (by simp) (fun p hp => by
    rcases List.mem_cons.mp hp with e | hp
    · rw [e]; decide
    · rw [List.mem_singleton.mp hp]
      unfold longT
      intro h
      rcases List.mem_cons.mp h with h | h
      · cases h
      · have := List.eq_of_mem_replicate h; omega)
  exact this
theorem long_b (n : Nat) : lines (45 :: longT n ++ [32, 48]) = [45 :: longT n ++ [32, 48]] := one_line (by simp) (by
  unfold longT
  intro h
  simp at h)
theorem l0 : (progLine (longT 999)).isSome = true := by decide +kernel
theorem l1 : (progLine (longT 1000)).isNone = true := by decide +kernel
theorem l2 : (progLine (45 :: longT 999 ++ [32, 48])).isSome = true := by decide +kernel
theorem l3 : (progLine (45 :: longT 1000 ++ [32, 48])).isNone = true := by decide +kernel
theorem la : (progLine [97]).isSome = true := by decide +kernel
theorem none_of {l : Cs} (h : (progLine l).isNone = true) : progLine l = none := Option.isNone_iff_eq_none.mp h
theorem some_of {l : Cs} (h : (progLine l).isSome = true) : ∃ row, progLine l = some row := Option.isSome_iff_exists.mp h
theorem paper_at {t : Cs} {ls : List Cs} (h0 : t ≠ []) (h : lines t = ls) : paperOf t = readAll progLine 1 ls := by
  unfold paperOf
  rw [if_neg h0, h]
theorem long_let : ∃ rows, paperOf ([97, 10] ++ longT 999) = .ok rows := by
  rw [paper_at (by simp) (long_a 999)]
  refine isOk_of _ _ fun l hl => ?_
  rcases List.mem_cons.mp hl with e | hl
  · rw [e]; exact la
  · rw [List.mem_singleton.mp hl]; exact l0
theorem long_rai : ∃ n, paperOf ([97, 10] ++ longT 1000) = .error n := by
  rw [paper_at (by simp) (long_a 1000)]
  refine ⟨_, readAll_bad _ 1 1 (longT 1000) rfl (none_of l1) fun j m hj hm => ?_⟩
  have : j = 0 := by omega
  subst this
  cases hm
  exact some_of la
theorem long_let2 : ∃ rows, paperOf (45 :: longT 999 ++ [32, 48]) = .ok rows := by
  rw [paper_at (by simp) (long_b 999)]
  refine isOk_of _ _ fun l hl => ?_
  rw [List.mem_singleton.mp hl]; exact l2
theorem long_rai2 : ∃ n, paperOf (45 :: longT 1000 ++ [32, 48]) = .error n := by
  rw [paper_at (by simp) (long_b 1000)]
  exact ⟨_, readAll_bad _ 1 0 _ rfl (none_of l3) fun j m hj hm => absurd hj (Nat.not_lt_zero _)⟩
theorem e_none : paperOf [] = .ok [] := if_pos rfl
theorem b1 : (progLine [97, 32, 49]).isSome = true := by decide +kernel
theorem b2 : (progLine []).isNone = true := by decide +kernel
theorem e_a1 : paperOf [97, 32, 49, 10] = .error 2 := by
  rw [paper_at (by simp) (show lines [97, 32, 49, 10] = [[97, 32, 49], []] by decide +kernel)]
  refine readAll_bad _ 1 1 [] rfl (none_of b2) fun j m hj hm => ?_
  have : j = 0 := by omega
  subst this
  cases hm
  exact some_of b1
theorem e_a00 : paperOf [97, 10, 10, 48, 48] = .error 2 := by
  rw [paper_at (by simp) (show lines [97, 10, 10, 48, 48] = [[97], [], [48, 48]] by decide +kernel)]
  refine readAll_bad _ 1 1 [] rfl (none_of b2) fun j m hj hm => ?_
  have : j = 0 := by omega
  subst this
  cases hm
  exact some_of la
end K66

/-! K66W15: the law. -/
namespace K66
open PySem PySem.Spec PyProof.Rows L2 HR
section
variable {P : Program} {w : World} {K : PySem.W.Frag} {mg : Str → Option Value} {base : Heap} {tS tF : Tok} {C S : Addr}
def spLaw (K : PySem.W.Frag) : Sp := fun vs H Q _ => ∃ (l : Addr) (ns : List Int), vs = [.ref l] ∧ SqL K H l (ns.map V.int) ∧ ns.length ≤ 63 ∧ ∀ H', Q (.bl true) H'
/-- the paper so far: its rows lie in the list at g, tot bounds its text -/
structure PI (K : PySem.W.Frag) (H : Hp) (g p : Addr) (rows : List (List D)) (tot : Nat) : Prop where
  src : Src H p
  ex : ∃ vs, H g = some (.lst vs) ∧ DtAll K H vs (rows.map .tuple)
  ok : ∀ row ∈ rows, goods 11 row ∧ row ≠ []
  sz : (rows.map fun r => (wrs r).length).sum + rows.length ≤ tot
theorem PI.vs_len {H : Hp} {g p : Addr} {rows : List (List D)} {tot : Nat} {vs : List V} (I : PI K H g p rows tot) (h : DtAll K H vs (rows.map .tuple)) : vs.length ≤ tot := by
  have := dtAll_len h
  rw [List.length_map] at this
  have := I.sz
  omega
theorem PI.add {H H' : Hp} {g p : Addr} {rows : List (List D)} {row : List D} {tot k : Nat} {vs : List V} {v : V} (I : PI K H g p rows tot) (hv : H g = some (.lst vs)) (hd : DtAll K H vs (rows.map .tuple)) (ts : TS H H') (S' : Src H' p) (ne : g ≠ p) (eg : H' g = some (.lst vs))
    (dv : Dt K H' v (.tuple row)) (hg : goods 11 row) (hne : row ≠ []) (hz : (wrs row).length + 1 ≤ k) : PI K (upd H' g (.lst (vs ++ [v]))) g p (rows ++ [row]) (tot + k) where
  src := by
    obtain ⟨a, b, c, z⟩ := S'
    exact ⟨a, b, c, by rw [upd_ne (Ne.symm ne)]; exact z⟩
  ex := by
    have t2 : TS H' (upd H' g (.lst (vs ++ [v]))) := TS.at eg
    refine ⟨_, upd_same, ?_⟩
    rw [List.map_append]
    exact dtAll_app (dtAll_mono (ts.trans t2) hd) (.cons (dt_mono t2 dv) .nil)
  ok := fun r hr => by
    rcases List.mem_append.mp hr with h | h
    · exact I.ok r h
    · rw [List.mem_singleton.mp h]; exact ⟨hg, hne⟩
  sz := by
    have := I.sz
    rw [List.map_append, List.sum_append, List.length_append]
    simp
    omega
theorem PI.le {H : Hp} {g p : Addr} {rows : List (List D)} {a b : Nat} (I : PI K H g p rows a) (h : a ≤ b) : PI K H g p rows b := ⟨I.src, I.ex, I.ok, Nat.le_trans I.sz h⟩
theorem PI.step {H H' : Hp} {g p : Addr} {rows : List (List D)} {a : Nat} (I : PI K H g p rows a) (s : Stp p H H') (S' : Src H' p) (ne : g ≠ p) : PI K H' g p rows a := by
  obtain ⟨vs, h1, h2⟩ := I.ex
  exact ⟨S', ⟨vs, s _ _ ne h1, dtAll_mono (I.src.ts s) h2⟩, I.ok, I.sz⟩
theorem key_use {R : Hp → Prop} {G : Prop} (rest : ∀ H, R H) (main : (∀ H, R H) → G) : G := main rest
theorem ansD_head {H : Hp} {v : V} {e : Except Nat (List (List D))} (h : Dt K H v (ansD e)) : ∃ a u, v = .ref a ∧ SqT K H a [.str (match e with | .ok _ => "let" | .error _ => "raised"), u] := by
  cases e with
  | ok rows =>
    cases h with
    | tup hS hd =>
      cases hd with
      | cons h1 h2 =>
        cases h1
        cases h2 with
        | cons h3 h4 =>
          cases h4
          exact ⟨_, _, rfl, hS⟩
  | error n =>
    cases h with
    | tup hS hd =>
      cases hd with
      | cons h1 h2 =>
        cases h1
        cases h2 with
        | cons h3 h4 =>
          cases h4
          exact ⟨_, _, rfl, hS⟩
theorem cal_law (T : Txt K mg tS tF) {f : Addr} {fd : FuncData} (F : Fun K "law" "law" s_law f fd) (c_law_source : Cal P w K mg base CX0 1 "_law_source" P_law_source (spSource K)) (c_law_pick : Cal P w K mg base CX0 1 "_law_pick" P_law_pick spPick)
    (c_law_number : Cal P w K mg base CX0 2 "_law_number" P_law_number spNumber) (c_law_member : Cal P w K mg base CX0 8 "_law_member" P_law_member (spMember K 8)) (c_law_member0 : Cal P w K mg base CX0 4 "_law_member" P_law_member (spMember K 4))
    (c_law_nest : Cal P w K mg base CX0 1 "_law_nest" P_law_nest (spNest K)) (c_law_written : Cal P w K mg base CX0 13 "_law_written" P_law_written (spText_law_written K 13)) (c_law_same : Cal P w K mg base CX0 15 "_law_same" P_law_same (spSame K 15))
    (c_law_told : Cal P w K mg base CX0 6 "_law_told" P_law_told (spTold K)) (c_law_read : Cal P w K mg base CX0 15 "_law_read" P_law_read (spTold K)) (c_law_spoilt : Cal P w K mg base CX0 2 "_law_spoilt" P_law_spoilt spSpoilt)
    (c_paper_text : Cal P w K mg base CX0 13 "paper_text" P_paper_text (spPaperText K)) : FnOk P w K mg base CX0 16 f fd P_law (spLaw K) := by
  refine F.ok sc_law (fun vs H Q E h => ?_) (fun cdv A outer s H vs Q E hr h => ?_)
  · obtain ⟨l, ns, rfl, _⟩ := h
    rfl
  obtain ⟨l, ns, rfl, hl, hn, q⟩ := h
  refine ⟨_, (pss_cons (ps_set (i := 1) sc_law.nd rfl (Or.inr rfl) (pc c_law_source (hr.mono (by decide)) (pa_cons (pv 0) (pa_cons pe_int pa_nil))))
  (pss_cons (ps_set (i := 2) sc_law.nd rfl (Or.inl rfl) (pe_lst pa_nil))
  (pss_cons (ps_for PassesOwn.never rfl (pi_range1 rfl T.range (pa_cons (pc c_law_pick (hr.mono (by decide)) (pa_cons (pv 1) (pa_cons pe_int pa_nil))) pa_nil)) (pg_name (i := 3) sc_law.nd rfl (Or.inl rfl)) (pss_one (ps_expr (pe_bm PySem.F.plainAttrs_list PySem.F.slot_list_append PySem.F.type_list_append mt_append (pv 2) (pa_cons (pe_callTy call_tuple_of (by rfl) T.tuple (by decide +kernel) (pa_cons (pe_lc (own := [("k", 4)]) (g := gName 4) (tt := tYes) rfl sc_law.nd (pi_range1 rfl T.range (pa_cons (pe_op op_add pe_int (pc c_law_pick (hr.mono (by decide)) (pa_cons (pv 1) (pa_cons pe_int pa_nil)))) pa_nil)) (blkOk_by (N := N_law) (sc := defScope s_law) (by decide +kernel)) (fun _ _ _ _ _ => pg_name (i := 4) sc_law.nd rfl (Or.inl rfl)) (fun _ _ _ _ _ => pts_nil) (fun _ _ _ _ _ => (pc c_law_member (hr.mono (by decide)) (pa_cons (pv 1) (pa_cons pe_int pa_nil))))) pa_nil)) pa_nil)))))
  (pss_cons (ps_if (pt_cmpR op_eq (pc c_law_pick (hr.mono (by decide)) (pa_cons (pv 1) (pa_cons pe_int pa_nil))) pe_int (nomark _)) (pss_one (ps_expr (pe_bm PySem.F.plainAttrs_list PySem.F.slot_list_append PySem.F.type_list_append mt_append (pv 2) (pa_cons (pe_tup (pa_cons (pc c_law_nest (hr.mono (by decide)) (pa_cons (pc c_law_member0 (hr.mono (by decide)) (pa_cons (pv 1) (pa_cons pe_int pa_nil))) (pa_cons (pc c_law_pick (hr.mono (by decide)) (pa_cons (pv 1) (pa_cons pe_int pa_nil))) pa_nil))) pa_nil)) pa_nil)))) pss_nil)
  (pss_cons (ps_if (pt_cmpR op_eq (pc c_law_pick (hr.mono (by decide)) (pa_cons (pv 1) (pa_cons pe_int pa_nil))) pe_int (nomark _)) (pss_one (ps_expr (pe_bm PySem.F.plainAttrs_list PySem.F.slot_list_append PySem.F.type_list_append mt_append (pv 2) (pa_cons (pe_tup (pa_cons (pe_op op_sub (pe_op op_mul (pe_op op_pow pe_int pe_int) (pc c_law_number (hr.mono (by decide)) (pa_cons (pv 1) (pa_cons (pe_op op_pow pe_int pe_int) pa_nil)))) pe_int) (pa_cons (pe_tup pa_nil) pa_nil))) pa_nil)))) pss_nil)
  (pss_cons (ps_set (i := 2) sc_law.nd rfl (Or.inl rfl) (pe_callTy call_tuple_of (by rfl) T.tuple (by decide +kernel) (pa_cons (pv 2) pa_nil)))
  (pss_cons (ps_set (i := 5) sc_law.nd rfl (Or.inl rfl) (pe_join pe_str (pe_lc (own := [("row", 6)]) (g := gName 6) (tt := tYes) rfl sc_law.nd (pi_tup (pv 2)) (blkOk_by (N := N_law) (sc := defScope s_law) (by decide +kernel)) (fun _ _ _ _ _ => pg_name (i := 6) sc_law.nd rfl (Or.inl rfl)) (fun _ _ _ _ _ => pts_nil) (fun _ _ _ _ _ => (pe_slice sl_str (pc c_law_written (hr.mono (by decide)) (pa_cons (pv 6) pa_nil)) (po_some pe_int) (po_some (pe_un un_neg pe_int)))))))
  (pss_cons (ps_set (i := 7) sc_law.nd rfl (Or.inl rfl) (pe_tup (pa_cons pe_str (pa_cons (pv 2) pa_nil))))
  (pss_cons (ps_if (PW.pt (pw_or (pt_not (pt_val (pc c_law_same (hr.mono (by decide)) (pa_cons (pc c_law_told (hr.mono (by decide)) (pa_cons (pv 5) pa_nil)) (pa_cons (pv 7) pa_nil))))) (pw_or (pt_not (pt_val (pc c_law_same (hr.mono (by decide)) (pa_cons (pc c_paper_text (hr.mono (by decide)) (pa_cons (pv 2) pa_nil)) (pa_cons (pv 5) pa_nil))))) (pw_or1 (pt_not (pt_val (pc c_law_same (hr.mono (by decide)) (pa_cons (pc c_law_told (hr.mono (by decide)) (pa_cons (pv 5) pa_nil)) (pa_cons (pv 7) pa_nil))))))))) (pss_one (ps_ret pe_bl)) pss_nil)
  (pss_cons (ps_for PassesOwn.never rfl (pi_range1 rfl T.range (pa_cons pe_int pa_nil)) (pg_name (i := 3) sc_law.nd rfl (Or.inl rfl)) (pss_cons (ps_set (i := 8) sc_law.nd rfl (Or.inl rfl) (pc c_law_spoilt (hr.mono (by decide)) (pa_cons (pv 1) (pa_cons (pv 5) pa_nil))))
  (pss_cons (ps_if (pt_not (pt_val (pc c_law_same (hr.mono (by decide)) (pa_cons (pc c_law_told (hr.mono (by decide)) (pa_cons (pv 8) pa_nil)) (pa_cons (pc c_law_read (hr.mono (by decide)) (pa_cons (pv 8) pa_nil)) pa_nil))))) (pss_one (ps_ret pe_bl)) pss_nil)
  (pss_one (ps_if (pt_cmpR op_eq (pc c_law_pick (hr.mono (by decide)) (pa_cons (pv 1) (pa_cons pe_int pa_nil))) pe_int (nomark _)) (pss_one (ps_set (i := 5) sc_law.nd rfl (Or.inl rfl) (pv 8))) pss_nil)))))
  (pss_cons (ps_set (i := 9) sc_law.nd rfl (Or.inl rfl) (pc c_law_pick (hr.mono (by decide)) (pa_cons (pv 1) (pa_cons pe_int pa_nil))))
  (pss_cons (ps_set (i := 10) sc_law.nd rfl (Or.inl rfl) (pe_op op_add_str (pe_op op_add_str (pe_op op_mulS pe_str (pe_op op_add pe_int (pv 9))) pe_str) (pe_op op_mulS pe_str (pe_op op_add pe_int (pv 9)))))
  (pss_cons (ps_if (pt_not (pt_val (pc c_law_same (hr.mono (by decide)) (pa_cons (pc c_law_told (hr.mono (by decide)) (pa_cons (pv 10) pa_nil)) (pa_cons (pe_ifExp (pt_cmpR op_eq (pv 9) pe_int (nomark _)) (pe_tup (pa_cons pe_str (pa_cons pe_int pa_nil))) (pe_tup (pa_cons pe_str (pa_cons (pe_tup (pa_cons (pe_tup (pa_cons (pc c_law_nest (hr.mono (by decide)) (pa_cons pe_str (pa_cons pe_int pa_nil))) pa_nil)) pa_nil)) pa_nil)))) pa_nil))))) (pss_one (ps_ret pe_bl)) pss_nil)
  (pss_cons (ps_set (i := 11) sc_law.nd rfl (Or.inl rfl) (pe_op op_add_str pe_str (pe_op op_mulS pe_str (pe_op op_add pe_int (pv 9)))))
  (pss_cons (ps_if (PW.pt (pw_or (pt_cmpR op_ne (pe_ix ix_tup (pc c_law_told (hr.mono (by decide)) (pa_cons (pe_op op_add_str pe_str (pv 11)) pa_nil)) pe_int (fun _ _ => rfl)) (pe_ix ix_list (pe_lst (pa_cons pe_str (pa_cons pe_str pa_nil))) (pv 9) (fun _ _ => rfl)) (nomark _)) (pw_or1 (pt_cmpR op_ne (pe_ix ix_tup (pc c_law_told (hr.mono (by decide)) (pa_cons (pe_op op_add_str (pe_op op_add_str pe_str (pv 11)) pe_str) pa_nil)) pe_int (fun _ _ => rfl)) (pe_ix ix_list (pe_lst (pa_cons pe_str (pa_cons pe_str pa_nil))) (pv 9) (fun _ _ => rfl)) (nomark _))))) (pss_one (ps_ret pe_bl)) pss_nil)
  (pss_one (ps_ret (pe_and (pe_cmpR (op_eqD hr.units) (pc c_law_told (hr.mono (by decide)) (pa_cons pe_str pa_nil)) (pe_tup (pa_cons pe_str (pa_cons (pe_tup pa_nil) pa_nil))) (nomark _)) (pe_and (pe_cmpR (op_eqD hr.units) (pc c_law_told (hr.mono (by decide)) (pa_cons pe_str pa_nil)) (pe_tup (pa_cons pe_str (pa_cons pe_int pa_nil))) (nomark _)) (pe_one (pe_cmpR (op_eqD hr.units) (pc c_law_told (hr.mono (by decide)) (pa_cons pe_str pa_nil)) (pe_tup (pa_cons pe_str (pa_cons pe_int pa_nil))) (nomark _)))))))))))))))))))))), ?_⟩
  refine ⟨_, rfl, l, ns, 0, rfl, hl, hn, fun p H1 hp s1 hS1 => ?_⟩
  refine ⟨Nat.zero_le _, fun g hg => ?_⟩
  have ngp := hS1.ne hg
  have hS2 : Src (upd H1 g (.lst [])) p := hS1.same (same_new hg _)
  have eg : (upd H1 g (.lst [])) g = some (.lst []) := upd_same
  generalize upd H1 g (.lst []) = H2 at hS2 eg
  have I2 : PI K H2 g p [] 0 := ⟨hS2, ⟨[], eg, .nil⟩, by simp, by simp⟩
  refine ⟨_, rfl, p, _, rfl, by decide, by decide, hS2, fun n H3 n0 n7 s3 hS3 => ⟨_, rfl, by omega, by omega, for_src src_range (fun i σ H' => ∃ rows, PI K H' g p rows (i * 13765) ∧ ∃ v3, σ = [some (.ref l), some (.ref p), some (.ref g), v3, none, none, none, none, none, none, none, none])
    ⟨[], (I2.step s3 hS3 ngp).le (Nat.zero_le _), none, rfl⟩ (fun _ _ _ _ _ => trivial) (fun i v σ H' hi ⟨rows, I, v3, eσ⟩ => ?_) fun σ H' ⟨rows, I, v3, eσ⟩ => ?_⟩⟩
  · subst eσ
    have hi6 : i < 6 := by
      have := (nums_inv hi).1
      omega
    obtain ⟨vs, hv, hd⟩ := I.ex
    have hvl := I.vs_len hd
    refine ⟨_, rfl, .inl ⟨rfl, _, SqL.of hv⟩, _, rfl, p, _, rfl, by decide, by decide, I.src, fun r H4 r0 r4 s4 hS4 => ⟨_, _, rfl, rfl, _, rfl, by omega, by omega, fun Dd hD => ?_⟩⟩
    have e4 := s4 _ _ ngp hv
    have nDp : Dd ≠ p := hS4.ne hD
    have ngD : g ≠ Dd := ne_of_none e4 hD
    have ts4 := I.src.ts s4
    refine lc_src src_range (fun i H' => TS H4 H' ∧ Src H' p ∧ H' g = some (.lst vs) ∧ ∃ us ds, H' Dd = some (.lst us) ∧ DtAll K H' us ds ∧ ds.length = i ∧ goods 4 ds ∧ ∀ d ∈ ds, (wr d).length ≤ msz 4)
        ⟨TS.of (same_new hD _), hS4.same (same_new hD _), by rw [upd_ne ngD]; exact e4, [], [], upd_same, .nil, rfl, by simp [goods], by simp⟩ (fun _ _ _ _ => trivial) (fun j v H5 hx ⟨t5, hS5, e5, us, ds, hu, hdt, hdl, hg, hl⟩ => ?_) fun H5 ⟨t5, hS5, e5, us, ds, hu, hdt, hdl, hg, hl⟩ => ?_
    · refine ⟨wipe1, ?_⟩
      unfold tYes
      dsimp only
      rw [if_pos rfl]
      have hj : j < 4 := by
        have := (nums_inv hx).1
        omega
      refine ⟨_, rfl, 4, p, rfl, rfl, hS5, fun u d H6 s6 hS6 hud hgd hwd => ?_⟩
      have hu6 := s6 _ _ nDp hu
      have e6 := s6 _ _ ngp e5
      have t6 := hS5.ts s6
      have t7 : TS H6 (upd H6 Dd (.lst (us ++ [u]))) := TS.at hu6
      have hul := dtAll_len hdt
      refine ⟨_, hu6, small_lt (by omega), (t5.trans t6).trans t7, ?_, by rw [upd_ne ngD]; exact e6, _, ds ++ [d], upd_same, dtAll_app (dtAll_mono (t6.trans t7) hdt) (.cons (dt_mono t7 hud) .nil), ?_, ?_, ?_⟩
      · obtain ⟨a, t, c, z⟩ := hS6
        exact ⟨a, t, c, by rw [upd_ne (Ne.symm nDp)]; exact z⟩
      · rw [List.length_append, hdl]; rfl
      · exact goods_app.mpr ⟨hg, by simp [goods, hgd]⟩
      · intro e he
        rcases List.mem_append.mp he with he | he
        · exact hl e he
        · rw [List.mem_singleton.mp he]; exact hwd
    · rw [nums_len] at hdl
      have h1 : 1 ≤ ds.length := by omega
      have h4 : ds.length ≤ 4 := by omega
      have hw := wrs_upper ds (msz 4) hl
      have hm : msz 4 = 3440 := by decide
      have hw2 : ds.length * (msz 4 + 1) ≤ 4 * (msz 4 + 1) := Nat.mul_le_mul_right _ h4
      refine ⟨Dd, us, rfl, .inl ⟨SqL.of hu, fun t ht => ?_⟩⟩
      have ngt : g ≠ t := ne_of_none e5 ht
      have sN : Same H5 (upd H5 t (.tup us)) := same_new ht _
      refine ⟨g, vs, _, rfl, rfl, by rw [upd_ne ngt]; exact e5, small_lt (by omega), rows ++ [ds], ?_, _, rfl⟩
      have hI := I.add (H' := upd H5 t (.tup us)) (v := .ref t) (row := ds) (k := 13765) hv hd ((ts4.trans t5).trans (TS.of sN)) (hS5.same sN) ngp (by rw [upd_ne ngt]; exact e5) (.tup (SqT.of upd_same) (dtAll_mono (TS.of sN) hdt)) (goods_mono (by decide) hg) (fun z => by rw [z] at h1; exact absurd h1 (by decide)) (by omega)
      exact hI.le (by rw [Nat.succ_mul]; omega)
  · subst eσ
    rw [nums_len] at I
    have I := I.le (b := 82590) (by
      have : n.toNat ≤ 6 := by omega
      have := Nat.mul_le_mul_right 13765 this
      omega)
    have k1 : ∀ D : Ends, (∀ H'' rows, PI K H'' g p rows 82690 → D.nx [some (.ref l), some (.ref p), some (.ref g), v3, none, none, none, none, none, none, none, none] H'') →
        tIfS (tTest (tOp rEq (tCall spPick [] E0 (tCons (tVar 1) (tCons (tC (V.int 3)) tNil))) (tC (V.int 0)))) (tDrop (tBM K "list" rAppend (tVar 2) (tCons (tTup (tCons (tCall (spNest K) [] E0 (tCons (tCall (spMember K 4) [] E0 (tCons (tVar 1) (tCons (tC (V.int 0)) tNil))) (tCons (tCall spPick [] E0 (tCons (tVar 1) (tCons (tC (V.int 12)) tNil))) tNil))) tNil)) tNil))) tNext D
          [some (.ref l), some (.ref p), some (.ref g), v3, none, none, none, none, none, none, none, none] H' := fun D hD => by
      refine ⟨_, rfl, p, _, rfl, by decide, by decide, I.src, fun r H3 _ _ s3 hS3 => ⟨rfl, _, rfl, ite2 (fun _ => ?_) fun _ => hD _ rows ((I.step s3 hS3 ngp).le (by decide))⟩⟩
      have I3 := I.step s3 hS3 ngp
      obtain ⟨vs, hv, hd⟩ := I3.ex
      have hvl := I3.vs_len hd
      refine ⟨_, rfl, .inl ⟨rfl, _, SqL.of hv⟩, _, rfl, 0, p, rfl, rfl, hS3, fun u d H4 s4 hS4 hu hgd hwd => ⟨_, rfl, p, _, rfl, by decide, by decide, hS4, fun r H5 r0 r12 s5 hS5 => ?_⟩⟩
      obtain ⟨k, rfl⟩ : ∃ k : Nat, r = (k : Int) := ⟨r.toNat, by omega⟩
      refine ⟨u, d, k, rfl, by omega, dt_mono (hS4.ts s5) hu, fun x H6 s6 hx => ⟨by show 1 ≤ sizeLine; decide, fun t ht => ?_⟩⟩
      have e6 := s6 _ _ (s5 _ _ ngp (s4 _ _ ngp hv))
      have ngt : g ≠ t := ne_of_none e6 ht
      have sN : Same H6 (upd H6 t (.tup [x])) := same_new ht _
      refine ⟨g, vs, _, rfl, rfl, by rw [upd_ne ngt]; exact e6, small_lt (by omega), hD _ (rows ++ [[nestD k d]]) ?_⟩
      have hnl := nest_len d k
      have hm : msz 0 = 40 := rfl
      refine (I3.add (H' := upd H6 t (.tup [x])) (v := .ref t) (row := [nestD k d]) (k := 100) hv hd ?_ ((hS5.same s6).same sN) ngp (by rw [upd_ne ngt]; exact e6) (.tup (SqT.of upd_same) (.cons (dt_mono (TS.of sN) hx) .nil)) ?_ (by simp) ?_).le (by decide)
      · exact (((hS3.ts s4).trans (hS4.ts s5)).trans (TS.of s6)).trans (TS.of sN)
      · have := good_mono (m := 11) (by omega : 0 + k ≤ 11) (nest_good hgd k)
        simp [goods, this]
      · have : wrs [nestD k d] = wr (nestD k d) := by simp [wrs, wrt]
        rw [this, hnl]
        omega
    refine k1 _ fun H' rows I => ?_
    have k2 : ∀ D : Ends, (∀ H'' rows, PI K H'' g p rows 82790 → D.nx [some (.ref l), some (.ref p), some (.ref g), v3, none, none, none, none, none, none, none, none] H'') →
        tIfS (tTest (tOp rEq (tCall spPick [] E0 (tCons (tVar 1) (tCons (tC (V.int 4)) tNil))) (tC (V.int 0)))) (tDrop (tBM K "list" rAppend (tVar 2) (tCons (tTup (tCons (tOp (rI0 fun i j => V.int (i - j)) (tOp (rI CMul fun i j => V.int (i * j)) (tOp (rI CPow fun i j => V.int (i ^ j.toNat)) (tC (V.int 10)) (tC (V.int 30)))
            (tCall spNumber [] E0 (tCons (tVar 1) (tCons (tOp (rI CPow fun i j => V.int (i ^ j.toNat)) (tC (V.int 10)) (tC (V.int 18))) tNil)))) (tC (V.int 1))) (tCons (tTup tNil) tNil))) tNil))) tNext D
          [some (.ref l), some (.ref p), some (.ref g), v3, none, none, none, none, none, none, none, none] H' := fun D hD => by
      refine ⟨_, rfl, p, _, rfl, by decide, by decide, I.src, fun r H3 _ _ s3 hS3 => ⟨rfl, _, rfl, ite2 (fun _ => ?_) fun _ => hD _ rows ((I.step s3 hS3 ngp).le (by decide))⟩⟩
      have I3 := I.step s3 hS3 ngp
      obtain ⟨vs, hv, hd⟩ := I3.ex
      have hvl := I3.vs_len hd
      refine ⟨_, rfl, .inl ⟨rfl, _, SqL.of hv⟩, _, _, rfl, rfl, ⟨by decide, by decide, by decide⟩, _, rfl, _, _, rfl, rfl, ⟨by decide, by decide, by decide⟩, p, _, rfl, by decide, hS3, fun x H4 x0 x1 s4 hS4 => ?_⟩
      have e18 : (10 : Int) ^ Int.toNat 18 = 1000000000000000000 := by decide
      have e30 : (10 : Int) ^ Int.toNat 30 = 1000000000000000000000000000000 := by decide
      rw [e18] at x1
      refine ⟨_, _, rfl, rfl, .inr ⟨by omega, by omega⟩, _, _, rfl, rfl, Nat.zero_le _, fun z hz => ⟨by show 2 ≤ sizeLine; decide, fun t ht => ?_⟩⟩
      have e4 := s4 _ _ ngp hv
      have sZ : Same H4 (upd H4 z (.tup [])) := same_new hz _
      have eZ : (upd H4 z (.tup [])) z = some (.tup []) := upd_same
      generalize upd H4 z (.tup []) = H5 at sZ eZ ht
      have sN : Same H5 (upd H5 t (.tup [.int (10 ^ Int.toNat 30 * x - 1), .ref z])) := same_new ht _
      have e5 := sZ _ _ e4
      have ngt : g ≠ t := ne_of_none e5 ht
      refine ⟨g, vs, _, rfl, rfl, by rw [upd_ne ngt]; exact e5, small_lt (by omega), hD _ (rows ++ [[.int (10 ^ Int.toNat 30 * x - 1), .tuple []]]) ?_⟩
      have hx : (10 ^ Int.toNat 30 * x - 1).natAbs < 10 ^ 49 := by
        rw [e30]
        have : 10 ^ 49 = 10000000000000000000000000000000000000000000000000 := by decide
        omega
      have hxl := TL.numL_len (by decide) hx
      have hxi := intL_len (by decide) hx
      refine (I3.add (H' := upd H5 t (.tup [.int (10 ^ Int.toNat 30 * x - 1), .ref z])) (v := .ref t) (row := [.int (10 ^ Int.toNat 30 * x - 1), .tuple []]) (k := 100) hv hd (((hS3.ts s4).trans (TS.of sZ)).trans (TS.of sN)) ((hS4.same sZ).same sN) ngp (by rw [upd_ne ngt]; exact e5)
        (.tup (SqT.of upd_same) (.cons (.int _) (.cons (.tup (SqT.of (sN _ _ eZ)) .nil) .nil))) ?_ (by simp) ?_).le (by decide)
      · have : (TL.numL (10 ^ Int.toNat 30 * x - 1).natAbs).length ≤ 1000 := by omega
        simp [goods, good]
        exact this
      · have : wrs [.int (10 ^ Int.toNat 30 * x - 1), .tuple []] = intL (10 ^ Int.toNat 30 * x - 1) ++ [32, 40, 41] := by simp [wrs, wrt, wr]
        rw [this, List.length_append]
        have : ([32, 40, 41] : Cs).length = 3 := rfl
        omega
    refine k2 _ fun H' rows I => ?_
    obtain ⟨vs, hv, hd⟩ := I.ex
    have hvl := I.vs_len hd
    have hrow := I.ok
    have htot := I.sz
    have hS := I.src
    refine ⟨_, rfl, g, vs, rfl, .inl ⟨SqL.of hv, fun t ht => ?_⟩⟩
    have sN : Same H' (upd H' t (.tup vs)) := same_new ht _
    have et : (upd H' t (.tup vs)) t = some (.tup vs) := upd_same
    have hS1 := hS.same sN
    have hd1 := dtAll_mono (TS.of sN) hd
    generalize upd H' t (.tup vs) = H1 at et hS1 hd1
    have hpu := ptext_upper rows
    have hback := paper_back hrow
    have hlen := dtAll_len hd1
    rw [List.length_map] at hlen
    have e10 : TL.tl ("\n" : Str) = [10] := by decide +kernel
    have l2 : ("\n" : Str).length = 1 := by decide +kernel
    refine ⟨⟨_, rfl⟩, _, rfl, t, rfl, ⟨_, SqT.of et⟩, fun L hL => lc_ix src_tup (fun i => .str (mkS (wrs (rows.getD i [])))) hL (small_lt (by omega)) (fun H' s => SqT.of (s _ _ et)) (fun i x H' Q' hx s k => ?_) fun H2 s2 hLst => ?_⟩
    · obtain ⟨d, hd, hdt⟩ := dtAll_get hd1 hx
      rw [List.getElem?_map] at hd
      obtain ⟨row, hr, rfl⟩ := Option.map_eq_some_iff.mp hd
      have e : rows.getD i [] = row := by rw [List.getD_eq_getElem?_getD, hr]; rfl
      simp only [e] at k
      have hmem : row ∈ rows := List.mem_of_getElem? hr
      have hz : (wrs row).length ≤ 82790 := by
        have := sum_mem (List.mem_map.mpr ⟨row, hmem, rfl⟩ : (wrs row).length ∈ rows.map fun r => (wrs r).length)
        omega
      have hg := (hrow row hmem).1
      refine ⟨_, rfl, 12, x, .tuple row, rfl, rfl, dt_mono (TS.of s) hdt, hg, by rw [wr_tuple]; omega, fun H6 s7 => ⟨1, rfl, 1, rfl, _, rfl, _, rfl, by rw [mkS_len, wr_tuple]; exact small_of (by omega), ?_⟩⟩
      have hcut : cutS (mkS (wr (.tuple row))) (some 1) (some (-1)) = mkS (wrs row) := TL.ext_tl (by
        rw [cut_in, mkS_len, tl_mkS, wr_tuple, tl_mkS]
        have : wr (.tuple row) = 40 :: (wrs row ++ [41]) := by simp [wr]
        rw [this]
        simp)
      rw [show -(1 : Int) = -1 from rfl, hcut]
      exact k H6 s7
    have el : (List.range vs.length).map (fun i => V.str (mkS (wrs (rows.getD i [])))) = (rows.map fun r => mkS (wrs r)).map V.str := by
      rw [hlen, range_get (fun d => V.str (mkS (wrs d))) [] rows, List.map_map]; rfl
    rw [el] at hLst
    have hj : Txt.join "\n" (rows.map fun d => mkS (wrs d)) = mkS (ptext rows) := TL.ext_tl (by
      rw [TL.join_eq, TL.tl_join, e10, List.map_map]
      rfl)
    refine ⟨_, _, _, rfl, rfl, .inl (SqL.of hLst), ?_, ?_⟩
    · rw [List.length_map, List.map_map, l2]
      have e2 : (rows.map (Str.length ∘ fun d => mkS (wrs d))) = rows.map fun d => (wrs d).length := List.map_congr_left fun d _ => mkS_len _
      rw [e2]
      omega
    rw [hj]
    have hS2 := hS1.same s2
    have et2 := s2 _ _ et
    have hd2 := dtAll_mono (TS.of s2) hd1
    have hpd : ∀ H3, TS H2 H3 → Dt K H3 (.ref t) (.tuple (rows.map .tuple)) := fun H3 ts => dt_mono ts (.tup (SqT.of et2) hd2)
    -- due
    refine ⟨_, rfl, by show 2 ≤ sizeLine; decide, fun u hu => ?_⟩
    have s3 : Same H2 (upd H2 u (.tup [.str "let", .ref t])) := same_new hu _
    have hdue : Dt K (upd H2 u (.tup [.str "let", .ref t])) (.ref u) (.tuple [.str "let", .tuple (rows.map .tuple)]) := .tup (SqT.of upd_same) (.cons (.str _) (.cons (hpd _ (TS.of s3)) .nil))
    have hS3 := hS2.same s3
    have hpd3 := hpd _ (TS.of s3)
    have et3 := s3 _ _ et2
    have hd3 := dtAll_mono (TS.of s3) hd2
    generalize upd H2 u (.tup [.str "let", .ref t]) = H3 at s3 hdue hS3 hpd3 et3 hd3
    have hml : (mkS (ptext rows)).length ≤ 82790 := by rw [mkS_len]; omega
    have hans : ansD (paperOf (TL.tl (mkS (ptext rows)))) = .tuple [.str "let", .tuple (rows.map .tuple)] := by
      rw [tl_mkS, hback]; rfl
    have hdep : dep 14 (.tuple [.str "let", .tuple (rows.map .tuple)]) := rows_dep fun row hr => (hrow row hr).1
    refine ⟨_, rfl, _, rfl, by omega, fun v H4 s4 hv4 => ⟨_, rfl, 14, v, .ref u, _, rfl, rfl, hv4, by rw [hans]; exact dt_mono (TS.of s4) hdue, by rw [hans]; exact hdep, fun H5 s5 => ⟨_, rfl, iteF ?_⟩⟩⟩
    refine ⟨_, rfl, t, vs, rows, rfl, SqT.of (s5 _ _ (s4 _ _ et3)), dtAll_mono (TS.of (s4.trans s5)) hd3, fun row hr => (hrow row hr).1, by omega, fun H6 s6 => ⟨_, rfl, 14, _, _, .str (mkS (ptext rows)), rfl, rfl, .str _, .str _, by simp [dep], fun H7 s7 => ⟨_, rfl, iteF ?_⟩⟩⟩
    have s37 := ((s4.trans s5).trans s6).trans s7
    refine ⟨_, rfl, _, rfl, by omega, fun v H8 s8 hv8 => ⟨_, rfl, 14, v, .ref u, _, rfl, rfl, hv8, by rw [hans]; exact dt_mono (TS.of (s37.trans s8)) hdue, by rw [hans]; exact hdep, fun H9 s9 => ⟨_, rfl, iteF ?_⟩⟩⟩
    have hS9 := hS3.same ((s37.trans s8).trans s9)
    -- the spoilt texts
    refine ⟨_, rfl, by decide, by decide, for_src src_range (fun i σ H' => Src H' p ∧ ∃ y v3 v8, σ = [some (.ref l), some (.ref p), some (.ref t), v3, none, some (.str y), none, some (.ref u), v8, none, none, none] ∧ y.length ≤ 82790 + i)
      ⟨hS9, mkS (ptext rows), v3, none, rfl, by omega⟩ (fun _ _ _ _ _ => trivial) (fun i v σ H' hi ⟨hS', y, v3, v8, eσ, hy⟩ => ?_) fun σ H' ⟨hS', y, v3, v8, eσ, hy⟩ => ?_⟩
    · subst eσ
      have hi6 : i < 6 := (nums_inv hi).1
      refine ⟨_, rfl, _, rfl, p, y, rfl, by omega, hS', fun z H4 s4 hS4 hz => ?_⟩
      refine ⟨_, rfl, z, rfl, by omega, fun v H5 s5 hv5 => ⟨_, rfl, z, rfl, by omega, fun u2 H6 s6 hu6 => ⟨14, v, u2, _, rfl, rfl, dt_mono (TS.of s6) hv5, hu6, ansD_dep _, fun H7 s7 => ⟨_, rfl, iteF ?_⟩⟩⟩⟩
      have hS7 := hS4.same ((s5.trans s6).trans s7)
      refine ⟨_, rfl, p, _, rfl, by decide, by decide, hS7, fun r H8 _ _ s8 hS8 => ⟨rfl, _, rfl, ite2 (fun _ => ?_) fun _ => ?_⟩⟩
      · exact ⟨_, rfl, hS8, z, _, _, rfl, by omega⟩
      · exact ⟨hS8, y, _, _, rfl, by omega⟩
    · subst eσ
      refine ⟨_, rfl, p, _, rfl, by decide, by decide, hS', fun r H4 r0 r2 s4 hS4 => ?_⟩
      obtain ⟨many, rfl⟩ : ∃ k : Nat, r = (k : Int) := ⟨r.toNat, by omega⟩
      have hm2 : many = 0 ∨ many = 1 := by omega
      have eo : (Str.ofString "(") = ⟨#[40]⟩ := by decide +kernel
      have ec : (Str.ofString ")") = ⟨#[41]⟩ := by decide +kernel
      have ez : (Str.ofString "0") = ⟨#[48]⟩ := by decide +kernel
      have rl : ∀ (n : Int) (c : Nat), TL.tl (⟨(List.replicate n.toNat c).toArray⟩ : Str) = List.replicate n.toNat c := fun n c => rfl
      have rll : ∀ (n : Int) (c : Nat), (⟨(List.replicate n.toNat c).toArray⟩ : Str).length = n.toNat := fun n c => by rw [TL.len_tl, rl, List.length_replicate]
      have lx : (Str.ofString "x").length = 1 := by decide +kernel
      have tx : TL.tl (Str.ofString "x") = [120] := by decide +kernel
      refine ⟨_, rfl, _, _, rfl, rfl, 40, _, congrArg V.str eo, rfl, by omega, by omega, ?_⟩
      refine ⟨_, _, rfl, rfl, by rw [rll, lx]; exact small_of (by omega), _, rfl, _, _, rfl, rfl, 41, _, congrArg V.str ec, rfl, by omega, by omega, ?_⟩
      refine ⟨_, _, rfl, rfl, by rw [Str.length_append, rll, lx, rll]; exact small_of (by omega), ?_⟩
      have hline : ∀ n : Int, n = 11 + (many : Int) → TL.tl ((⟨(List.replicate n.toNat 40).toArray⟩ : Str) ++ Str.ofString "x" ++ (⟨(List.replicate n.toNat 41).toArray⟩ : Str)) = deepT (11 + many) := fun n hn => by
        rw [TL.tl_append, TL.tl_append, rl, rl, tx]
        have : n.toNat = 11 + many := by omega
        rw [this]; rfl
      have hline := hline (11 + (many : Int)) rfl
      generalize ((⟨(List.replicate (11 + (many : Int)).toNat 40).toArray⟩ : Str) ++ Str.ofString "x" ++ (⟨(List.replicate (11 + (many : Int)).toNat 41).toArray⟩ : Str)) = ln at hline
      have hlnl : ln.length ≤ 30 := by
        rw [TL.len_tl, hline]
        unfold deepT
        rw [List.length_append, List.length_append, List.length_replicate, List.length_replicate]
        have : ([120] : Cs).length = 1 := rfl
        omega
      refine ⟨_, rfl, ln, rfl, by omega, fun v H5 s5 hv5 => ?_⟩
      rw [hline] at hv5
      refine ⟨_, rfl, rfl, _, rfl, ?_⟩
      apply key_use
      case main =>
        intro key
        refine ite2 (fun e => ?_) fun e => ?_
        · have h1 : V.int (many : Int) = V.int 1 := of_decide_eq_true e
          have h1 : many = 1 := by have := V.int.inj h1; omega
          refine ⟨by show 2 ≤ sizeLine; decide, fun t1 ht1 => ?_⟩
          have sN : Same H5 (upd H5 t1 (.tup [.str "raised", .int 1])) := same_new ht1 _
          have ha : ansD (paperOf (deepT (11 + many))) = .tuple [.str "raised", .int 1] := by rw [h1, deep1_err]; rfl
          rw [ha] at hv5
          refine ⟨14, v, .ref t1, _, rfl, rfl, dt_mono (TS.of sN) hv5, .tup (SqT.of upd_same) (.cons (.str _) (.cons (.int _) .nil)), by simp [dep, deps], fun H6 s6 => ⟨_, rfl, iteF ?_⟩⟩
          exact key H6
        · have h1 : ¬ V.int (many : Int) = V.int 1 := of_decide_eq_false (Bool.eq_false_iff.mpr e)
          have h1 : many = 0 := by
            rcases hm2 with h | h
            · exact h
            · exact absurd (by rw [h]; rfl) h1
          have ha : ansD (paperOf (deepT (11 + many))) = .tuple [.str "let", .tuple [.tuple [nestD 11 (.str "x")]]] := by rw [h1, deep0_back]; rfl
          have hdp := ansD_dep (deepT (11 + many))
          rw [ha] at hv5 hdp
          refine ⟨.str "x", .str "x", 11, rfl, by decide, .str _, fun u1 H6 s6 hu1 => ⟨by show 1 ≤ sizeLine; decide, fun t1 ht1 => ⟨by show 1 ≤ sizeLine; decide, fun t2 ht2 => ⟨by show 2 ≤ sizeLine; decide, fun t3 ht3 => ?_⟩⟩⟩⟩
          have q1 : Same H6 (upd H6 t1 (.tup [u1])) := same_new ht1 _
          have q2 : Same (upd H6 t1 (.tup [u1])) (upd (upd H6 t1 (.tup [u1])) t2 (.tup [.ref t1])) := same_new ht2 _
          have q3 : Same (upd (upd H6 t1 (.tup [u1])) t2 (.tup [.ref t1])) (upd (upd (upd H6 t1 (.tup [u1])) t2 (.tup [.ref t1])) t3 (.tup [.str "let", .ref t2])) := same_new ht3 _
          refine ⟨14, v, .ref t3, _, rfl, rfl, dt_mono (TS.of (((s6.trans q1).trans q2).trans q3)) hv5, ?_, hdp, fun H7 s7 => ⟨_, rfl, iteF ?_⟩⟩
          · exact .tup (SqT.of upd_same) (.cons (.str _) (.cons (.tup (SqT.of (q3 _ _ upd_same)) (.cons (.tup (SqT.of (q3 _ _ (q2 _ _ upd_same))) (.cons (dt_mono (TS.of ((q1.trans q2).trans q3)) hu1) .nil)) .nil)) .nil))
          · exact key H7
      case rest =>
        intro H6
        have l1 : (Str.ofString "1").length = 1 := by decide +kernel
        have t1 : TL.tl (Str.ofString "1") = [49] := by decide +kernel
        have la : (Str.ofString "a\n").length = 2 := by decide +kernel
        have ta : TL.tl (Str.ofString "a\n") = [97, 10] := by decide +kernel
        have lm : (Str.ofString "-").length = 1 := by decide +kernel
        have tm : TL.tl (Str.ofString "-") = [45] := by decide +kernel
        have lz : (Str.ofString " 0").length = 2 := by decide +kernel
        have tz : TL.tl (Str.ofString " 0") = [32, 48] := by decide +kernel
        refine ⟨_, rfl, _, _, rfl, rfl, 48, _, congrArg V.str ez, rfl, by omega, by omega, _, _, rfl, rfl, by rw [rll, l1]; exact small_of (by omega), ?_⟩
        have hlg : TL.tl (Str.ofString "1" ++ (⟨(List.replicate (999 + (many : Int)).toNat 48).toArray⟩ : Str)) = longT (999 + many) := by
          rw [TL.tl_append, rl, t1]
          have : (999 + (many : Int)).toNat = 999 + many := by omega
          rw [this]; rfl
        have hlgl : (Str.ofString "1" ++ (⟨(List.replicate (999 + (many : Int)).toNat 48).toArray⟩ : Str)).length ≤ 1001 := by
          rw [Str.length_append, l1, rll]; omega
        refine (fun (key : ∀ lg : Str, TL.tl lg = longT (999 + many) → lg.length ≤ 1001 → gName 11 (.str lg) _ H6 _) => key _ hlg hlgl) fun lg hlg hlgl => ?_
        obtain ⟨hd, hat, hA, hB⟩ : ∃ hd : Str, atI [V.str (Str.ofString "let"), V.str (Str.ofString "raised")] (many : Int) = some (.str hd) ∧ (∀ H v, Dt K H v (ansD (paperOf ([97, 10] ++ longT (999 + many)))) → ∃ a u, v = .ref a ∧ SqT K H a [.str hd, u]) ∧
            (∀ H v, Dt K H v (ansD (paperOf (45 :: longT (999 + many) ++ [32, 48]))) → ∃ a u, v = .ref a ∧ SqT K H a [.str hd, u]) := by
          rcases hm2 with h | h
          · subst h
            refine ⟨Str.ofString "let", rfl, fun H v h => ?_, fun H v h => ?_⟩
            · obtain ⟨rows, e⟩ := long_let
              rw [show 999 + 0 = 999 from rfl, e] at h
              exact ansD_head h
            · obtain ⟨rows, e⟩ := long_let2
              rw [show 999 + 0 = 999 from rfl, e] at h
              exact ansD_head h
          · subst h
            refine ⟨Str.ofString "raised", rfl, fun H v h => ?_, fun H v h => ?_⟩
            · obtain ⟨rows, e⟩ := long_rai
              rw [show 999 + 1 = 1000 from rfl, e] at h
              exact ansD_head h
            · obtain ⟨rows, e⟩ := long_rai2
              rw [show 999 + 1 = 1000 from rfl, e] at h
              exact ansD_head h
        refine ⟨_, rfl, _, _, rfl, rfl, by rw [la]; exact small_of (by omega), _, rfl, by rw [Str.length_append, la]; omega, fun v H7 s7 hv7 => ?_⟩
        rw [TL.tl_append, ta, hlg] at hv7
        obtain ⟨a, u1, rfl, hSa⟩ := hA _ _ hv7
        refine ⟨a, _, 0, .str hd, rfl, rfl, hSa, rfl, by show 2 ≤ sizeLine; decide, fun L1 hL1 => ⟨_, rfl, L1, _, _, .str hd, rfl, rfl, SqL.of upd_same, hat, rfl, _, rfl, ite2 (fun e => by simp at e) fun _ => ?_⟩⟩
        refine ⟨_, rfl, _, _, rfl, rfl, by rw [lm]; exact small_of (by omega), _, _, rfl, rfl, by rw [Str.length_append, lm, lz]; exact small_of (by omega), _, rfl, by rw [Str.length_append, Str.length_append, lm, lz]; omega, fun v H8 s8 hv8 => ?_⟩
        rw [TL.tl_append, TL.tl_append, tm, tz, hlg] at hv8
        obtain ⟨b, u2, rfl, hSb⟩ := hB _ _ hv8
        refine ⟨b, _, 0, .str hd, rfl, rfl, hSb, rfl, by show 2 ≤ sizeLine; decide, fun L2 hL2 => ⟨_, rfl, L2, _, _, .str hd, rfl, rfl, SqL.of upd_same, hat, rfl, _, rfl, ite2 (fun e => by simp at e) fun _ => ?_⟩⟩
        -- the last three
        have z0 : TL.tl (Str.ofString "") = [] := by decide +kernel
        have z1 : TL.tl (Str.ofString "a 1\n") = [97, 32, 49, 10] := by decide +kernel
        have z2 : TL.tl (Str.ofString "a\n\n00") = [97, 10, 10, 48, 48] := by decide +kernel
        have f0 : PyData.eqv (.tuple [.str (Str.ofString "let"), .tuple []]) (.tuple [.str (Str.ofString "let"), .tuple []]) = true := by decide +kernel
        have f1 : PyData.eqv (.tuple [.str (Str.ofString "raised"), .int 2]) (.tuple [.str (Str.ofString "raised"), .int 2]) = true := by decide +kernel
        have g0 : SeqAt.shaped (.tuple [.str (Str.ofString "let"), .tuple []]) = true := by decide +kernel
        have g1 : SeqAt.shaped (.tuple [.str (Str.ofString "raised"), .int 2]) = true := by decide +kernel
        refine ⟨_, rfl, by rw [TL.len_tl, z0]; decide, fun v H9 s9 hv9 => ⟨Nat.zero_le _, fun t5 ht5 => ⟨by show 2 ≤ sizeLine; decide, fun t6 ht6 => ?_⟩⟩⟩
        rw [z0, e_none] at hv9
        have s5 := same_new ht5 (.tup [])
        have s6 := same_new ht6 (.tup [.str (Str.ofString "let"), .ref t5])
        refine ⟨.tuple [.str (Str.ofString "let"), .tuple []], .tuple [.str (Str.ofString "let"), .tuple []], dt_dp (dt_mono (TS.of (s5.trans s6)) hv9), dt_dp (.tup (SqT.of upd_same) (.cons (.str _) (.cons (.tup (SqT.of (s6 _ _ upd_same)) .nil) .nil))), g0, g0, ?_⟩
        rw [f0]
        refine ⟨_, rfl, iteT ?_⟩
        refine ⟨_, rfl, by rw [TL.len_tl, z1]; decide, fun v HA sA hvA => ⟨by show 2 ≤ sizeLine; decide, fun t7 ht7 => ?_⟩⟩
        rw [z1, e_a1] at hvA
        refine ⟨.tuple [.str (Str.ofString "raised"), .int 2], .tuple [.str (Str.ofString "raised"), .int 2], dt_dp (dt_mono (TS.of (same_new ht7 _)) hvA), dt_dp (.tup (SqT.of upd_same) (.cons (.str _) (.cons (.int _) .nil))), g1, g1, ?_⟩
        rw [f1]
        refine ⟨_, rfl, iteT ?_⟩
        refine ⟨_, rfl, by rw [TL.len_tl, z2]; decide, fun v HB sB hvB => ⟨by show 2 ≤ sizeLine; decide, fun t8 ht8 => ?_⟩⟩
        rw [z2, e_a00] at hvB
        refine ⟨.tuple [.str (Str.ofString "raised"), .int 2], .tuple [.str (Str.ofString "raised"), .int 2], dt_dp (dt_mono (TS.of (same_new ht8 _)) hvB), dt_dp (.tup (SqT.of upd_same) (.cons (.str _) (.cons (.int _) .nil))), g1, g1, ?_⟩
        rw [f1]
        exact q _
end
end K66

/-! K66End: the facts of the top, the end. -/
namespace K66
open PySem PySem.Spec PyProof.Rows L2 HR
section
variable {K : PySem.W.Frag} {h : Heap} {mg : Str → Option Value}
theorem funAt_mk {x : Str} {st : Stmt} {f : Addr} {oc : Value} {od an : Option Addr} {osl : Array (Option Value)} {kV doc pm cdv ct : Value} (X : K.In h) (G : h.Ns mainGlobals mg) (a : PySem.W.nsIn K mainGlobals x = some (some (.ref f)))
    (l : K.lookup f = some ⟨oc, od, .func (PySem.W.fnOf x x (defArgs st) (defBody st) (defScope st) .none kV doc pm an cdv ct), osl⟩) (c : PySem.W.codeIn K cdv x = true) (k : PySem.W.keepIn K (.ref f) = true) : FunAt K mg x st :=
  ⟨f, _, fun_mk l c k, PySem.W.mg_of X G a⟩
/-- an error of the class at C is what a clause that names C catches -/
theorem exm_own {C : Addr} (h1 : PySem.W.subIn K (.ref C) (.type "BaseException") = some true) (h2 : PySem.W.isClsIn K C = true) (h3 : PySem.W.typeIn K (.ref C) = some (.type "type")) (h4 : PySem.W.subIn K (.ref C) (.ref C) = some true) :
    PySem.W.exmOne K (.ref C) (.ref C) = some true := by
  have h2 : (PySem.W.clsIn K C).isSome = true := h2
  have e : PySem.W.kitCls K (.ref C) (.ref C) = some true := by
    unfold PySem.W.kitCls
    simp [h2, h3, h4]
  unfold PySem.W.exmOne
  simp [h1, e]
theorem err_mk {C S fI : Addr} {nm q : Str} {N : Addr} {bs : List Value} {sn : List Str} {sub : List Value} {ab : Bool} {col : Option Bool} {dd : Option Addr} {m0 m1 m2 m3 m5 : Option Value} {od an : Option Addr} {osl : Array (Option Value)} {oc kV doc pm cdv ct : Value}
    (X : K.In h) (G : h.Ns mainGlobals mg) (aC : PySem.W.nsIn K mainGlobals "BadLetter" = some (some (.ref C))) (aS : PySem.W.nsIn K mainGlobals "SleepError" = some (some (.ref S)))
    (xL : K.lookup C = some (excClassObj nm q C N bs [.ref S, .type "ValueError", .type "Exception", .type "BaseException", .type "object"] true sn sub ab col dd m0 m1 m2 m3 m5 "ValueError.__new__"))
    (sa : PySem.W.findIn K (.ref C) "__setattr__" = some (some (.builtin "object.__setattr__"))) (ga : PySem.W.findIn K (.ref C) "__getattribute__" = some (some (.builtin "BaseException.__getattribute__"))) (gg : PySem.W.findIn K (.ref C) "__getattr__" = some none)
    (nl : PySem.W.findIn K (.ref C) "line" = some none) (kC : PySem.W.keepIn K (.ref C) = true) (eC : PySem.W.subIn K (.ref C) (.type "BaseException") = some true) (tC : PySem.W.typeIn K (.ref C) = some (.type "type")) (hC : PySem.W.hasDictIn K C = true) (iC : PySem.W.isClsIn K C = true)
    (sC : PySem.W.subIn K (.ref C) (.ref C) = some true) (sp : PySem.W.specialIn K (.ref S) "__getattribute__" = some (some (.builtin "type.__getattribute__"))) (rd : PySem.W.readsIn K S (.type "type") = true)
    (fi : PySem.W.findCls K (.ref S) (.type "type") "__init__" = some (.val (.builtin "ValueError.__init__"))) (a1 : PySem.W.findIn K (.ref C) "__init__" = some (some (.ref fI))) (t1 : PySem.W.typeIn K (.ref fI) = some (.type "function"))
    (l1 : K.lookup fI = some ⟨oc, od, .func (PySem.W.fnOf "__init__" "BadLetter.__init__" (defArgs s_init) (defBody s_init) (defScope s_init) .none kV doc pm an cdv ct), osl⟩) (c1 : PySem.W.codeIn K cdv "BadLetter.__init__" = true) (k1 : PySem.W.keepIn K (.ref fI) = true) : Err K mg C S where
  ox := ⟨⟨nm, q, N, bs, _, sn, sub, ab, col, dd, m0, m1, m2, m3, m5, xL, rfl⟩, sa, eC, tC, kC⟩
  sup := ⟨sp, rd, fi⟩
  gC := PySem.W.mg_of X G aC
  gS := PySem.W.mg_of X G aS
  noL := nl
  te := exm_own eC iC tC sC
  hd := hC
  ga := ga
  gg := gg
  init := ⟨fI, _, a1, t1, fun_mk l1 c1 k1⟩
theorem txt_mk {tS tF : Tok} (X : K.In h) (G : h.Ns mainGlobals mg) (nd : PySem.W.nsIn K cStatics "sys.int_max_str_digits" = some none) (z0 : PySem.W.nsIn K mainGlobals "len" = some none) (z1 : PySem.W.nsIn K mainGlobals "range" = some none) (z2 : PySem.W.nsIn K mainGlobals "tuple" = some none) (z3 : PySem.W.nsIn K mainGlobals "int" = some none) (z4 : PySem.W.nsIn K mainGlobals "str" = some none) (z5 : PySem.W.nsIn K mainGlobals "bool" = some none) (z6 : PySem.W.nsIn K mainGlobals "dict" = some none) (z7 : PySem.W.nsIn K mainGlobals "list" = some none) (z8 : PySem.W.nsIn K mainGlobals "isinstance" = some none) (z9 : PySem.W.nsIn K mainGlobals "all" = some none) (z10 : PySem.W.nsIn K mainGlobals "min" = some none) (z11 : PySem.W.nsIn K mainGlobals "zip" = some none)
    (s1 : PySem.W.nsIn K mainGlobals "SMALL" = some (some (.str "abcdefghijklmnopqrstuvwxyz" tS))) (s2 : PySem.W.nsIn K mainGlobals "FIGURES" = some (some (.str "0123456789" tF))) : Txt K mg tS tF where
  nd := nd
  len := PySem.W.mg_none_of X G z0
  range := PySem.W.mg_none_of X G z1
  tuple := PySem.W.mg_none_of X G z2
  int := PySem.W.mg_none_of X G z3
  str := PySem.W.mg_none_of X G z4
  bool := PySem.W.mg_none_of X G z5
  dict := PySem.W.mg_none_of X G z6
  list := PySem.W.mg_none_of X G z7
  isinstance := PySem.W.mg_none_of X G z8
  all := PySem.W.mg_none_of X G z9
  min := PySem.W.mg_none_of X G z10
  zip := PySem.W.mg_none_of X G z11
  g_SMALL := PySem.W.mg_of X G s1
  g_FIGURES := PySem.W.mg_of X G s2
theorem all_mk {P : Program} {w : World} {tS tF : Tok} {C S fa f : Addr} {oc : Value} {od an : Option Addr} {osl : Array (Option Value)} {kV doc pm cdv ct : Value} (X : K.In h) (G : h.Ns mainGlobals mg) (hfa : mg "law" = some (.ref fa)) (T : Txt K mg tS tF) (ER : Err K mg C S)
    (F0 : FunAt K mg "paper_text" s_paper_text)
    (F1 : FunAt K mg "member_text" s_member_text)
    (F2 : FunAt K mg "is_word" s_is_word)
    (F3 : FunAt K mg "is_number" s_is_number)
    (F4 : FunAt K mg "line_tokens" s_line_tokens)
    (F5 : FunAt K mg "line_of" s_line_of)
    (F6 : FunAt K mg "read_line" s_read_line)
    (F7 : FunAt K mg "read_word" s_read_word)
    (F8 : FunAt K mg "paper_from" s_paper_from)
    (F9 : FunAt K mg "_law_source" s_law_source)
    (F10 : FunAt K mg "_law_pick" s_law_pick)
    (F11 : FunAt K mg "_law_number" s_law_number)
    (F12 : FunAt K mg "_law_shuffled" s_law_shuffled)
    (F13 : FunAt K mg "_law_grammar" s_law_grammar)
    (F14 : FunAt K mg "_law_words" s_law_words)
    (F15 : FunAt K mg "_law_same" s_law_same)
    (F16 : FunAt K mg "_law_member" s_law_member)
    (F17 : FunAt K mg "_law_nest" s_law_nest)
    (F18 : FunAt K mg "_law_written" s_law_written)
    (F19 : FunAt K mg "_law_word" s_law_word)
    (F20 : FunAt K mg "_law_line" s_law_line)
    (F21 : FunAt K mg "_law_read" s_law_read)
    (F22 : FunAt K mg "_law_told" s_law_told)
    (F23 : FunAt K mg "_law_spoilt" s_law_spoilt)
    (a : PySem.W.nsIn K mainGlobals "law" = some (some (.ref f))) (l : K.lookup f = some ⟨oc, od, .func (PySem.W.fnOf "law" "law" (defArgs s_law) (defBody s_law) (defScope s_law) .none kV doc pm an cdv ct), osl⟩) (c : PySem.W.codeIn K cdv "law" = true) (k : PySem.W.keepIn K (.ref f) = true) :
    ∃ fd : FuncData, (∀ (s : Shared) (v : Value), BindsTo s fd ⟨[v], []⟩ [("script", v)]) ∧ ∀ base : Heap, K.In base → base.Ns mainGlobals mg → FnOk P w K mg base CX0 16 fa fd ["script"] (spLaw K) := by
  have e := hfa.symm.trans (PySem.W.mg_of X G a)
  cases e
  refine ⟨PySem.W.fnOf "law" "law" (defArgs s_law) (defBody s_law) (defScope s_law) .none kV doc pm an cdv ct, fun s v => .of_eq rfl, fun base _ _ => ?_⟩
  have c1 := cal_is_word (P := P) (w := w) (base := base) T F2
  have c2 := cal_is_number (P := P) (w := w) (base := base) T F3
  have c3 := cal_member_text (P := P) (w := w) (base := base) T F1 12
  have c4 := cal_law_written (P := P) (w := w) (base := base) T F18 13
  have c5 := cal_line_of (P := P) (w := w) (base := base) T F5
  have c6 := cal_line_tokens T F4 c5
  have c7 := cal_read_word T ER F7 c1 c2
  have c8 := cal_read_line T ER F6 c6 c7
  have c9 := cal_paper_text T F0 c3
  have c10 := cal_paper_from T ER F8 c8
  have d1 := cal_source (P := P) (w := w) (base := base) T F9
  have d2 := cal_pick (P := P) (w := w) (base := base) T F10
  have d3 := cal_number T F11 d2
  have d4 := cal_shuffled T F12 d2
  have d5 := cal_grammar (P := P) (w := w) (base := base) T F13
  have d6 := cal_words T F14 d2 d4 d5
  have d7 := cal_same (P := P) (w := w) (base := base) T F15 15
  have d8 := cal_member T F16 d2 d3 d6 8
  have d9 := cal_member T F16 d2 d3 d6 4
  have d10 := cal_nest (P := P) (w := w) (base := base) T F17
  have d11 := cal_law_word (P := P) (w := w) (base := base) T F19
  have d12 := cal_law_line T F20 d11 c4
  have d13 := cal_read T F21 d12
  have d14 := cal_told T ER F22 c10
  have d15 := cal_spoilt T F23 d2
  exact cal_law T (fun_mk l c k) d1 d2 d3 d8 d9 d10 c4 d7 d14 d13 d15 c9
end
end K66
open PySem PySem.W PyProof.Rows
set_option maxRecDepth 100000 in
set_option maxHeartbeats 0 in
theorem PySem.Challenge.cw_tellsasleep_k66_papers_as_text_holds : PySem.Challenge.rw_tellsasleep_k66_papers_as_text.Holds := by
  w_on; o_law; k_head; (case hw => w_witness2)
  k_fill
  refine L2.walk_of (l := PySem.Challenge.rw_tellsasleep_k66_papers_as_text) (n := 63) (k := 16) (x := "script") (CX := fun _ => L2.CX0) (sp := fun w => K66.spLaw (_)) rfl (by decide) rfl ⟨rfl, by decide, by decide⟩ (fun w h Y => PySem.W.kIn_of Y) ?F (fun _ _ a ns hl _ hS => ⟨a, ns, rfl, hS, hl, fun _ => rfl⟩) (fun _ _ _ _ _ z => z)
  case F =>
    intro w mg fa h KX G hmg
    refine' K66.all_mk KX G hmg (K66.txt_mk KX G ?t_nd ?t_z0 ?t_z1 ?t_z2 ?t_z3 ?t_z4 ?t_z5 ?t_z6 ?t_z7 ?t_z8 ?t_z9 ?t_z10 ?t_z11 ?t_s1 ?t_s2) (K66.err_mk KX G ?e_aC ?e_aS ?e_xL ?e_sa ?e_ga ?e_gg ?e_nl ?e_kC ?e_eC ?e_tC ?e_hC ?e_iC ?e_sC ?e_sp ?e_rd ?e_fi ?e_a1 ?e_t1 ?e_l1 ?e_c1 ?e_k1)
      (K66.funAt_mk KX G ?a0 ?l0 ?c0 ?k0)
      (K66.funAt_mk KX G ?a1 ?l1 ?c1 ?k1)
      (K66.funAt_mk KX G ?a2 ?l2 ?c2 ?k2)
      (K66.funAt_mk KX G ?a3 ?l3 ?c3 ?k3)
      (K66.funAt_mk KX G ?a4 ?l4 ?c4 ?k4)
      (K66.funAt_mk KX G ?a5 ?l5 ?c5 ?k5)
      (K66.funAt_mk KX G ?a6 ?l6 ?c6 ?k6)
      (K66.funAt_mk KX G ?a7 ?l7 ?c7 ?k7)
      (K66.funAt_mk KX G ?a8 ?l8 ?c8 ?k8)
      (K66.funAt_mk KX G ?a9 ?l9 ?c9 ?k9)
      (K66.funAt_mk KX G ?a10 ?l10 ?c10 ?k10)
      (K66.funAt_mk KX G ?a11 ?l11 ?c11 ?k11)
      (K66.funAt_mk KX G ?a12 ?l12 ?c12 ?k12)
      (K66.funAt_mk KX G ?a13 ?l13 ?c13 ?k13)
      (K66.funAt_mk KX G ?a14 ?l14 ?c14 ?k14)
      (K66.funAt_mk KX G ?a15 ?l15 ?c15 ?k15)
      (K66.funAt_mk KX G ?a16 ?l16 ?c16 ?k16)
      (K66.funAt_mk KX G ?a17 ?l17 ?c17 ?k17)
      (K66.funAt_mk KX G ?a18 ?l18 ?c18 ?k18)
      (K66.funAt_mk KX G ?a19 ?l19 ?c19 ?k19)
      (K66.funAt_mk KX G ?a20 ?l20 ?c20 ?k20)
      (K66.funAt_mk KX G ?a21 ?l21 ?c21 ?k21)
      (K66.funAt_mk KX G ?a22 ?l22 ?c22 ?k22)
      (K66.funAt_mk KX G ?a23 ?l23 ?c23 ?k23)
      ?aL ?lL ?cL ?kL
    (case t_nd => k_is)
    (case t_z0 => k_is)
    (case t_z1 => k_is)
    (case t_z2 => k_is)
    (case t_z3 => k_is)
    (case t_z4 => k_is)
    (case t_z5 => k_is)
    (case t_z6 => k_is)
    (case t_z7 => k_is)
    (case t_z8 => k_is)
    (case t_z9 => k_is)
    (case t_z10 => k_is)
    (case t_z11 => k_is)
    (case t_s1 => k_is)
    (case t_s2 => k_is)
    (case e_aC => k_is)
    (case e_aS => k_is)
    (case e_xL => k_is)
    (case e_sa => k_is)
    (case e_ga => k_is)
    (case e_gg => k_is)
    (case e_nl => k_is)
    (case e_kC => k_is)
    (case e_eC => k_is)
    (case e_tC => k_is)
    (case e_hC => k_is)
    (case e_iC => k_is)
    (case e_sC => first | rfl | k_is)
    (case e_sp => k_is)
    (case e_rd => k_is)
    (case e_fi => k_is)
    (case e_a1 => k_is)
    (case e_t1 => k_is)
    (case e_l1 => k_is)
    (case e_c1 => k_is)
    (case e_k1 => k_is)
    (case a0 => k_is)
    (case l0 => k_is)
    (case c0 => k_is)
    (case k0 => k_is)
    (case a1 => k_is)
    (case l1 => k_is)
    (case c1 => k_is)
    (case k1 => k_is)
    (case a2 => k_is)
    (case l2 => k_is)
    (case c2 => k_is)
    (case k2 => k_is)
    (case a3 => k_is)
    (case l3 => k_is)
    (case c3 => k_is)
    (case k3 => k_is)
    (case a4 => k_is)
    (case l4 => k_is)
    (case c4 => k_is)
    (case k4 => k_is)
    (case a5 => k_is)
    (case l5 => k_is)
    (case c5 => k_is)
    (case k5 => k_is)
    (case a6 => k_is)
    (case l6 => k_is)
    (case c6 => k_is)
    (case k6 => k_is)
    (case a7 => k_is)
    (case l7 => k_is)
    (case c7 => k_is)
    (case k7 => k_is)
    (case a8 => k_is)
    (case l8 => k_is)
    (case c8 => k_is)
    (case k8 => k_is)
    (case a9 => k_is)
    (case l9 => k_is)
    (case c9 => k_is)
    (case k9 => k_is)
    (case a10 => k_is)
    (case l10 => k_is)
    (case c10 => k_is)
    (case k10 => k_is)
    (case a11 => k_is)
    (case l11 => k_is)
    (case c11 => k_is)
    (case k11 => k_is)
    (case a12 => k_is)
    (case l12 => k_is)
    (case c12 => k_is)
    (case k12 => k_is)
    (case a13 => k_is)
    (case l13 => k_is)
    (case c13 => k_is)
    (case k13 => k_is)
    (case a14 => k_is)
    (case l14 => k_is)
    (case c14 => k_is)
    (case k14 => k_is)
    (case a15 => k_is)
    (case l15 => k_is)
    (case c15 => k_is)
    (case k15 => k_is)
    (case a16 => k_is)
    (case l16 => k_is)
    (case c16 => k_is)
    (case k16 => k_is)
    (case a17 => k_is)
    (case l17 => k_is)
    (case c17 => k_is)
    (case k17 => k_is)
    (case a18 => k_is)
    (case l18 => k_is)
    (case c18 => k_is)
    (case k18 => k_is)
    (case a19 => k_is)
    (case l19 => k_is)
    (case c19 => k_is)
    (case k19 => k_is)
    (case a20 => k_is)
    (case l20 => k_is)
    (case c20 => k_is)
    (case k20 => k_is)
    (case a21 => k_is)
    (case l21 => k_is)
    (case c21 => k_is)
    (case k21 => k_is)
    (case a22 => k_is)
    (case l22 => k_is)
    (case c22 => k_is)
    (case k22 => k_is)
    (case a23 => k_is)
    (case l23 => k_is)
    (case c23 => k_is)
    (case k23 => k_is)
    (case aL => k_is)
    (case lL => k_is)
    (case cL => k_is)
    (case kL => k_is)
