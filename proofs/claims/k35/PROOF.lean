import PyProof.Rows.All
import Wide.All
import OpenK.AllK
import Wide.FinOn
import HandS.ForMost
import KE.IntTextLaws
import PyProof.StrLawsTight
import PyProof.Rows.StrItems
import HandS.ForExc
import HandS.ExcInit
import HandS.ExcField
import HandS.ExcIs
import HandS.Strs
import HandS.SetKeys
import HandS.RaiseMore
import HandS.Replace
import HandS.SetFor
import HandS.Codes
import KE.KExcSuper
import KE.KExcIs
import HandS.ReplaceLit
import PySem.Challenge.RW_firstbreak_k35_trees_are_read
set_option Elab.async false
set_option maxRecDepth 100000
set_option maxHeartbeats 2000000
/-! Plain maths: trees, their lines, their reader. -/
namespace FB
open PySem
abbrev S (s : String) : Str := Str.ofString s
/-- two spaces for each step down -/
def sp (d : Nat) : Str := ⟨(List.replicate (2 * d) 32).toArray⟩
def nl : Str := ⟨#[10]⟩
def blank : Str := ⟨#[32]⟩
inductive Tree where
  | nobody
  | found (n : Nat)
  | ask (m : Nat) (l r : Tree)
namespace Tree
def deep : Tree → Nat
  | .nobody => 0
  | .found _ => 0
  | .ask _ l r => max l.deep r.deep + 1
def size : Tree → Nat
  | .nobody => 1
  | .found _ => 1
  | .ask _ l r => l.size + r.size + 1
/-- makes below k, numbers below a thousand -/
def Good (k : Nat) : Tree → Prop
  | .nobody => True
  | .found n => n < 1000
  | .ask m l r => m < k ∧ l.Good k ∧ r.Good k
end Tree
/-- a chain of asks -/
def chain : Nat → Tree
  | 0 => .nobody
  | n + 1 => .ask 0 (chain n) (.found 1)
def strN (n : Nat) : Str := Str.ofString (toString ((n : Nat) : Int))
def nameAt (ns : List Str) (m : Nat) : Str := ns.getD m Str.empty
def linesF (ns : List Str) : Nat → Tree → List Str
  | d, .nobody => [sp d ++ S "nobody"]
  | d, .found n => [sp d ++ S "found " ++ strN n]
  | d, .ask m l r => (sp d ++ S "ask " ++ nameAt ns m) :: (linesF ns (d + 1) l ++ linesF ns (d + 1) r)
/-- each line with its newline, one behind the other -/
def gluedL : List Str → Str
  | [] => Str.empty
  | x :: r => x ++ nl ++ gluedL r
def isDig (c : Nat) : Bool := 48 ≤ c && c ≤ 57
def isNum (w : Str) : Bool := decide (1 ≤ w.length) && decide (w.length ≤ 3) && w.cps.toList.all isDig && (decide (w = S "0") || !decide (w.cps.toList.head? = some 48))
def numOf (w : Str) : Nat := (NumText.digitsVal w.cps.toList)
/-- what the words of a line say -/
inductive Ln where
  | nob
  | fnd (n : Nat)
  | ask (w : Str)
  | bad
def sayOf : List Str → Ln
  | [a] => if a = S "nobody" then .nob else .bad
  | [a, b] => if a = S "found" then (if isNum b then .fnd (numOf b) else .bad) else if a = S "ask" ∧ b ≠ Str.empty then .ask b else .bad
  | _ => .bad
inductive Res where
  | ok (T : Tree) (p : Nat)
  | no (line : Nat) (why : Str)
def headOf (line : Str) (d : Nat) : Str := L2.cutS line none (some ((2 * d : Nat) : Int))
def tailOf (line : Str) (d : Nat) : Str := L2.cutS line (some ((2 * d : Nat) : Int)) none
/-- the reader at place p, 40 - f deep -/
def readF (ns ls : List Str) : Nat → Nat → Res
  | f, p => match ls[p]? with
    | none => .no (ls.length + 1) (S "not ended")
    | some line =>
      if headOf line (40 - f) ≠ sp (40 - f) then .no (p + 1) (S "unknown line") else
      match sayOf (Txt.split (tailOf line (40 - f)) blank) with
      | .bad => .no (p + 1) (S "unknown line")
      | .nob => .ok .nobody (p + 1)
      | .fnd n => .ok (.found n) (p + 1)
      | .ask w =>
        if w ∉ ns then .no (p + 1) (S "unknown make") else
        match f with
        | 0 => .no (p + 1) (S "too deep")
        | g + 1 => match readF ns ls g (p + 1) with
          | .no l y => .no l y
          | .ok T1 p1 => match readF ns ls g p1 with
            | .no l y => .no l y
            | .ok T2 p2 => .ok (.ask (ns.idxOf w) T1 T2) p2
/-- the lines of a text: a last empty one is none -/
def linesOf (x : Str) : List Str := let ls := Txt.split x nl; if ls.getLast? = some Str.empty then ls.dropLast else ls
def parseF (ns : List Str) (x : Str) : Res := match readF ns (linesOf x) 40 0 with
  | .no l y => .no l y
  | .ok T p => if p < (linesOf x).length then .no (p + 1) (S "more lines") else .ok T p
end FB

set_option Elab.async false
set_option maxRecDepth 100000
set_option maxHeartbeats 2000000
/-! Plain laws: texts are split as they were joined; what is shown is read back; a chain that is too long is refused. -/
namespace FB
open PySem
theorem str_ext {a b : Str} (h : a.cps.toList = b.cps.toList) : a = b := by
  cases a; cases b; simp only [Str.mk.injEq]; exact Array.toList_inj.mp h
theorem app_cps (a b : Str) : (a ++ b).cps.toList = a.cps.toList ++ b.cps.toList := by
  show (a.cps ++ b.cps).toList = _
  simp
theorem S_cps (s : String) : (S s).cps.toList = s.toList.map Char.toNat := by
  show (Str.ofString s).cps.toList = _
  rw [Str.ofString_eq_toList]
theorem app_assoc (a b c : Str) : a ++ b ++ c = a ++ (b ++ c) := str_ext (by simp only [app_cps, List.append_assoc])
theorem app_nil (a : Str) : a ++ Str.empty = a := str_ext (by rw [app_cps]; show _ ++ [] = _; simp)
theorem len_app (a b : Str) : (a ++ b).length = a.length + b.length := by
  show (a.cps ++ b.cps).size = _; simp [Str.length]
theorem len_list (a : Str) : a.length = a.cps.toList.length := by simp [Str.length]

/-- parted at the first c -/
theorem part_inj {c : Nat} : ∀ {x y A B : List Nat}, c ∉ x → c ∉ y → x ++ c :: A = y ++ c :: B → x = y ∧ A = B
  | [], [], A, B, _, _, e => ⟨rfl, (List.cons.inj e).2⟩
  | [], b :: y, A, B, _, hy, e => by
    have e1 := (List.cons.inj e).1
    exact absurd (by rw [e1]; exact List.mem_cons_self) hy
  | a :: x, [], A, B, hx, _, e => by
    have e1 := (List.cons.inj e).1
    exact absurd (by rw [← e1]; exact List.mem_cons_self) hx
  | a :: x, b :: y, A, B, hx, hy, e => by
    obtain ⟨e1, e2⟩ := List.cons.inj e
    obtain ⟨h1, h2⟩ := part_inj (fun h => hx (List.mem_cons_of_mem _ h)) (fun h => hy (List.mem_cons_of_mem _ h)) e2
    exact ⟨by rw [e1, h1], h2⟩
theorem join_cons2 (s x y : Str) (r : List Str) : Str.join s (x :: y :: r) = x ++ s ++ Str.join s (y :: r) := rfl
theorem join_list {c : Nat} (x y : Str) (r : List Str) : (Str.join ⟨#[c]⟩ (x :: y :: r)).cps.toList = x.cps.toList ++ c :: (Str.join ⟨#[c]⟩ (y :: r)).cps.toList := by
  rw [join_cons2, app_cps, app_cps]
  show x.cps.toList ++ [c] ++ _ = _
  simp
theorem join_one (s x : Str) : Str.join s [x] = x := rfl
theorem join_inj {c : Nat} : ∀ {xs ys : List Str}, xs ≠ [] → ys ≠ [] → (∀ p ∈ xs, c ∉ p.cps.toList) → (∀ p ∈ ys, c ∉ p.cps.toList) →
    Str.join ⟨#[c]⟩ xs = Str.join ⟨#[c]⟩ ys → xs = ys
  | [], _, h, _, _, _, _ => absurd rfl h
  | _ :: _, [], _, h, _, _, _ => absurd rfl h
  | [x], [y], _, _, _, _, e => by rw [join_one, join_one] at e; rw [e]
  | [x], y :: y2 :: r, _, _, hx, _, e => by
    have e1 := congrArg (fun z : Str => z.cps.toList) e
    simp only [join_list, join_one] at e1
    exact absurd (by rw [e1]; simp) (hx x (by simp))
  | x :: x2 :: r, [y], _, _, _, hy, e => by
    have e1 := congrArg (fun z : Str => z.cps.toList) e
    simp only [join_list, join_one] at e1
    exact absurd (by rw [← e1]; simp) (hy y (by simp))
  | x :: x2 :: r, y :: y2 :: q, _, _, hx, hy, e => by
    have e1 := congrArg (fun z : Str => z.cps.toList) e
    simp only [join_list] at e1
    obtain ⟨h1, h2⟩ := part_inj (hx x (by simp)) (hy y (by simp)) e1
    have ih := join_inj (xs := x2 :: r) (ys := y2 :: q) (by simp) (by simp) (fun p hp => hx p (List.mem_cons_of_mem _ hp)) (fun p hp => hy p (List.mem_cons_of_mem _ hp)) (str_ext h2)
    rw [str_ext h1, ih]
theorem split_join {c : Nat} {ls : List Str} (h : ls ≠ []) (hf : ∀ p ∈ ls, c ∉ p.cps.toList) : Txt.split (Str.join ⟨#[c]⟩ ls) ⟨#[c]⟩ = ls := by
  refine join_inj (c := c) (fun e => ?_) h (StrLaws.split_free _ c) hf (StrLaws.join_split _ _)
  have q := PyProof.Rows.split_pos (Str.join ⟨#[c]⟩ ls) ⟨#[c]⟩
  rw [e] at q
  exact absurd q (by simp)
/-! ### newlines -/
theorem glued_join : ∀ ls : List Str, gluedL ls = Str.join nl (ls ++ [Str.empty])
  | [] => rfl
  | [x] => by show x ++ nl ++ Str.empty = x ++ nl ++ Str.join nl [Str.empty]; rfl
  | x :: y :: r => by
    show x ++ nl ++ gluedL (y :: r) = x ++ nl ++ Str.join nl ((y :: r) ++ [Str.empty])
    rw [glued_join (y :: r)]
theorem lines_glued {ls : List Str} (hf : ∀ p ∈ ls, 10 ∉ p.cps.toList) : linesOf (gluedL ls) = ls := by
  have e : Txt.split (gluedL ls) nl = ls ++ [Str.empty] := by
    rw [glued_join]
    refine split_join (by simp) fun p hp => ?_
    rcases List.mem_append.mp hp with hp | hp
    · exact hf p hp
    · have e : p = Str.empty := by simpa using hp
      rw [e]; show 10 ∉ ([] : List Nat); simp
  unfold linesOf
  rw [e]
  simp
theorem join_empty_nl : ∀ ls : List Str, Txt.join Str.empty (ls.map (· ++ nl)) = gluedL ls := fun ls => by
  show Builtin.Str.glued Str.empty (ls.map (· ++ nl)) = _
  rw [StrLaws.glued_eq_join]
  induction ls with
  | nil => rfl
  | cons x r ih =>
    cases r with
    | nil => show x ++ nl = x ++ nl ++ Str.empty; rw [app_nil]
    | cons y q =>
      show x ++ nl ++ Str.empty ++ Str.join Str.empty ((y :: q).map (· ++ nl)) = x ++ nl ++ gluedL (y :: q)
      rw [ih, app_nil]
/-! ### spaces -/
theorem sp_len (d : Nat) : (sp d).length = 2 * d := by simp [sp, Str.length]
theorem sp_cps (d : Nat) : (sp d).cps.toList = List.replicate (2 * d) 32 := rfl
theorem head_sp (d : Nat) (r : Str) : headOf (sp d ++ r) d = sp d := by
  refine str_ext ?_
  unfold headOf L2.cutS
  show List.take _ (List.drop _ _) = _
  rw [HT.sIx_none, HT.sIx_nat, len_app, sp_len, Nat.min_eq_left (by omega), List.drop_zero, app_cps, Nat.sub_zero]
  rw [sp_cps, List.take_append_of_le_length (by simp)]
  simp
theorem tail_sp (d : Nat) (r : Str) : tailOf (sp d ++ r) d = r := by
  refine str_ext ?_
  unfold tailOf L2.cutS
  show List.take _ (List.drop _ _) = _
  rw [HT.sIx_none, HT.sIx_nat, len_app, sp_len, Nat.min_eq_left (by omega), app_cps, sp_cps]
  rw [List.drop_append_of_le_length (by simp), List.drop_eq_nil_of_le (by simp), List.nil_append]
  exact List.take_of_length_le (by rw [← len_list]; omega)
/-! ### numbers -/
theorem strN_cps (n : Nat) : (strN n).cps.toList = TL.numL n := TL.tl_num n
theorem isDig_iff {c : Nat} : isDig c = true ↔ 48 ≤ c ∧ c ≤ 57 := by simp [isDig]
theorem isNum_strN {n : Nat} (h : n < 1000) : isNum (strN n) = true ∧ numOf (strN n) = n := by
  have hl : (strN n).length ≤ 3 := by
    rw [len_list, strN_cps]
    exact TL.numL_len (k := 3) (by decide) h
  have h1 : 1 ≤ (strN n).length := by
    rw [len_list, strN_cps]
    have := TL.numL_ne n
    cases e : TL.numL n with
    | nil => exact absurd e this
    | cons a r => simp
  have hd : (strN n).cps.toList.all isDig = true := List.all_eq_true.mpr fun c hc => by
    rw [strN_cps] at hc
    exact isDig_iff.mpr (TL.numL_digits n c hc)
  have h0 : ∀ m : Nat, m ≠ 0 → (TL.numL m).head? ≠ some 48 := by
    intro m
    induction m using Nat.strongRecOn with
    | _ m ih =>
      intro hm
      by_cases h10 : m < 10
      · rw [TL.numL_lt h10]
        show some (48 + m) ≠ some 48
        intro q
        have q1 := Option.some.inj q
        omega
      · rw [TL.numL_step (by omega)]
        have z := ih (m / 10) (by omega) (by omega)
        have ne := TL.numL_ne (m / 10)
        cases e : TL.numL (m / 10) with
        | nil => exact absurd e ne
        | cons a r => rw [e] at z; exact z
  refine ⟨?_, ?_⟩
  · unfold isNum
    rw [decide_eq_true h1, decide_eq_true hl, hd]
    by_cases hz : n = 0
    · subst hz
      have e : strN 0 = S "0" := by decide +kernel
      rw [e]
      decide +kernel
    · rw [show decide ((strN n).cps.toList.head? = some 48) = false from decide_eq_false (by rw [strN_cps]; exact h0 n hz)]
      simp
  · unfold numOf
    rw [strN_cps]
    exact TL.numL_val n
/-! ### names -/
structure Names (ns : List Str) : Prop where
  nd : ns.Nodup
  ne : ∀ w ∈ ns, w ≠ Str.empty
  bl : ∀ w ∈ ns, 32 ∉ w.cps.toList
  nl : ∀ w ∈ ns, 10 ∉ w.cps.toList
theorem nameAt_mem {ns : List Str} {m : Nat} (h : m < ns.length) : nameAt ns m ∈ ns := by
  unfold nameAt
  rw [List.getD_eq_getElem?_getD, List.getElem?_eq_getElem h]
  exact List.getElem_mem h
theorem nameAt_ix {ns : List Str} (N : Names ns) {m : Nat} (h : m < ns.length) : ns.idxOf (nameAt ns m) = m := by
  have e : nameAt ns m = ns[m] := by
    unfold nameAt
    rw [List.getD_eq_getElem?_getD, List.getElem?_eq_getElem h]
    rfl
  rw [e]
  exact List.Nodup.idxOf_getElem N.nd m h
/-! ### the words of a line -/
theorem split_one {x : Str} (h : 32 ∉ x.cps.toList) : Txt.split x blank = [x] := by
  have e := split_join (c := 32) (ls := [x]) (by simp) (fun p hp => by rw [show p = x by simpa using hp]; exact h)
  exact e
theorem split_two {x y : Str} (h : 32 ∉ x.cps.toList) (h2 : 32 ∉ y.cps.toList) : Txt.split (x ++ blank ++ y) blank = [x, y] := by
  have e := split_join (c := 32) (ls := [x, y]) (by simp) (fun p hp => by
    rcases List.mem_cons.mp hp with q | q
    · rw [q]; exact h
    · rw [show p = y by simpa using q]; exact h2)
  exact e
theorem say_nobody : sayOf (Txt.split (S "nobody") blank) = .nob := by
  rw [split_one (by rw [S_cps]; decide +kernel)]
  show (if S "nobody" = S "nobody" then Ln.nob else Ln.bad) = _
  rw [if_pos rfl]
theorem strN_free {n s : Nat} (h : s < 48 ∨ 57 < s) : s ∉ (strN n).cps.toList := by
  rw [strN_cps]
  exact TL.numL_free h
theorem say_found {n : Nat} (h : n < 1000) : sayOf (Txt.split (S "found " ++ strN n) blank) = .fnd n := by
  have e : S "found " ++ strN n = S "found" ++ blank ++ strN n := by
    rw [show S "found " = S "found" ++ blank from by decide +kernel]
  rw [e, split_two (by rw [S_cps]; decide +kernel) (strN_free (by decide))]
  unfold sayOf
  dsimp only
  rw [if_pos rfl, (isNum_strN h).1, (isNum_strN h).2, if_pos rfl]
theorem ask_found : ¬ (S "ask" = S "found") := by decide +kernel
theorem say_ask {w : Str} (h : 32 ∉ w.cps.toList) (hw : w ≠ Str.empty) : sayOf (Txt.split (S "ask " ++ w) blank) = .ask w := by
  have e : S "ask " ++ w = S "ask" ++ blank ++ w := by
    rw [show S "ask " = S "ask" ++ blank from by decide +kernel]
  rw [e, split_two (by rw [S_cps]; decide +kernel) h]
  unfold sayOf
  dsimp only
  rw [if_neg ask_found, if_pos ⟨rfl, hw⟩]
/-! ### what is shown is read back -/
theorem at_of_drop {α : Type} {ls : List α} {p : Nat} {x : α} {r : List α} (h : ls.drop p = x :: r) : ls[p]? = some x ∧ ls.drop (p + 1) = r := by
  refine ⟨?_, ?_⟩
  · have e := List.getElem?_drop (xs := ls) (i := p) (j := 0)
    rw [h] at e
    simpa using e.symm
  · have e : ls.drop (p + 1) = (ls.drop p).drop 1 := by rw [List.drop_drop]
    rw [e, h]
    rfl
theorem linesF_len (ns : List Str) : ∀ (T : Tree) (d : Nat), (linesF ns d T).length = T.size
  | .nobody, _ => rfl
  | .found _, _ => rfl
  | .ask m l r, d => by
    show (linesF ns (d + 1) l ++ linesF ns (d + 1) r).length + 1 = l.size + r.size + 1
    rw [List.length_append, linesF_len ns l, linesF_len ns r]
theorem read_back {ns : List Str} (N : Names ns) {ls : List Str} : ∀ (T : Tree) (f p : Nat) (rest : List Str), T.deep ≤ f → f ≤ 40 → T.Good ns.length →
    ls.drop p = linesF ns (40 - f) T ++ rest → readF ns ls f p = .ok T (p + T.size) ∧ ls.drop (p + T.size) = rest
  | .nobody, f, p, rest, _, _, _, h => by
    obtain ⟨h1, h2⟩ := at_of_drop (x := sp (40 - f) ++ S "nobody") (r := rest) h
    refine ⟨?_, h2⟩
    unfold readF
    rw [h1]
    dsimp only
    rw [head_sp, if_neg (fun z => z rfl), tail_sp, say_nobody]
    rfl
  | .found n, f, p, rest, _, _, g, h => by
    have h' : ls.drop p = (sp (40 - f) ++ (S "found " ++ strN n)) :: rest := by
      rw [h, ← app_assoc]; rfl
    obtain ⟨h1, h2⟩ := at_of_drop h'
    refine ⟨?_, h2⟩
    unfold readF
    rw [h1]
    dsimp only
    rw [head_sp, if_neg (fun z => z rfl), tail_sp, say_found g]
    rfl
  | .ask m l r, 0, p, rest, hd, _, _, _ => by
    exact absurd hd (by show ¬ max l.deep r.deep + 1 ≤ 0; omega)
  | .ask m l r, f + 1, p, rest, hd, hf, g, h => by
    have hd' : max l.deep r.deep + 1 ≤ f + 1 := hd
    have hm := nameAt_mem (ns := ns) g.1
    have ed : 40 - (f + 1) + 1 = 40 - f := by omega
    have h' : ls.drop p = (sp (40 - (f + 1)) ++ (S "ask " ++ nameAt ns m)) :: (linesF ns (40 - f) l ++ (linesF ns (40 - f) r ++ rest)) := by
      rw [h, ← app_assoc, ← ed, ← List.append_assoc]; rfl
    obtain ⟨h1, h2⟩ := at_of_drop h'
    obtain ⟨a1, a2⟩ := read_back N l f (p + 1) _ (by omega) (by omega) g.2.1 h2
    obtain ⟨b1, b2⟩ := read_back N r f (p + 1 + l.size) _ (by omega) (by omega) g.2.2 a2
    have es : p + (Tree.ask m l r).size = p + 1 + l.size + r.size := by
      show p + (l.size + r.size + 1) = _
      omega
    refine ⟨?_, by rw [es]; exact b2⟩
    unfold readF
    rw [h1]
    dsimp only
    rw [head_sp, if_neg (fun z => z rfl), tail_sp, say_ask (N.bl _ hm) (N.ne _ hm)]
    dsimp only
    rw [if_neg (fun z => z hm), a1]
    dsimp only
    rw [b1, nameAt_ix N g.1, es]
theorem too_deep {ns : List Str} (N : Names ns) (h0 : 0 < ns.length) {ls : List Str} : ∀ (f n p : Nat) (rest : List Str), f ≤ 40 → f < n →
    ls.drop p = linesF ns (40 - f) (chain n) ++ rest → readF ns ls f p = .no (p + f + 1) (S "too deep")
  | f, 0, p, rest, _, hn, _ => absurd hn (by omega)
  | 0, n + 1, p, rest, _, _, h => by
    have hm := nameAt_mem (ns := ns) h0
    have h' : ls.drop p = (sp (40 - 0) ++ (S "ask " ++ nameAt ns 0)) :: (linesF ns (40 - 0 + 1) (chain n) ++ (linesF ns (40 - 0 + 1) (.found 1) ++ rest)) := by
      rw [h, ← app_assoc, ← List.append_assoc]; rfl
    obtain ⟨h1, h2⟩ := at_of_drop h'
    unfold readF
    rw [h1]
    dsimp only
    rw [head_sp, if_neg (fun z => z rfl), tail_sp, say_ask (N.bl _ hm) (N.ne _ hm)]
    dsimp only
    rw [if_neg (fun z => z hm)]
  | f + 1, n + 1, p, rest, hf, hn, h => by
    have hm := nameAt_mem (ns := ns) h0
    have ed : 40 - (f + 1) + 1 = 40 - f := by omega
    have h' : ls.drop p = (sp (40 - (f + 1)) ++ (S "ask " ++ nameAt ns 0)) :: (linesF ns (40 - f) (chain n) ++ (linesF ns (40 - f) (.found 1) ++ rest)) := by
      rw [h, ← app_assoc, ← ed, ← List.append_assoc]; rfl
    obtain ⟨h1, h2⟩ := at_of_drop h'
    have ih := too_deep N h0 f n (p + 1) _ (by omega) (by omega) h2
    unfold readF
    rw [h1]
    dsimp only
    rw [head_sp, if_neg (fun z => z rfl), tail_sp, say_ask (N.bl _ hm) (N.ne _ hm)]
    dsimp only
    rw [if_neg (fun z => z hm), ih]
    show Res.no (p + 1 + f + 1) _ = Res.no (p + (f + 1) + 1) _
    rw [show p + 1 + f + 1 = p + (f + 1) + 1 by omega]
/-! ### whole texts -/
theorem linesF_nl {ns : List Str} (N : Names ns) : ∀ (T : Tree) (d : Nat), T.Good ns.length → ∀ p ∈ linesF ns d T, 10 ∉ p.cps.toList
  | .nobody, d, _, p, hp => by
    rw [show p = sp d ++ S "nobody" from List.mem_singleton.mp hp, app_cps, sp_cps, S_cps]
    intro h
    rcases List.mem_append.mp h with h | h
    · have e := List.eq_of_mem_replicate h
      exact absurd e (by decide)
    · exact absurd h (by decide +kernel)
  | .found n, d, _, p, hp => by
    rw [show p = sp d ++ S "found " ++ strN n from List.mem_singleton.mp hp, app_cps, app_cps, sp_cps, S_cps]
    intro h
    rcases List.mem_append.mp h with h | h
    · rcases List.mem_append.mp h with h | h
      · have e := List.eq_of_mem_replicate h
        exact absurd e (by decide)
      · exact absurd h (by decide +kernel)
    · exact strN_free (by decide) h
  | .ask m l r, d, g, p, hp => by
    rcases List.mem_cons.mp hp with hp | hp
    · rw [hp, app_cps, app_cps, sp_cps, S_cps]
      intro h
      rcases List.mem_append.mp h with h | h
      · rcases List.mem_append.mp h with h | h
        · have e := List.eq_of_mem_replicate h
          exact absurd e (by decide)
        · exact absurd h (by decide +kernel)
      · exact N.nl _ (nameAt_mem g.1) h
    · rcases List.mem_append.mp hp with hp | hp
      · exact linesF_nl N l (d + 1) g.2.1 p hp
      · exact linesF_nl N r (d + 1) g.2.2 p hp
theorem parse_shown {ns : List Str} (N : Names ns) {T : Tree} (hd : T.deep ≤ 40) (g : T.Good ns.length) : parseF ns (gluedL (linesF ns 0 T)) = .ok T T.size := by
  have el := lines_glued (linesF_nl N T 0 g)
  obtain ⟨h1, _⟩ := read_back N (ls := linesF ns 0 T) T 40 0 [] hd (Nat.le_refl _) g (by simp)
  unfold parseF
  rw [el, h1]
  dsimp only
  rw [linesF_len, if_neg (by omega), Nat.zero_add]
theorem chain_good {k : Nat} (h : 0 < k) : ∀ n, (chain n).Good k
  | 0 => True.intro
  | n + 1 => ⟨h, chain_good h n, by show 1 < 1000; decide⟩
theorem chain_deep : ∀ n, (chain n).deep = n
  | 0 => rfl
  | n + 1 => by
    show max (chain n).deep 0 + 1 = n + 1
    rw [chain_deep n]
    omega
theorem chain_size : ∀ n, (chain n).size = 2 * n + 1
  | 0 => rfl
  | n + 1 => by
    show (chain n).size + 1 + 1 = _
    rw [chain_size n]
    omega
theorem parse_chain {ns : List Str} (N : Names ns) (h0 : 0 < ns.length) {n : Nat} (h : 40 < n) : parseF ns (gluedL (linesF ns 0 (chain n))) = .no 41 (S "too deep") := by
  have el := lines_glued (linesF_nl N (chain n) 0 (chain_good h0 n))
  have h1 := too_deep N h0 (ls := linesF ns 0 (chain n)) 40 n 0 [] (Nat.le_refl _) h (by simp)
  unfold parseF
  rw [el, h1]
end FB

set_option Elab.async false
set_option linter.all false
set_option maxRecDepth 100000
set_option maxHeartbeats 4000000
/-! The text by places, the scopes. -/
namespace FB
open PySem L2
def top (i : Nat) : Stmt := PySem.Challenge.pw_firstbreak_k35_trees_are_read.main.body.getD i (.Pass ⟨0, 0, 0, 0⟩)
abbrev sBadInit : Stmt := inClass (top 2) 0
abbrev sLinesOf : Stmt := top 8
abbrev sShown : Stmt := top 9
abbrev sNumIn : Stmt := top 10
abbrev sRdInit : Stmt := inClass (top 11) 0
abbrev sRdWords : Stmt := inClass (top 11) 1
abbrev sRdTree : Stmt := inClass (top 11) 2
abbrev sParse : Stmt := top 12
abbrev sCell : Stmt := top 14
abbrev sDigits : Stmt := top 15
abbrev sDraw : Stmt := top 16
abbrev sPick : Stmt := top 17
abbrev sParents : Stmt := top 18
abbrev sHistory : Stmt := top 19
abbrev sTree : Stmt := top 20
abbrev sDeep : Stmt := top 21
abbrev sLines : Stmt := top 22
abbrev sIsNum : Stmt := top 23
abbrev sRead : Stmt := top 24
abbrev sDue : Stmt := top 25
abbrev sTold : Stmt := top 26
abbrev sOther : Stmt := top 27
abbrev sLaw : Stmt := top 28
abbrev nLinesOf : List Str := ["history", "tree", "depth", "spaces", "lines"]
abbrev nShown : List Str := ["history", "tree", "line"]
abbrev nNumIn : List Str := ["word", "sign"]
abbrev nRdInit : List Str := ["self", "history", "text", "make"]
abbrev nRdWords : List Str := ["self", "depth", "line", "spaces"]
abbrev nRdTree : List Str := ["self", "depth", "words", "here", "broken"]
abbrev nParse : List Str := ["history", "text", "reader", "tree"]
abbrev nCell : List Str := ["_law_script", "_law_k"]
abbrev nDigits : List Str := ["_law_script", "_law_first", "_law_last", "_law_digits_here", "_law_k", "_law_cell_here", "_law_turn", "_law_seed"]
abbrev nDraw : List Str := ["_law_box", "_law_many", "_law_at"]
abbrev nPick : List Str := ["_law_box", "_law_things"]
abbrev nParents : List Str := ["_law_box", "_law_k", "_law_ends", "_law_at", "_law_one", "_law_other_here"]
abbrev nHistory : List Str := ["_law_box", "_law_most", "_law_many", "_law_makes", "_law_ends", "_law_k", "_law_parents_here", "_law_end"]
abbrev nTree : List Str := ["_law_box", "_law_many", "_law_deep_here", "_law_kind", "_law_make", "_law_broken"]
abbrev nDeep : List Str := ["_law_many", "_law_tree_here", "_law_turn"]
abbrev nLines : List Str := ["_law_history_here", "_law_tree_here", "_law_depth", "_law_first", "_law_part"]
abbrev nIsNum : List Str := ["_law_word", "_law_sign"]
abbrev nRead : List Str := ["_law_names", "_law_lines_here", "_law_at", "_law_depth", "_law_line", "_law_words", "_law_first", "_law_second"]
abbrev nDue : List Str := ["_law_history_here", "_law_text", "_law_lines_here", "_law_told_here", "_law_make"]
abbrev nTold : List Str := ["_law_history_here", "_law_text", "e"]
abbrev nOther : List Str := ["_law_box", "_law_text", "_law_lines_here", "_law_at", "_law_odd", "_law_kind", "_law_line"]
abbrev nLaw : List Str := ["_law_script", "_law_box", "_law_history_here", "_law_many", "_law_tree_here", "_law_text", "_law_turn", "_law_other_here", "_law_due_here", "_law_line"]
theorem scLinesOf : FnScope nLinesOf ["history", "tree", "depth"] (defScope sLinesOf) := ⟨rfl, rfl, rfl, by decide +kernel, rfl, by decide +kernel, by decide +kernel⟩
theorem scShown : FnScope nShown ["history", "tree"] (defScope sShown) := ⟨rfl, rfl, rfl, by decide +kernel, rfl, by decide +kernel, by decide +kernel⟩
theorem scNumIn : FnScope nNumIn ["word"] (defScope sNumIn) := ⟨rfl, rfl, rfl, by decide +kernel, rfl, by decide +kernel, by decide +kernel⟩
theorem scRdInit : FnScope nRdInit ["self", "history", "text"] (defScope sRdInit) := ⟨rfl, rfl, rfl, by decide +kernel, rfl, by decide +kernel, by decide +kernel⟩
theorem scRdWords : FnScope nRdWords ["self", "depth"] (defScope sRdWords) := ⟨rfl, rfl, rfl, by decide +kernel, rfl, by decide +kernel, by decide +kernel⟩
theorem scRdTree : FnScope nRdTree ["self", "depth"] (defScope sRdTree) := ⟨rfl, rfl, rfl, by decide +kernel, rfl, by decide +kernel, by decide +kernel⟩
theorem scParse : FnScope nParse ["history", "text"] (defScope sParse) := ⟨rfl, rfl, rfl, by decide +kernel, rfl, by decide +kernel, by decide +kernel⟩
theorem scCell : FnScope nCell ["_law_script", "_law_k"] (defScope sCell) := ⟨rfl, rfl, rfl, by decide +kernel, rfl, by decide +kernel, by decide +kernel⟩
theorem scDigits : FnScope nDigits ["_law_script", "_law_first", "_law_last"] (defScope sDigits) := ⟨rfl, rfl, rfl, by decide +kernel, rfl, by decide +kernel, by decide +kernel⟩
theorem scDraw : FnScope nDraw ["_law_box", "_law_many"] (defScope sDraw) := ⟨rfl, rfl, rfl, by decide +kernel, rfl, by decide +kernel, by decide +kernel⟩
theorem scPick : FnScope nPick ["_law_box", "_law_things"] (defScope sPick) := ⟨rfl, rfl, rfl, by decide +kernel, rfl, by decide +kernel, by decide +kernel⟩
theorem scParents : FnScope nParents ["_law_box", "_law_k", "_law_ends"] (defScope sParents) := ⟨rfl, rfl, rfl, by decide +kernel, rfl, by decide +kernel, by decide +kernel⟩
theorem scHistory : FnScope nHistory ["_law_box", "_law_most"] (defScope sHistory) := ⟨rfl, rfl, rfl, by decide +kernel, rfl, by decide +kernel, by decide +kernel⟩
theorem scTree : FnScope nTree ["_law_box", "_law_many", "_law_deep_here"] (defScope sTree) := ⟨rfl, rfl, rfl, by decide +kernel, rfl, by decide +kernel, by decide +kernel⟩
theorem scDeep : FnScope nDeep ["_law_many"] (defScope sDeep) := ⟨rfl, rfl, rfl, by decide +kernel, rfl, by decide +kernel, by decide +kernel⟩
theorem scLines : FnScope nLines ["_law_history_here", "_law_tree_here", "_law_depth"] (defScope sLines) := ⟨rfl, rfl, rfl, by decide +kernel, rfl, by decide +kernel, by decide +kernel⟩
theorem scIsNum : FnScope nIsNum ["_law_word"] (defScope sIsNum) := ⟨rfl, rfl, rfl, by decide +kernel, rfl, by decide +kernel, by decide +kernel⟩
theorem scRead : FnScope nRead ["_law_names", "_law_lines_here", "_law_at", "_law_depth"] (defScope sRead) := ⟨rfl, rfl, rfl, by decide +kernel, rfl, by decide +kernel, by decide +kernel⟩
theorem scDue : FnScope nDue ["_law_history_here", "_law_text"] (defScope sDue) := ⟨rfl, rfl, rfl, by decide +kernel, rfl, by decide +kernel, by decide +kernel⟩
theorem scTold : FnScope nTold ["_law_history_here", "_law_text"] (defScope sTold) := ⟨rfl, rfl, rfl, by decide +kernel, rfl, by decide +kernel, by decide +kernel⟩
theorem scOther : FnScope nOther ["_law_box", "_law_text"] (defScope sOther) := ⟨rfl, rfl, rfl, by decide +kernel, rfl, by decide +kernel, by decide +kernel⟩
theorem scLaw : FnScope nLaw ["_law_script"] (defScope sLaw) := ⟨rfl, rfl, rfl, by decide +kernel, rfl, by decide +kernel, by decide +kernel⟩
end FB

set_option Elab.async false
set_option linter.all false
set_option maxRecDepth 100000
set_option maxHeartbeats 4000000
/-! What stands in the heap; the promises' common words. -/
namespace FB
open PySem L2
/-- all that was tracked is as it was, but at b -/
def ButAt (b : Addr) (H H' : Hp) : Prop := ∀ p o, p ≠ b → H p = some o → H' p = some o
theorem ButAt.refl (b : Addr) (H : Hp) : ButAt b H H := fun _ _ _ h => h
theorem ButAt.trans {b : Addr} {H H1 H2 : Hp} (x : ButAt b H H1) (y : ButAt b H1 H2) : ButAt b H H2 := fun p o n h => y p o n (x p o n h)
theorem ButAt.of {b : Addr} {H H' : Hp} (h : Same H H') : ButAt b H H' := fun p o _ q => h p o q
theorem ButAt.upd (b : Addr) (H : Hp) (o : HO) : ButAt b H (L2.upd H b o) := fun p u n h => by rw [upd_ne n]; exact h
theorem Same.new {H : Hp} {p : Addr} (h : H p = none) (o : HO) : Same H (upd H p o) := fun b u q => by rw [upd_ne (ne_of_none q h)]; exact q
/-- the box of draws at b: a list of the digits' list and the place -/
def Box (H : Hp) (b : Addr) : Prop := ∃ (D : Addr) (ds : List Int) (i : Int), H b = some (.lst [.ref D, .int i]) ∧ H D = some (.lst (ds.map V.int)) ∧ 0 ≤ i
theorem Box.ne {H : Hp} {b D : Addr} {ds : List Int} {i : Int} (h1 : H b = some (.lst [.ref D, .int i])) (h2 : H D = some (.lst (ds.map V.int))) : D ≠ b := fun e => by
  subst e
  rw [h1] at h2
  injection h2 with h2
  injection h2 with h2
  cases ds with
  | nil => cases h2
  | cons a r =>
    have q : V.ref D = V.int a := (List.cons.inj h2).1
    cases q
theorem Box.same {H H' : Hp} {b : Addr} (h : Box H b) (s : Same H H') : Box H' b := by
  obtain ⟨D, ds, i, h1, h2, h3⟩ := h
  exact ⟨D, ds, i, s _ _ h1, s _ _ h2, h3⟩
/-- a draw: all but the box stays, the box is one still, of the same digits -/
structure Drew (b : Addr) (H H' : Hp) : Prop where
  but : ButAt b H H'
  box : Box H' b
  dig : ∀ D i, H b = some (.lst [.ref D, .int i]) → ∃ j, H' b = some (.lst [.ref D, .int j])
theorem Drew.refl {b : Addr} {H : Hp} (h : Box H b) : Drew b H H := ⟨ButAt.refl b H, h, fun _ i q => ⟨i, q⟩⟩
theorem Drew.trans {b : Addr} {H H1 H2 : Hp} (x : Drew b H H1) (y : Drew b H1 H2) : Drew b H H2 := ⟨x.but.trans y.but, y.box, fun D i q => by
  obtain ⟨j, q1⟩ := x.dig D i q
  exact y.dig D j q1⟩
theorem Drew.same {b : Addr} {H H1 H2 : Hp} (x : Drew b H H1) (s : Same H1 H2) : Drew b H H2 := ⟨x.but.trans (.of s), x.box.same s, fun D i q => by
  obtain ⟨j, q1⟩ := x.dig D i q
  exact ⟨j, s _ _ q1⟩⟩
theorem Drew.unborn {b p : Addr} {H H1 : Hp} (x : Drew b H H1) (np : H1 p = none) : H p = none := by
  cases q : H p with
  | none => rfl
  | some o =>
    by_cases e : p = b
    · subst e
      obtain ⟨D, ds, i, h1, _⟩ := x.box
      rw [np] at h1
      cases h1
    · rw [x.but p o e q] at np
      cases np
/-- an object that was not there at H is written -/
theorem Drew.wrote {b p : Addr} {H H1 : Hp} (x : Drew b H H1) (hb : Box H b) (np : H p = none) (o : HO) : Drew b H (L2.upd H1 p o) := by
  obtain ⟨D, ds, i, h1, h2, h3⟩ := hb
  obtain ⟨D', ds', i', g1, g2, g3⟩ := x.box
  obtain ⟨j, k1⟩ := x.dig D i h1
  have ne : ∀ {a : Addr} {u : HO}, H a = some u → a ≠ p := fun {a u} q e => by
    rw [e, np] at q
    cases q
  have eD : D' = D := by
    rw [g1] at k1
    injection k1 with k1
    injection k1 with k1
    exact V.ref.inj (List.cons.inj k1).1
  subst eD
  refine ⟨fun a u n q => ?_, ⟨D', ds', i', ?_, ?_, g3⟩, fun D2 i2 q => ?_⟩
  · rw [upd_ne (ne q)]
    exact x.but a u n q
  · rw [upd_ne (ne h1)]
    exact g1
  · rw [upd_ne (ne h2)]
    exact g2
  · obtain ⟨j2, k2⟩ := x.dig D2 i2 q
    exact ⟨j2, by rw [upd_ne (ne h1)]; exact k2⟩
theorem Box.isList {H : Hp} {b : Addr} (h : Box H b) {xs : List V} {p : Addr} (hp : H p = some (.tup xs)) : p ≠ b := fun e => by
  obtain ⟨D, ds, i, h1, _⟩ := h
  rw [e, h1] at hp
  cases hp
/-- tuples stay -/
def Tups (H H' : Hp) : Prop := ∀ p xs, H p = some (.tup xs) → H' p = some (.tup xs)
theorem Same.tups {H H' : Hp} (s : Same H H') : Tups H H' := fun p xs h => s _ _ h
theorem Tups.trans {H H1 H2 : Hp} (x : Tups H H1) (y : Tups H1 H2) : Tups H H2 := fun p xs h => y p xs (x p xs h)
theorem ButAt.tups {b : Addr} {H H' : Hp} (x : ButAt b H H') (hb : ∀ xs, H b ≠ some (.tup xs)) : Tups H H' := fun p xs h =>
  x p _ (fun e => hb xs (e ▸ h)) h
theorem Drew.tups {b : Addr} {H H' : Hp} (x : Drew b H H') (h : Box H b) : Tups H H' := x.but.tups fun xs q => h.isList q rfl
/-- a tree stands at v -/
inductive TreeAt (H : Hp) : V → Tree → Prop
  | nobody {p : Addr} : H p = some (.tup [.str (S "nobody")]) → TreeAt H (.ref p) .nobody
  | found {p : Addr} {n : Nat} : H p = some (.tup [.str (S "found"), .int (n : Nat)]) → TreeAt H (.ref p) (.found n)
  | ask {p : Addr} {m : Nat} {v w : V} {l r : Tree} : H p = some (.tup [.str (S "ask"), .int (m : Nat), v, w]) → TreeAt H v l → TreeAt H w r → TreeAt H (.ref p) (.ask m l r)
theorem TreeAt.mono {H H' : Hp} (s : Tups H H') {v : V} {T : Tree} (h : TreeAt H v T) : TreeAt H' v T := by
  induction h with
  | nobody h => exact .nobody (s _ _ h)
  | found h => exact .found (s _ _ h)
  | ask h _ _ ih1 ih2 => exact .ask (s _ _ h) ih1 ih2
/-- a make's tuple: its name, whatever else -/
def MakeAt (H : Hp) (v : V) (n : Str) : Prop := ∃ (p : Addr) (x : V), v = .ref p ∧ H p = some (.tup [.str n, x])
inductive MakesAt (H : Hp) : List V → List Str → Prop
  | nil : MakesAt H [] []
  | cons {v : V} {n : Str} {vs : List V} {ns : List Str} : MakeAt H v n → MakesAt H vs ns → MakesAt H (v :: vs) (n :: ns)
theorem MakesAt.mono {H H' : Hp} (s : Tups H H') {vs : List V} {ns : List Str} (h : MakesAt H vs ns) : MakesAt H' vs ns := by
  induction h with
  | nil => exact .nil
  | cons h _ ih =>
    obtain ⟨p, x, e, q⟩ := h
    exact .cons ⟨p, x, e, s _ _ q⟩ ih
theorem MakesAt.length {H : Hp} {vs : List V} {ns : List Str} (h : MakesAt H vs ns) : vs.length = ns.length := by
  induction h with
  | nil => rfl
  | cons _ _ ih => rw [List.length_cons, List.length_cons, ih]
theorem MakesAt.get {H : Hp} {vs : List V} {ns : List Str} (h : MakesAt H vs ns) : ∀ {i : Nat} {v : V}, vs[i]? = some v → ∃ n, ns[i]? = some n ∧ MakeAt H v n := by
  induction h with
  | nil => intro i v e; simp at e
  | cons h _ ih =>
    intro i v e
    cases i with
    | zero =>
      have e' := Option.some.inj e
      subst e'
      exact ⟨_, rfl, h⟩
    | succ i => exact ih (i := i) e
theorem MakesAt.snoc {H : Hp} {vs : List V} {ns : List Str} (h : MakesAt H vs ns) {v : V} {n : Str} (q : MakeAt H v n) : MakesAt H (vs ++ [v]) (ns ++ [n]) := by
  induction h with
  | nil => exact .cons q .nil
  | cons h _ ih => exact .cons h ih
/-- a history whose makes bear the names ns -/
def HistAt (H : Hp) (h : Addr) (ns : List Str) : Prop := ∃ (q : Addr) (ms : List V), H h = some (.tup [.str (S "history"), .ref q]) ∧ H q = some (.tup ms) ∧ MakesAt H ms ns
theorem HistAt.mono {H H' : Hp} (s : Tups H H') {h : Addr} {ns : List Str} (x : HistAt H h ns) : HistAt H' h ns := by
  obtain ⟨q, ms, h1, h2, h3⟩ := x
  exact ⟨q, ms, s _ _ h1, s _ _ h2, h3.mono s⟩
/-! ### tests whose answer is known -/
theorem bl_t {p : Prop} [Decidable p] (h : p) : V.bl (decide p) = V.bl true := by rw [decide_eq_true h]
theorem bl_f {p : Prop} [Decidable p] (h : ¬ p) : V.bl (decide p) = V.bl false := by rw [decide_eq_false h]
theorem str_ne {a b : Str} (h : ¬ a = b) : ¬ V.str a = V.str b := fun e => h (V.str.inj e)
/-! ### defs -/
/-- a def of the text, by its name -/
structure DefAt (K : PySem.W.Frag) (mg : Str → Option Value) (x : Str) (st : Stmt) (ps : List Str) (f : Addr) (fd : FuncData) : Prop where
  fn : Fun K x x st f fd
  gl : mg x = some (.ref f)
  bd : Binds K fd ps []
structure Callee (P : Program) (w : World) (K : PySem.W.Frag) (mg : Str → Option Value) (base : Heap) (CX : CXT) (k : Nat) (x : Str) (ps : List Str) (sp : Sp) : Prop where
  ex : ∃ f fd, FnOk P w K mg base CX k f fd ps sp ∧ mg x = some (.ref f) ∧ PySem.W.keepIn K (.ref f) = true ∧ Binds K fd ps []
theorem DefAt.callee {P : Program} {w : World} {K : PySem.W.Frag} {mg : Str → Option Value} {base : Heap} {CX : CXT} {k : Nat} {x : Str} {st : Stmt} {ps : List Str} {f : Addr} {fd : FuncData} {sp : Sp}
    (D : DefAt K mg x st ps f fd) (F : FnOk P w K mg base CX k f fd ps sp) : Callee P w K mg base CX k x ps sp := ⟨f, fd, F, D.gl, D.fn.kp, D.bd⟩
/-- the built-ins' names are free -/
structure Free (mg : Str → Option Value) : Prop where
  len : mg "len" = none
  int : mg "int" = none
  str : mg "str" = none
  range : mg "range" = none
  tuple : mg "tuple" = none
  sorted : mg "sorted" = none
  set : mg "set" = none
  isi : mg "isinstance" = none
end FB

set_option Elab.async false
set_option linter.all false
set_option maxRecDepth 100000
set_option maxHeartbeats 4000000
/-! The law's draws: a cell, the digits, a draw, a pick. -/
namespace FB
open PySem L2
def spCell (K : PySem.W.Frag) : Sp := fun vs H Q _ => ∃ (a : Addr) (ns : List Int) (k : Int), vs = [.ref a, .int k] ∧ SqL K H a (ns.map V.int) ∧ 0 ≤ k ∧ ∀ z : Int, Q (.int z) H
def spDigits (K : PySem.W.Frag) : Sp := fun vs H Q _ => ∃ (a : Addr) (ns : List Int), vs = [.ref a, .int 0, .int 63] ∧ SqL K H a (ns.map V.int) ∧ ∀ (H' : Hp) (p : Addr) (ds : List Int), Same H H' → H p = none → H' p = some (.lst (ds.map V.int)) → Q (.ref p) H'
def spDraw : Sp := fun vs H Q _ => ∃ (b : Addr) (m : Int), vs = [.ref b, .int m] ∧ Box H b ∧ 0 < m ∧ ∀ (H' : Hp) (z : Int), Drew b H H' → 0 ≤ z → z < m → Q (.int z) H'
def spPick (K : PySem.W.Frag) : Sp := fun vs H Q _ => ∃ (b l : Addr) (xs : List V), vs = [.ref b, .ref l] ∧ Box H b ∧ l ≠ b ∧ H l = some (.lst xs) ∧ 0 < xs.length ∧ xs.length ≤ 1000 ∧ ∀ (H' : Hp) (v : V), Drew b H H' → v ∈ xs → Q v H'
section
variable {P : Program} {w : World} {K : PySem.W.Frag} {mg : Str → Option Value} {base : Heap}
theorem ok_cell {f : Addr} {fd : FuncData} (D : DefAt K mg "_law_cell" sCell ["_law_script", "_law_k"] f fd) (T : Free mg) : FnOk P w K mg base CX0 1 f fd ["_law_script", "_law_k"] (spCell K) := by
  refine D.fn.ok scCell (fun vs H Q E h => ?_) (fun cdv A outer s H vs Q E hr h => ?_)
  · obtain ⟨a, ns, k, rfl, _⟩ := h
    rfl
  · obtain ⟨a, ns, k, rfl, hS, h0, q⟩ := h
    refine ⟨_, pss_cons (ps_if (pt_cmpR op_lt (pv 1) (pe_callB call_len_seq (by rfl) T.len PySem.boot_len (pa_cons (pv 0) pa_nil)) (nomark _))
        (pss_one (ps_ret (pe_ix ix_list (pv 0) (pv 1) (fun _ _ => rfl)))) pss_nil) (pss_one (ps_ret pe_int)), ?_⟩
    refine ⟨_, rfl, _, rfl, a, _, rfl, .inl hS, _, _, rfl, rfl, _, rfl, ite2 (fun c => ?_) (fun _ => ?_)⟩
    · have c' : k < ((ns.map V.int).length : Int) := of_decide_eq_true c
      rw [List.length_map] at c'
      have hk : k.toNat < ns.length := by omega
      refine ⟨_, rfl, _, rfl, a, _, k, .int ns[k.toNat], rfl, rfl, hS, at_of (j := k.toNat) (by omega) ?_, q _⟩
      rw [List.getElem?_map, List.getElem?_eq_getElem hk]
      rfl
    · exact q 0
theorem ok_draw {f : Addr} {fd : FuncData} (D : DefAt K mg "_law_draw" sDraw ["_law_box", "_law_many"] f fd) (T : Free mg) : FnOk P w K mg base CX0 1 f fd ["_law_box", "_law_many"] spDraw := by
  refine D.fn.ok scDraw (fun vs H Q E h => ?_) (fun cdv A outer s H vs Q E hr h => ?_)
  · obtain ⟨b, m, rfl, _⟩ := h
    rfl
  · obtain ⟨b, m, rfl, ⟨D, ds, i, hb, hD, hi⟩, hm, q⟩ := h
    have hne : D ≠ b := Box.ne hb hD
    refine ⟨_, pss_cons (ps_set (i := 2) scDraw.nd rfl (.inl rfl) (pe_ix ix_list (pv 0) pe_int (fun _ _ => rfl)))
      (pss_cons (ps_asg (pe_op op_add (pv 2) pe_int) (pg_sub (pv 0) pe_int set_list))
      (pss_cons (ps_if (pt_cmpR op_lt (pv 2) (pe_callB call_len_seq (by rfl) T.len PySem.boot_len (pa_cons (pe_ix ix_list (pv 0) pe_int (fun _ _ => rfl)) pa_nil)) (nomark _))
        (pss_one (ps_ret (pe_op op_mod (pe_callTy call_int1 (by rfl) T.int (by decide +kernel) (pa_cons (pe_ix ix_list (pe_ix ix_list (pv 0) pe_int (fun _ _ => rfl)) (pv 2) (fun _ _ => rfl)) pa_nil)) (pv 1)))) pss_nil)
      (pss_one (ps_ret pe_int)))), ?_⟩
    refine ⟨_, rfl, b, _, 1, _, rfl, rfl, SqL.of hb, rfl, ?_⟩
    refine ⟨_, rfl, _, _, rfl, rfl, _, rfl, b, _, 1, 1, rfl, rfl, hb, rfl, ?_⟩
    have hb' : upd H b (.lst [.ref D, .int (i + 1)]) b = some (.lst [.ref D, .int (i + 1)]) := upd_same
    have hD' : upd H b (.lst [.ref D, .int (i + 1)]) D = some (.lst (ds.map V.int)) := by rw [upd_ne hne]; exact hD
    have dr : Drew b H (upd H b (.lst [.ref D, .int (i + 1)])) := ⟨.upd b H _, ⟨D, ds, i + 1, hb', hD', by omega⟩, fun D2 i2 q2 => ⟨i + 1, by
      rw [hb] at q2
      injection q2 with q2
      injection q2 with q2
      rw [← V.ref.inj (List.cons.inj q2).1]
      exact hb'⟩⟩
    refine ⟨_, rfl, _, rfl, b, _, 0, _, rfl, rfl, SqL.of hb', rfl, D, _, rfl, .inl (SqL.of hD'), _, _, rfl, rfl, _, rfl, ite2 (fun c => ?_) (fun _ => ?_)⟩
    · have c' : i < ((ds.map V.int).length : Int) := of_decide_eq_true c
      rw [List.length_map] at c'
      have hk : i.toNat < ds.length := by omega
      refine ⟨_, rfl, b, _, 0, _, rfl, rfl, SqL.of hb', rfl, _, rfl, D, _, i, .int ds[i.toNat], rfl, rfl, SqL.of hD', at_of (j := i.toNat) (by omega) ?_, .inl ⟨_, rfl, _, rfl, _, _, rfl, rfl, hm, q _ _ dr (Int.emod_nonneg _ (by omega)) (Int.emod_lt_of_pos _ hm)⟩⟩
      rw [List.getElem?_map, List.getElem?_eq_getElem hk]
      rfl
    · exact q _ 0 dr (Int.le_refl 0) hm
theorem ok_pick {f : Addr} {fd : FuncData} (D : DefAt K mg "_law_pick" sPick ["_law_box", "_law_things"] f fd) (T : Free mg) (dr : Callee P w K mg base CX0 1 "_law_draw" ["_law_box", "_law_many"] spDraw) :
    FnOk P w K mg base CX0 2 f fd ["_law_box", "_law_things"] (spPick K) := by
  obtain ⟨g, gd, GD, mD, kD, bD⟩ := dr.ex
  refine D.fn.ok scPick (fun vs H Q E h => ?_) (fun cdv A outer s H vs Q E hr h => ?_)
  · obtain ⟨b, l, xs, rfl, _⟩ := h
    rfl
  · obtain ⟨b, l, xs, rfl, hb, hne, hl, h0, h1, q⟩ := h
    refine ⟨_, pss_one (ps_ret (pe_ix ix_list (pv 1) (pe_op op_mod (pe_callTy call_int1 (by rfl) T.int (by decide +kernel) (pa_cons (pe_call GD hr (by rfl) mD kD bD .nil pass0 (pa_cons (pv 0) (pa_cons pe_int pa_nil))) pa_nil))
      (pe_callB call_len_seq (by rfl) T.len PySem.boot_len (pa_cons (pv 1) pa_nil))) (fun _ _ => rfl))), ?_⟩
    refine ⟨_, rfl, _, rfl, b, 900, rfl, hb, by decide, fun H' z d hz0 hz1 => .inl ⟨_, rfl, _, rfl, l, xs, rfl, .inl (SqL.of (d.but _ _ hne hl)), _, _, rfl, rfl, by omega, ?_⟩⟩
    have h3 : 0 ≤ z % (xs.length : Int) := Int.emod_nonneg _ (by omega)
    have h4 : z % (xs.length : Int) < xs.length := Int.emod_lt_of_pos _ (by omega)
    have hk : (z % (xs.length : Int)).toNat < xs.length := by omega
    exact ⟨l, xs, _, xs[(z % (xs.length : Int)).toNat], rfl, rfl, SqL.of (d.but _ _ hne hl), at_of (j := (z % (xs.length : Int)).toNat) (by omega) (List.getElem?_eq_getElem hk), q _ _ d (List.getElem_mem hk)⟩
theorem ok_digits {f : Addr} {fd : FuncData} (D : DefAt K mg "_law_digits" sDigits ["_law_script", "_law_first", "_law_last"] f fd) (T : Free mg) (ce : Callee P w K mg base CX0 1 "_law_cell" ["_law_script", "_law_k"] (spCell K)) :
    FnOk P w K mg base CX0 2 f fd ["_law_script", "_law_first", "_law_last"] (spDigits K) := by
  obtain ⟨g, gd, GC, mC, kC, bC⟩ := ce.ex
  refine D.fn.ok scDigits (fun vs H Q E h => ?_) (fun cdv A outer s H vs Q E hr h => ?_)
  · obtain ⟨a, ns, rfl, _⟩ := h
    rfl
  · obtain ⟨a, ns, rfl, hS, q⟩ := h
    refine ⟨_, (pss_cons (ps_set (i := 3) scDigits.nd rfl (.inl rfl) (pe_lst pa_nil))
  (pss_cons (ps_for PassesOwn.never rfl (pi_range2 (by rfl) T.range (pa_cons (pv 1) (pa_cons (pv 2) pa_nil))) (pg_name (i := 4) scDigits.nd rfl (.inl rfl))
  (pss_cons (ps_set (i := 5) scDigits.nd rfl (.inl rfl) (pe_call GC (hr.mono (by decide)) (by rfl) mC kC bC .nil pass0 (pa_cons (pv 0) (pa_cons (pv 4) pa_nil))))
  (pss_cons (ps_if (pt_cmpR op_lt (pv 5) pe_int (nomark _))
  (pss_one (ps_set (i := 5) scDigits.nd rfl (.inl rfl) (pe_op op_sub pe_int (pe_op op_mul pe_int (pv 5)))))
  pss_nil)
  (pss_one (ps_if (pt_cmpR op_ge (pv 5) (pe_op op_pow pe_int pe_int) (nomark _))
  (pss_one (ps_for PassesOwn.never rfl (pi_range1 (by rfl) T.range (pa_cons pe_int pa_nil)) (pg_name (i := 6) scDigits.nd rfl (.inl rfl))
  (pss_one (ps_if (pt_cmpR op_gt (pv 5) pe_int (nomark _))
  (pss_cons (ps_expr (pe_bm PySem.F.plainAttrs_list PySem.F.slot_list_append PySem.F.type_list_append mt_append (pv 3) (pa_cons (pe_op op_mod (pe_callTy call_int1 (by rfl) T.int (by decide +kernel) (pa_cons (pv 5) pa_nil)) pe_int) pa_nil)))
  (pss_one (ps_set (i := 5) scDigits.nd rfl (.inl rfl) (pe_op op_fdiv (pv 5) pe_int))))
  pss_nil))))
  (pss_cons (ps_set (i := 7) scDigits.nd rfl (.inl rfl) (pe_op op_mod (pe_callTy call_int1 (by rfl) T.int (by decide +kernel) (pa_cons (pe_op op_add (pe_op op_add (pe_op op_mul (pv 5) pe_int) (pe_op op_mul (pv 4) pe_int)) pe_int) pa_nil)) pe_int))
  (pss_one (ps_for PassesOwn.never rfl (pi_range1 (by rfl) T.range (pa_cons pe_int pa_nil)) (pg_name (i := 6) scDigits.nd rfl (.inl rfl))
  (pss_cons (ps_set (i := 7) scDigits.nd rfl (.inl rfl) (pe_op op_mod (pe_callTy call_int1 (by rfl) T.int (by decide +kernel) (pa_cons (pe_op op_add (pe_op op_add (pe_op op_mul (pv 7) pe_int) (pe_op op_mul pe_int (pv 6))) pe_int) pa_nil)) pe_int))
  (pss_one (ps_expr (pe_bm PySem.F.plainAttrs_list PySem.F.slot_list_append PySem.F.type_list_append mt_append (pv 3) (pa_cons (pe_op op_mod (pe_callTy call_int1 (by rfl) T.int (by decide +kernel) (pa_cons (pe_op op_fdiv (pv 7) pe_int) pa_nil)) pe_int) pa_nil)))))))))))))
  (pss_one (ps_ret (pv 3))))), ?_⟩
    refine ⟨Nat.zero_le _, fun p np => ?_⟩
    -- the invariant: the list at p, of so many ints at most
    have step : ∀ {H1 : Hp} {ds : List Int} {x : Int}, Same H H1 → H1 p = some (.lst (ds.map V.int)) → Same H (upd H1 p (.lst (ds.map V.int ++ [.int x]))) ∧ upd H1 p (.lst (ds.map V.int ++ [.int x])) p = some (.lst ((ds ++ [x]).map V.int)) := fun {H1 ds x} s1 h1 =>
      ⟨fun b o e => by rw [upd_ne (ne_of_none e np)]; exact s1 _ _ e, by rw [upd_same, List.map_append]; rfl⟩
    refine ⟨_, rfl, _, rfl, 0, 63, rfl, ⟨by decide, by decide, by decide, by decide⟩, ?_⟩
    refine for_range (lo := 0) (n := 63) (fun i σ H1 => ∃ (ds : List Int) (v4 v5 v6 v7 : Option V), σ = [some (.ref a), some (.int 0), some (.int 63), some (.ref p), v4, v5, v6, v7] ∧ Same H H1 ∧ H1 p = some (.lst (ds.map V.int)) ∧ ds.length ≤ 60 * i)
      ⟨[], none, none, none, none, rfl, Same.new np _, upd_same, Nat.zero_le _⟩ ?_ ?_
    · rintro i σ H1 hi ⟨ds, v4, v5, v6, v7, rfl, s1, h1, hl⟩
      refine ⟨_, rfl, _, rfl, a, ns, 0 + (i : Int), rfl, s1.seq hS, by omega, fun z => ?_⟩
      refine ⟨_, rfl, _, _, rfl, rfl, _, rfl, ?_⟩
      refine ite2 (fun _ => ?a) (fun _ => ?b)
      case' a => refine ⟨_, rfl, _, _, rfl, rfl, .inl ⟨by decide, by decide⟩, _, _, rfl, rfl, ?_⟩
      all_goals
        refine ⟨_, rfl, _, _, rfl, rfl, ⟨by decide, by decide, by decide⟩, _, _, rfl, rfl, _, rfl, ite2 (fun _ => ?_) (fun _ => ?_)⟩
        · refine ⟨60, rfl, by decide, by decide, for_range (lo := 0) (n := 60) (fun j σ H1 => ∃ (ds : List Int) (c : Int) (v6 : Option V), σ = [some (.ref a), some (.int 0), some (.int 63), some (.ref p), some (.int (0 + (i : Int))), some (.int c), v6, v7] ∧ Same H H1 ∧ H1 p = some (.lst (ds.map V.int)) ∧ ds.length ≤ 60 * i + j)
            ⟨ds, _, _, rfl, s1, h1, by omega⟩ ?_ ?_⟩
          · rintro j σ H1 hj ⟨ds, c, v6, rfl, s1, h1, hl⟩
            refine ⟨_, rfl, _, _, rfl, rfl, _, rfl, ite2 (fun _ => ?_) (fun _ => ?_)⟩
            · refine ⟨_, rfl, .inl ⟨rfl, _, SqL.of h1⟩, _, rfl, .inl ⟨_, rfl, _, _, rfl, rfl, (by show (0 : Int) < 1000; decide), ?_⟩⟩
              refine ⟨p, _, _, rfl, rfl, h1, by rw [List.length_map, sizeLine_eq]; omega, ?_⟩
              obtain ⟨s2, h2⟩ := step (x := c % 1000) s1 h1
              refine ⟨_, rfl, _, _, rfl, rfl, ⟨by decide, by decide⟩, ?_⟩
              exact ⟨_, _, _, rfl, s2, h2, by rw [List.length_append, List.length_singleton]; omega⟩
            · exact ⟨ds, c, _, rfl, s1, h1, by omega⟩
          · rintro σ H1 ⟨ds, c, v6, rfl, s1, h1, hl⟩
            exact ⟨ds, _, _, _, _, rfl, s1, h1, by omega⟩
        · refine ⟨_, rfl, _, _, rfl, rfl, .inr ⟨by decide, by decide⟩, _, rfl, _, _, rfl, rfl, .inr ⟨by decide, by decide⟩, _, _, rfl, rfl, _, _, rfl, rfl, .inl ⟨_, rfl, _, _, rfl, rfl, (by show (0 : Int) < 2147483647; decide), ?_⟩⟩
          refine ⟨12, rfl, by decide, by decide, for_range (lo := 0) (n := 12) (fun j σ H1 => ∃ (ds : List Int) (c : Int) (v5 v6 : Option V), σ = [some (.ref a), some (.int 0), some (.int 63), some (.ref p), some (.int (0 + (i : Int))), v5, v6, some (.int c)] ∧ Same H H1 ∧ H1 p = some (.lst (ds.map V.int)) ∧ ds.length ≤ 60 * i + j)
            ⟨ds, _, _, _, rfl, s1, h1, by omega⟩ ?_ ?_⟩
          · rintro j σ H1 hj ⟨ds, c, v5, v6, rfl, s1, h1, hl⟩
            refine ⟨_, rfl, _, _, rfl, rfl, .inr ⟨by decide, by decide⟩, _, rfl, _, _, rfl, rfl, .inl ⟨by decide, by decide⟩, _, _, rfl, rfl, _, _, rfl, rfl, .inl ⟨_, rfl, _, _, rfl, rfl, (by show (0 : Int) < 2147483647; decide), ?_⟩⟩
            refine ⟨_, rfl, .inl ⟨rfl, _, SqL.of h1⟩, _, rfl, _, _, rfl, rfl, ⟨by decide, by decide⟩, .inl ⟨_, rfl, _, _, rfl, rfl, (by show (0 : Int) < 1000; decide), ?_⟩⟩
            refine ⟨p, _, _, rfl, rfl, h1, by rw [List.length_map, sizeLine_eq]; omega, ?_⟩
            obtain ⟨s2, h2⟩ := step (x := (((c * 16807 + 7 * (0 + (j : Int)) + 1) % 2147483647) / 997) % 1000) s1 h1
            exact ⟨_, _, _, _, rfl, s2, h2, by rw [List.length_append, List.length_singleton]; omega⟩
          · rintro σ H1 ⟨ds, c, v5, v6, rfl, s1, h1, hl⟩
            exact ⟨ds, _, _, _, _, rfl, s1, h1, by omega⟩
    · rintro σ H1 ⟨ds, v4, v5, v6, v7, rfl, s1, h1, _⟩
      exact ⟨_, rfl, q _ _ ds s1 np h1⟩
end
end FB

set_option Elab.async false
set_option linter.all false
set_option maxRecDepth 100000
set_option maxHeartbeats 4000000
/-! Rules that the layer lacks: text * int, str of a text or an int, set(list of ints). -/
namespace FB
open PySem L2 PyProof.Rows
theorem foldl_sp : ∀ (n : Nat) (acc : Array Nat), (List.replicate n (S "  ").cps).foldl (· ++ ·) acc = acc ++ (List.replicate (2 * n) 32).toArray
  | 0, acc => by simp
  | n + 1, acc => by
    show (List.replicate n (S "  ").cps).foldl (· ++ ·) (acc ++ (S "  ").cps) = _
    rw [foldl_sp n, show (S "  ").cps = #[32, 32] from by decide +kernel]
    have e : 2 * (n + 1) = 2 + 2 * n := by omega
    rw [e, show List.replicate (2 + 2 * n) (32 : Nat) = [32, 32] ++ List.replicate (2 * n) 32 from by rw [Nat.add_comm, List.replicate_succ, List.replicate_succ]; rfl]
    apply Array.toList_inj.mp
    simp
theorem two_len : (S "  ").length = 2 := by decide +kernel
/-- two spaces, so many times -/
def rMulS : R2 := fun x y H Q => ∃ d : Nat, x = .str (S "  ") ∧ y = .int (d : Nat) ∧ d ≤ 1000 ∧ Q (.str (sp d)) H
theorem op_mulS {X : Cx} : OpR X (binaryOp .Mult) rMulS := by
  intro pins s σ H x y v u Q I rx ry h
  obtain ⟨d, rfl, rfl, hd, q⟩ := h
  obtain ⟨t, rfl⟩ := rx
  obtain ⟨t', rfl⟩ := ry
  refine PySem.P.mul_str (by
    rw [decide_eq_false (show ¬ ((d : Int) < -(2 ^ 63)) by omega), decide_eq_false (show ¬ ((d : Int) ≥ 2 ^ 63) by omega)]
    rfl) (fun h1 _ => ?_) (fun _ _ => ?_) ?_
  · rw [two_len]
    have h2 : (2 : Int) ≤ (2 ^ 63 - 1) / (d : Int) := Int.le_ediv_of_mul_le (by omega) (by omega)
    omega
  · unfold Builtin.Str.tooLong
    refine decide_eq_false ?_
    rw [two_len, sizeLine_eq]
    omega
  · by_cases h1 : (d : Int) < 1
    · rw [if_pos h1]
      have e : d = 0 := by omega
      subst e
      exact ⟨by decide, .str (sp 0), _, I.tok _, ⟨s.toks, rfl⟩, q⟩
    · rw [if_neg h1]
      by_cases h2 : d = 1
      · subst h2
        rw [if_pos (by rfl)]
        exact ⟨.str (sp 1), _, I, ⟨t, by rw [show S "  " = sp 1 from by decide +kernel]⟩, q⟩
      · have h3 : ((d : Int) == 1 || (S "  ").length == 0) = false := by
          rw [two_len]
          have : ((d : Int) == 1) = false := by simp; omega
          rw [this]; rfl
        rw [h3, if_neg Bool.false_ne_true]
        have e : (⟨(List.replicate (d : Int).toNat (S "  ").cps).foldl (· ++ ·) #[]⟩ : Str) = sp d := by
          rw [foldl_sp]
          show (⟨#[] ++ _⟩ : Str) = _
          rw [Int.toNat_natCast]
          simp [sp]
        rw [e]
        refine ⟨?_, .str (sp d), _, I.tok _, ⟨s.toks, rfl⟩, q⟩
        rw [sp_len, sizeLine_eq]
        omega
/-- str of a text, of an int -/
theorem call_str_any {X : Cx} : CallR X (.type "str") (fun xs H Q => (∃ i, xs = [.int i] ∧ i.natAbs.log2 < 1920 ∧ Q (.str (toString i)) H) ∨ (∃ a, xs = [.str a] ∧ Q (.str a) H)) := call_str_int.or SkE.call_str_str
end FB

set_option Elab.async false
set_option linter.all false
set_option maxRecDepth 100000
set_option maxHeartbeats 8000000
/-! set(a list of ints) as a value whose order is known, then sorted. -/
namespace FB
open PySem L2 PyProof.Rows
/-- an empty set as this world makes it -/
abbrev emptySet (w : World) : Obj :=
  { cls := .type "set", dict := none, data := .set #[] 0 (.fresh 0 0 (!w.params.followText "set-order")) }
section
variable {P : Program} {w : World} {A : Around} {E : Value → Shared → Prop} {s : Shared}
/-- what set(l) has done -/
structure SetMade (w : World) (ns : List Int) (s : Shared) (h' : Heap) (c : Nat) : Prop where
  set : SetR w h' s.heap.objs.size (fun j => decide (j ∈ ns)) c
  few : c ≤ ns.length
  keep : ∀ b o, s.heap.get? b = some o → h'.get? b = some o
/-- set.__init__ on the fresh set, walked over the list -/
theorem set_init_list {l : Addr} {items : Array Value} (ns : List Int) {Q : Value → Shared → Prop} {A : Around} (hh : A.handled = none) (hl : s.heap.IsList l items) (hi : IntsAre items.toList ns) (hb : ns.length + 1 < scanBound)
    (hQ : ∀ h' tk c, SetMade w ns s h' c → Q .none { s with heap := h', toks := tk }) :
    codeAny (model P w) A (.call (.builtin "set.__init__") ⟨[.ref s.heap.objs.size, .ref l], []⟩) (wants Q E) { s with heap := s.heap.push (emptySet w) } := by
  have hsz : items.size = ns.length := by
    have q := IntsAre.length hi
    rwa [Array.length_toList] at q
  have hS : (s.heap.push (emptySet w)).get? s.heap.objs.size = some (emptySet w) := Heap.get?_push_size _ rfl
  have hT : Shared.TypeIs { s with heap := s.heap.push (emptySet w) } (.ref s.heap.objs.size) "set" := ⟨_, hS, rfl⟩
  refine codeAny_call_builtin F.called_set.init.plain F.entry_set_init (check_set_init_1 hT ?_)
  obtain ⟨ol, hol, hcl, nl, hdl⟩ := hl
  have hol' : (s.heap.push (emptySet w)).get? l = some ol := Heap.get?_push_of_some _ hol
  have hl1 : (s.heap.push (emptySet w)).IsList l items := ⟨_, hol', hcl, nl, hdl⟩
  obtain ⟨ocls, odict, odata, oslots⟩ := ol
  simp only at hcl hdl
  subst hcl hdl
  have f1 := F.sub_list_set
  have f2 := F.sub_list_frozenset
  have f3 : (Value.type "list" == Value.type "dict") = false := by decide
  unfold Builtin.«set.__init__» noKeywords Builtin.Frozenset.updateFrom
  generalize hgo : pyIter = go
  wp_walk
  subst hgo
  refine wpAny_pyIter_list hl1 (wpAny_bind (wpAny_runValue ?_))
  have hlt : l < s.heap.objs.size := Heap.lt_size hol
  have hsz1 : (s.heap.push (emptySet w)).objs.size = s.heap.objs.size + 1 := Heap.size_push ..
  have hne : l ≠ (s.heap.push (emptySet w)).objs.size := by
    rw [hsz1]
    exact Nat.ne_of_lt (Nat.lt_succ_of_lt hlt)
  have hnf : s.heap.objs.size ∉ [(s.heap.push (emptySet w)).objs.size, l] := by
    rw [hsz1]
    simp only [List.mem_cons, List.not_mem_nil, or_false, not_or]
    exact ⟨Nat.ne_of_lt (Nat.lt_succ_self _), Nat.ne_of_gt hlt⟩
  refine set_update_ints ((Walks.list (by simp [hh]) _ l hne items).toS) s.heap.objs.size hnf ns hsz hb (fun i v hv => ?_) (items.size - 0) 0 _ (by omega) (Nat.zero_le _)
    ⟨⟨_, Heap.get?_push_size _ rfl, rfl, rfl⟩, hl1.push _⟩ ⟨0, Nat.le_refl 0, setR_new_at (Heap.get?_push_of_some _ hS)⟩ (fun s2 c hm hc hR => ?_)
  · have hlt2 : i < ns.length := by
      rw [← hsz]
      exact (Array.getElem?_eq_some_iff.mp hv).1
    obtain ⟨t, e⟩ := IntsAre.int_at hi i v (by rw [Array.getElem?_toList]; exact hv)
    refine ⟨ns[i], t, List.getElem?_eq_getElem hlt2, ?_⟩
    rw [e, List.getD_eq_getElem?_getD, List.getElem?_eq_getElem hlt2]
    rfl
  · obtain ⟨h2, g2, d2, t2, o2⟩ := s2
    obtain rfl : g2 = s.gens := hm.gens
    obtain rfl : d2 = s.drawn := hm.drawn
    obtain rfl : o2 = s.os := hm.os
    refine wpAny_pure (wpAny_pure (hQ h2 t2 c ⟨hR, by omega, fun b o e => ?_⟩))
    have hb0 := Heap.lt_size e
    refine hm.heap b o ?_ (Heap.get?_push_of_some _ (Heap.get?_push_of_some _ e))
    rw [hsz1]
    simp only [List.mem_cons, List.not_mem_nil, or_false, not_or]
    exact ⟨Nat.ne_of_lt hb0, Nat.ne_of_lt (Nat.lt_succ_of_lt hb0)⟩
theorem call_set_l {l : Addr} {items : Array Value} (ns : List Int) {Q : Value → Shared → Prop} (hh : A.handled = none) (hl : s.heap.IsList l items) (hi : IntsAre items.toList ns) (hb : ns.length + 1 < scanBound)
    (hQ : ∀ h' tk c, SetMade w ns s h' c → Q (.ref s.heap.objs.size) { s with heap := h', toks := tk }) :
    wpAny (model P w) A (call (.type "set") [.ref l]) Q E s := by
  have c1 := F.called_set.notType
  have c2 := F.called_set.canCreate
  have c3 := F.typeCall_set_1 (.ref l)
  have c4 := F.called_set.made
  have c5 := F.called_set.sub
  obtain ⟨c, tl, c6⟩ := F.called_set.mro
  refine wpAny_call (codeAny_of_tree (wpAny_pure ⟨Code.quiet_builtin _ (by decide +kernel), codeAny_builtin F.entry_type_call ?_⟩))
  rw [Around.under_plain (weight_type_call_type "set" [.ref l] []) (by rfl)]
  repeat (any_goals (first | assumption | wp_step))
  refine codeAny_mono (code_set_led1 (.ref l) (E := E) (Q₁ := fun obj s1 => obj = .ref s.heap.objs.size ∧ s1 = { s with heap := s.heap.push (emptySet w) }) ⟨rfl, rfl⟩) fun r s1 hr => ?_
  have no : ∀ {x : Prop}, False → x := fun {x} z => z.elim
  cases r with
  | error e => exact hr
  | ok fl =>
    cases fl with
    | next => exact no hr
    | brk => exact no hr
    | cont => exact no hr
    | ret obj =>
      obtain ⟨rfl, rfl⟩ := hr
      have hT : Shared.TypeIs { s with heap := s.heap.push (emptySet w) } (.ref s.heap.objs.size) "set" := ⟨_, Heap.get?_push_size _ rfl, rfl⟩
      have c7 := F.called_set.init.lookup
      have c8 := F.called_set.init.bind (.ref s.heap.objs.size)
      repeat (any_goals (first | assumption | wp_step))
      refine codeAny_mono (set_init_list (Q := fun r s2 => r = .none ∧ ∃ h' tk c, s2 = { s with heap := h', toks := tk } ∧ SetMade w ns s h' c) (E := E) ns (by simp [hh]) hl hi hb fun h' tk c m => ⟨rfl, h', tk, c, rfl, m⟩) fun r2 s2 hr2 => ?_
      cases r2 with
      | error e => exact hr2
      | ok f2 =>
        cases f2 with
        | next => exact no hr2
        | brk => exact no hr2
        | cont => exact no hr2
        | ret u =>
          obtain ⟨rfl, h', tk, c', rfl, m⟩ := hr2
          repeat (any_goals (first | assumption | wp_step))
          exact hQ _ _ _ m
end
/-- set(l), l a list of ints -/
def rSetL (K : PySem.W.Frag) (w : World) : List V → Hp → VK → Prop := fun xs H Q => ∃ (l : Addr) (ns : List Int), xs = [.ref l] ∧ SqL K H l (ns.map V.int) ∧ ns.length ≤ 60 ∧
  ∀ (a : Addr) (c : Nat), H a = none → c ≤ ns.length → Q (.ref a) (upd H a (SetO w a (fun j => decide (j ∈ ns)) c))
theorem call_setL {X : Cx} (hc : X.calm = true) : CallR X (.type "set") (rSetL X.K X.w) := by
  intro pins s σ H xs us Q I r h
  obtain ⟨l, ns, rfl, hq, hn, q⟩ := h
  rw [Vals.ref1 r]
  obtain ⟨its, rv, pl, hz⟩ := I.list hq
  refine call_set_l ns (I.ok.hd hc) pl.isList (by simpa using Vals.ints rv) (by unfold scanBound; omega) fun h' tk c m => ?_
  refine ⟨.ref s.heap.objs.size, upd H s.heap.objs.size (SetO X.w s.heap.objs.size (fun j => decide (j ∈ ns)) c), ?_, rfl, q _ c (I.hok.fresh (Nat.le_refl _)) m.few⟩
  exact I.laid (t' := tk) m.keep (Nat.le_refl _) (setO_new m.set)
end FB

set_option Elab.async false
set_option linter.all false
set_option maxRecDepth 100000
set_option maxHeartbeats 4000000
/-! The law's histories and trees. -/
namespace FB
open PySem L2
/-! ### names -/
def nameK (k : Nat) : Str := S "v" ++ ⟨#[97 + k]⟩
def namesTo (n : Nat) : List Str := (List.range n).map nameK
theorem namesTo_succ (n : Nat) : namesTo (n + 1) = namesTo n ++ [nameK n] := by
  unfold namesTo
  rw [List.range_succ, List.map_append]
  rfl
theorem namesTo_len (n : Nat) : (namesTo n).length = n := by
  unfold namesTo
  rw [List.length_map, List.length_range]
theorem namesTo_ok : ∀ n, n < 7 → Names (namesTo n) := fun n h => by
  have h1 : ∀ n, n < 7 → (namesTo n).Nodup := by decide +kernel
  have h2 : ∀ n, n < 7 → ∀ w ∈ namesTo n, w ≠ Str.empty ∧ 32 ∉ w.cps.toList ∧ 10 ∉ w.cps.toList := by decide +kernel
  exact ⟨h1 n h, fun w hw => (h2 n h w hw).1, fun w hw => (h2 n h w hw).2.1, fun w hw => (h2 n h w hw).2.2⟩
theorem letter_at : ∀ k, k < 6 → atI (S "abcdefghijklmnopqrstuvwx").cps.toList ((0 : Int) + ((k : Nat) : Int)) = some (97 + k) := by decide +kernel
/-! ### heaps -/
theorem Box.notFlat {H : Hp} {b e : Addr} (h : Box H b) {xs : List V} (he : H e = some (.lst xs)) (hf : xs.all flatV = true) : e ≠ b := fun q => by
  obtain ⟨D, ds, i, h1, _⟩ := h
  rw [q, h1] at he
  injection he with he
  injection he with he
  subst he
  simp [flatV] at hf
theorem Drew.new {b p : Addr} {H H1 : Hp} (x : Drew b H H1) (np : H1 p = none) (o : HO) : Drew b H (upd H1 p o) := x.same (Same.new np o)
theorem cut_flat {xs : List V} (h : xs.all flatV = true) (lo hi : Option Int) : (cutV xs lo hi).all flatV = true := List.all_eq_true.mpr fun x hx => by
  unfold cutV at hx
  exact List.all_eq_true.mp h x (List.mem_of_mem_drop (List.mem_of_mem_take hx))
theorem ints_flat (ns : List Int) : (ns.map V.int).all flatV = true := List.all_eq_true.mpr fun x hx => by
  obtain ⟨n, _, rfl⟩ := List.mem_map.mp hx
  rfl
def spParents : Sp := fun vs H Q _ => ∃ (b e : Addr) (k : Int) (xs : List V), vs = [.ref b, .int k, .ref e] ∧ Box H b ∧ 0 < k ∧ H e = some (.lst xs) ∧ xs.all flatV = true ∧ xs.length ≤ 100 ∧
  ∀ (H' : Hp) (p : Addr) (ys : List V), Drew b H H' → H' p = some (.tup ys) → ys.all flatV = true → Q (.ref p) H'
def spHistory : Sp := fun vs H Q _ => ∃ (b : Addr), vs = [.ref b, .int 6] ∧ Box H b ∧ ∀ (H' : Hp) (h : Addr) (n : Nat), Drew b H H' → 1 ≤ n → n ≤ 6 → HistAt H' h (namesTo n) → Q (.ref h) H'
def spTree (n : Nat) : Sp := fun vs H Q _ => ∃ (b : Addr) (m d : Nat), vs = [.ref b, .int (m : Nat), .int (d : Nat)] ∧ Box H b ∧ 0 < m ∧ d < n ∧ ∀ (H' : Hp) (v : V) (T : Tree), Drew b H H' → TreeAt H' v T → T.deep ≤ d → T.Good m → Q v H'
def spDeep : Sp := fun vs H Q _ => ∃ (n : Nat), vs = [.int (n : Nat)] ∧ n ≤ 1000 ∧ ∀ (H' : Hp) (v : V), Same H H' → TreeAt H' v (chain n) → Q v H'
section
variable {P : Program} {w : World} {K : PySem.W.Frag} {mg : Str → Option Value} {base : Heap}
theorem ok_parents {f : Addr} {fd : FuncData} (D : DefAt K mg "_law_parents" sParents ["_law_box", "_law_k", "_law_ends"] f fd) (T : Free mg) (dr : Callee P w K mg base CX0 1 "_law_draw" ["_law_box", "_law_many"] spDraw) :
    FnOk P w K mg base CX0 2 f fd ["_law_box", "_law_k", "_law_ends"] spParents := by
  obtain ⟨f_draw, fd_draw, G_draw, m_draw, k_draw, b_draw⟩ := dr.ex
  refine D.fn.ok scParents (fun vs H Q E h => ?_) (fun cdv A outer s H vs Q E hr h => ?_)
  · obtain ⟨b, e, k, xs, rfl, _⟩ := h
    rfl
  · obtain ⟨b, e, k, xs, rfl, hb, hk, he, hf, hl, q⟩ := h
    have ne := hb.notFlat he hf
    refine ⟨_, (pss_cons (ps_if (pt_cmpR op_gt (pe_callB call_len_seq (by rfl) T.len PySem.boot_len (pa_cons (pv 2) pa_nil)) pe_int (nomark _))
  (pss_cons (ps_set (i := 3) scParents.nd rfl (.inl rfl) (pe_call G_draw (hr.mono (by omega)) (by rfl) m_draw k_draw b_draw .nil pass0 (pa_cons (pv 0) (pa_cons (pe_op op_sub (pe_callB call_len_seq (by rfl) T.len PySem.boot_len (pa_cons (pv 2) pa_nil)) pe_int) pa_nil))))
  (pss_one (ps_ret (pe_callTy call_tuple_of (by rfl) T.tuple (by decide +kernel) (pa_cons (pe_slice sl_list (pv 2) (po_some (pv 3)) (po_some (pe_op op_add (pv 3) pe_int))) pa_nil)))))
  pss_nil)
  (pss_cons (ps_if (pt_cmpR op_eq (pe_call G_draw (hr.mono (by omega)) (by rfl) m_draw k_draw b_draw .nil pass0 (pa_cons (pv 0) (pa_cons pe_int pa_nil))) pe_int (nomark _))
  (pss_one (ps_ret (pe_tup pa_nil)))
  pss_nil)
  (pss_cons (ps_set (i := 4) scParents.nd rfl (.inl rfl) (pe_call G_draw (hr.mono (by omega)) (by rfl) m_draw k_draw b_draw .nil pass0 (pa_cons (pv 0) (pa_cons (pv 1) pa_nil))))
  (pss_cons (ps_set (i := 5) scParents.nd rfl (.inl rfl) (pe_call G_draw (hr.mono (by omega)) (by rfl) m_draw k_draw b_draw .nil pass0 (pa_cons (pv 0) (pa_cons (pv 1) pa_nil))))
  (pss_one (ps_ret (pe_callTy call_tuple_of (by rfl) T.tuple (by decide +kernel) (pa_cons (pe_callB (cr_sortedSet rfl) (by rfl) T.sorted (by decide +kernel) (pa_cons (pe_callTy (call_setL rfl) (by rfl) T.set (by decide +kernel) (pa_cons (pe_lst (pa_cons (pv 4) (pa_cons (pv 5) pa_nil))) pa_nil)) pa_nil)) pa_nil)))))))), ?_⟩
    refine ⟨_, rfl, e, _, rfl, .inl (SqL.of he), _, _, rfl, rfl, _, rfl, ite2 (fun c => ?_) (fun _ => ?_)⟩
    · have c' : (2 : Int) < (xs.length : Int) := of_decide_eq_true c
      refine ⟨_, rfl, _, rfl, e, _, rfl, .inl (SqL.of he), _, _, rfl, rfl, b, _, rfl, hb, by omega, fun H' z d h0 h1 => ?_⟩
      have he' := d.but _ _ ne he
      refine ⟨_, rfl, _, rfl, z, rfl, _, rfl, _, _, rfl, rfl, _, rfl, e, _, rfl, SqL.of he', fun p np => ⟨p, _, rfl, .inl ⟨SqL.of upd_same, fun t nt => ?_⟩⟩⟩
      exact q _ t _ ((d.new np _).new nt _) upd_same (cut_flat hf _ _)
    · refine ⟨_, rfl, b, 6, rfl, hb, by decide, fun H' z d h0 h1 => ⟨rfl, _, rfl, ite2 (fun _ => ?_) (fun _ => ?_)⟩⟩
      · exact ⟨Nat.zero_le _, fun p np => q _ p [] (d.new np _) upd_same rfl⟩
      · refine ⟨_, rfl, _, rfl, b, k, rfl, d.box, hk, fun H2 z2 d2 h20 h21 => ?_⟩
        refine ⟨_, rfl, _, rfl, b, k, rfl, d2.box, hk, fun H3 z3 d3 h30 h31 => ?_⟩
        refine ⟨_, rfl, _, rfl, (by show 2 ≤ sizeLine; decide), fun l nl => ?_⟩
        refine ⟨l, [z2, z3], rfl, SqL.of upd_same, (by show 2 ≤ 60; decide), fun a c na hc => ?_⟩
        refine ⟨a, _, c, rfl, upd_same, by have : ([z2, z3] : List Int).length = 2 := rfl; omega, fun ns p hs hm hln np => ?_⟩
        refine ⟨p, _, rfl, .inl ⟨SqL.of upd_same, fun t nt => ?_⟩⟩
        exact q _ t _ (((((d.trans d2).trans d3).new nl _).new na _).new np _ |>.new nt _) upd_same (ints_flat ns)
theorem ok_history {f : Addr} {fd : FuncData} (D : DefAt K mg "_law_history" sHistory ["_law_box", "_law_most"] f fd) (T : Free mg) (dr : Callee P w K mg base CX0 1 "_law_draw" ["_law_box", "_law_many"] spDraw)
    (pr : Callee P w K mg base CX0 2 "_law_parents" ["_law_box", "_law_k", "_law_ends"] spParents) : FnOk P w K mg base CX0 3 f fd ["_law_box", "_law_most"] spHistory := by
  obtain ⟨f_draw, fd_draw, G_draw, m_draw, k_draw, b_draw⟩ := dr.ex
  obtain ⟨f_parents, fd_parents, G_parents, m_parents, k_parents, b_parents⟩ := pr.ex
  refine D.fn.ok scHistory (fun vs H Q E h => ?_) (fun cdv A outer s H vs Q E hr h => ?_)
  · obtain ⟨b, rfl, _⟩ := h
    rfl
  · obtain ⟨b, rfl, hb, q⟩ := h
    refine ⟨_, (pss_cons (ps_set (i := 2) scHistory.nd rfl (.inl rfl) (pe_op op_add pe_int (pe_call G_draw (hr.mono (by omega)) (by rfl) m_draw k_draw b_draw .nil pass0 (pa_cons (pv 0) (pa_cons (pv 1) pa_nil)))))
  (pss_cons (ps_set (i := 3) scHistory.nd rfl (.inl rfl) (pe_lst pa_nil))
  (pss_cons (ps_set (i := 4) scHistory.nd rfl (.inl rfl) (pe_lst pa_nil))
  (pss_cons (ps_for PassesOwn.never rfl (pi_range1 (by rfl) T.range (pa_cons (pv 2) pa_nil)) (pg_name (i := 5) scHistory.nd rfl (.inl rfl))
  (pss_cons (ps_set (i := 6) scHistory.nd rfl (.inr rfl) (pe_tup pa_nil))
  (C8.pss_cut (ps_if (pt_cmpR op_eq (pv 5) (pe_op op_sub (pv 2) pe_int) (nomark _))
  (pss_one (ps_set (i := 6) scHistory.nd rfl (.inr rfl) (pe_callTy call_tuple_of (by rfl) T.tuple (by decide +kernel) (pa_cons (pv 4) pa_nil))))
  (pss_one (ps_if (pt_cmpR op_gt (pv 5) pe_int (nomark _))
  (pss_one (ps_set (i := 6) scHistory.nd rfl (.inr rfl) (pe_call G_parents (hr.mono (by omega)) (by rfl) m_parents k_parents b_parents .nil pass0 (pa_cons (pv 0) (pa_cons (pv 5) (pa_cons (pv 4) pa_nil))))))
  pss_nil)))
  (pss_cons (ps_set (i := 4) scHistory.nd rfl (.inl rfl) (pe_op op_cat (pe_lc (own := [("_law_end", 7)]) (g := gName 7) (by rfl) scHistory.nd (pi_list (pv 4)) (blkOk_by (own := [("_law_end", 7)]) (N := nHistory) (sc := defScope sHistory) (by decide +kernel)) (fun _ _ _ _ _ => pg_name (i := 7) scHistory.nd rfl (Or.inl rfl)) (fun _ _ _ _ _ => pts_one (pt_cmpR (r := rIn K true) op_notIn_seq (pv 7) (pv 6) (by rfl))) (fun _ _ _ _ _ => (pv 7))) (pe_lst (pa_cons (pv 5) pa_nil))))
  (pss_one (ps_expr (pe_bm PySem.F.plainAttrs_list PySem.F.slot_list_append PySem.F.type_list_append mt_append (pv 3) (pa_cons (pe_tup (pa_cons (pe_op op_add_str pe_str (pe_ix ix_str pe_str (pv 5) (fun _ _ => rfl))) (pa_cons (pv 6) pa_nil))) pa_nil))))))))
  (pss_one (ps_ret (pe_tup (pa_cons pe_str (pa_cons (pe_callTy call_tuple_of (by rfl) T.tuple (by decide +kernel) (pa_cons (pv 3) pa_nil)) pa_nil))))))))), ?_⟩
    refine ⟨_, rfl, _, rfl, b, 6, rfl, hb, by decide, fun H1 z d1 h10 h11 => ⟨_, _, rfl, rfl, ?_⟩⟩
    obtain ⟨n, en, n1, n6⟩ : ∃ n : Nat, (1 : Int) + z = (n : Nat) ∧ 1 ≤ n ∧ n ≤ 6 := ⟨(1 + z).toNat, by omega, by omega, by omega⟩
    refine ⟨Nat.zero_le _, fun M nM => ⟨Nat.zero_le _, fun e0 ne0 => ?_⟩⟩
    have nM0 : H M = none := d1.unborn nM
    have D1 := (d1.new nM (.lst [])).new ne0 (.lst [])
    have neM : M ≠ e0 := ne_of_none upd_same ne0
    refine ⟨_, rfl, (n : Int), by rw [← en], by omega, by omega, for_range (lo := 0) (n := n) (fun i σ H' => ∃ (e : Addr) (v5 v6 v7 : Option V) (ms es : List V), σ = [some (.ref b), some (.int 6), some (.int (1 + z)), some (.ref M), some (.ref e), v5, v6, v7] ∧
        Drew b H H' ∧ H' M = some (.lst ms) ∧ MakesAt H' ms (namesTo i) ∧ H' e = some (.lst es) ∧ es.all flatV = true ∧ es.length ≤ i ∧ M ≠ e)
      ⟨e0, none, none, none, [], [], rfl, D1, by rw [upd_ne neM, upd_same], .nil, upd_same, rfl, Nat.le_refl _, neM⟩ ?_ ?_⟩
    · rintro i σ H2 hi ⟨e, v5, v6, v7, ms, es, rfl, d2, hM, mk, he, hf, hl, nMe⟩
      have lenM : ms.length = i := by rw [mk.length, namesTo_len]
      refine ⟨Nat.zero_le _, fun p0 np0 => ?_⟩
      have dp := d2.new np0 (.tup [])
      have hep : upd H2 p0 (.tup []) e = some (.lst es) := by rw [upd_ne (ne_of_none he np0)]; exact he
      -- behind the parents: some tuple of flat things stands in its slot
      refine ⟨fun σ3 H3 => ∃ (p : Addr) (ys : List V), σ3 = [some (.ref b), some (.int 6), some (.int (1 + z)), some (.ref M), some (.ref e), some (.int (0 + (i : Int))), some (.ref p), v7] ∧
        Drew b (upd H2 p0 (.tup [])) H3 ∧ H3 p = some (.tup ys) ∧ ys.all flatV = true, ?_, ?_⟩
      · refine ⟨_, rfl, _, rfl, _, _, rfl, rfl, rfl, _, rfl, ite2 (fun _ => ?_) (fun _ => ⟨_, rfl, _, _, rfl, rfl, _, rfl, ite2 (fun c => ?_) (fun _ => ?_)⟩)⟩
        · refine ⟨_, rfl, e, _, rfl, .inl ⟨SqL.of hep, fun t nt => ?_⟩⟩
          exact ⟨t, es, rfl, (Drew.refl dp.box).new nt _, upd_same, hf⟩
        · have c' : (0 : Int) < 0 + (i : Int) := of_decide_eq_true c
          refine ⟨_, rfl, _, rfl, _, rfl, b, e, _, es, rfl, dp.box, c', hep, hf, by omega, fun H3 p ys d3 hp hy => ?_⟩
          exact ⟨p, ys, rfl, d3, hp, hy⟩
        · exact ⟨p0, [], rfl, Drew.refl dp.box, upd_same, rfl⟩
      · rintro σ3 H3 ⟨p, ys, rfl, d3, hp, hy⟩
        have D3 := dp.trans d3
        have nMb : M ≠ b := fun e => by
          obtain ⟨_, _, _, q1, _⟩ := hb
          rw [← e, nM0] at q1
          cases q1
        have he3 := d3.but _ _ (dp.box.notFlat hep hf) hep
        have hM3 : H3 M = some (.lst ms) := d3.but _ _ nMb (by rw [upd_ne (ne_of_none hM np0)]; exact hM)
        have t3 : Tups H2 H3 := (Same.tups (Same.new np0 _)).trans (d3.tups dp.box)
        refine ⟨_, rfl, e, rfl, ⟨_, SqL.of he3⟩, fun N nN => ?_⟩
        have neN : e ≠ N := ne_of_none he3 nN
        have npN : p ≠ N := ne_of_none hp nN
        refine lc_list (K := K) (a := e) (xs := es) (fun j Hj => ∃ acc : List V, Hj = upd H3 N (.lst acc) ∧ acc.all flatV = true ∧ acc.length ≤ j)
          ⟨[], rfl, rfl, Nat.le_refl _⟩ (fun j Hj _ ⟨acc, eH, _, _⟩ => SqL.of (by rw [eH, upd_ne neN]; exact he3)) ?_ ?_
        · rintro j x Hj hx ⟨acc, rfl, hfa, hla⟩
          have fx : flatV x = true := List.all_eq_true.mp hf x (List.mem_of_getElem? hx)
          have hj : j < es.length := (List.getElem?_eq_some_iff.mp hx).1
          refine ⟨rfl, _, rfl, _, rfl, p, ys, rfl, .inr (SqT.of (by rw [upd_ne npN]; exact hp)), fx, hy, _, rfl, ite2 (fun _ => ?_) (fun _ => ?_)⟩
          · refine ⟨_, rfl, acc, upd_same, by rw [sizeLine_eq]; omega, acc ++ [x], upd_upd, ?_, by rw [List.length_append, List.length_singleton]; omega⟩
            rw [List.all_append, hfa]
            simp [fx]
          · exact ⟨acc, rfl, hfa, by omega⟩
        · rintro Hj ⟨acc, rfl, hfa, hla⟩
          refine ⟨_, rfl, (by show 1 ≤ sizeLine; decide), fun L nL => ?_⟩
          have D4 := (D3.new nN (.lst acc)).new nL (.lst [.int (0 + (i : Int))])
          refine ⟨N, L, _, _, rfl, rfl, by rw [upd_ne (ne_of_none upd_same nL), upd_same], upd_same, by rw [List.length_singleton, sizeLine_eq]; omega, fun C nC => ?_⟩
          have D5 := D4.new nC (.lst (acc ++ [.int (0 + (i : Int))]))
          have t5 : Tups H2 _ := t3.trans ((Same.tups (Same.new nN (.lst acc))).trans ((Same.tups (Same.new nL (.lst [.int (0 + (i : Int))]))).trans (Same.tups (Same.new nC (.lst (acc ++ [.int (0 + (i : Int))]))))))
          have s5 : Same H3 _ := (Same.new nN (.lst acc)).trans ((Same.new nL (.lst [.int (0 + (i : Int))])).trans (Same.new nC (.lst (acc ++ [.int (0 + (i : Int))]))))
          have hM5 := s5 _ _ hM3
          have hp5 := s5 _ _ hp
          refine ⟨_, rfl, .inl ⟨rfl, _, SqL.of hM5⟩, ?_⟩
          refine ⟨_, rfl, _, 0 + (i : Int), 97 + i, rfl, rfl, by rw [sizeLine_eq]; decide +kernel, letter_at i (by omega), _, _, rfl, rfl, ?_, ?_⟩
          · rw [show (Str.ofString "v").length = 1 from by decide +kernel, sizeLine_eq]
            show 1 + 1 ≤ 16777216
            decide
          · refine ⟨_, rfl, (by show 2 ≤ sizeLine; decide), fun R nR => ⟨M, ms, _, rfl, rfl, by rw [upd_ne (ne_of_none hM5 nR)]; exact hM5, by rw [lenM, sizeLine_eq]; omega, ?_⟩⟩
            have hM4 : upd (upd H3 N (.lst acc)) L (.lst [.int (0 + (i : Int))]) M = some (.lst ms) := ((Same.new nN (.lst acc)).trans (Same.new nL (.lst [.int (0 + (i : Int))]))) _ _ hM3
            have nMC : M ≠ C := ne_of_none hM4 nC
            have nCR : C ≠ R := ne_of_none upd_same nR
            have hM6 := Same.new nR (.tup [.str (nameK i), .ref p]) _ _ hM5
            have t6 := t5.trans (Same.tups (Same.new nR (.tup [.str (nameK i), .ref p])))
            have tM : ∀ {o : HO} {G : Hp}, G M = some (.lst ms) → Tups G (L2.upd G M o) := fun {o G} hG a xs q => by
              rw [upd_ne (fun z => by rw [z, hG] at q; cases q)]
              exact q
            refine ⟨C, _, _, _, ms ++ [.ref R], acc ++ [.int (0 + (i : Int))], rfl, (D5.new nR _).wrote hb nM0 _, upd_same, ?_, ?_, ?_, ?_, nMC⟩
            · rw [namesTo_succ]
              refine (mk.mono (t6.trans (tM hM6))).snoc ⟨R, .ref p, rfl, tM hM6 _ _ upd_same⟩
            · rw [upd_ne (Ne.symm nMC), upd_ne nCR]
              exact upd_same
            · rw [List.all_append, hfa]
              rfl
            · rw [List.length_append, List.length_singleton]
              omega
    · rintro σ H2 ⟨e, v5, v6, v7, ms, es, rfl, d2, hM, mk, he, hf, hl, nMe⟩
      refine ⟨_, rfl, M, _, rfl, .inl ⟨SqL.of hM, fun t nt => ⟨(by show 2 ≤ sizeLine; decide), fun h nh => ?_⟩⟩⟩
      have s1 := Same.new nt (.tup ms)
      have s2 := Same.new nh (.tup [.str (S "history"), .ref t])
      refine q _ h n ((d2.same s1).same s2) n1 n6 ⟨t, ms, upd_same, ?_, (mk.mono (Same.tups s1)).mono (Same.tups s2)⟩
      rw [upd_ne (ne_of_none upd_same nh), upd_same]
theorem no_tree {k : Nat} {f : Addr} {fd : FuncData} : FnOk P w K mg base CX0 k f fd ["_law_box", "_law_many", "_law_deep_here"] (spTree 0) := by
  have no : ∀ vs H Q E, ¬ spTree 0 vs H Q E := fun vs H Q E ⟨_, _, _, _, _, _, z, _⟩ => absurd z (Nat.not_lt_zero _)
  exact ⟨fun vs H Q E h => absurd h (no vs H Q E), fun A outer s H args us vs Q E _ _ _ _ h => absurd h (no vs H Q E)⟩
theorem ok_tree {f : Addr} {fd : FuncData} (D : DefAt K mg "_law_tree" sTree ["_law_box", "_law_many", "_law_deep_here"] f fd) (T : Free mg) (dr : Callee P w K mg base CX0 1 "_law_draw" ["_law_box", "_law_many"] spDraw)
    (pk : Callee P w K mg base CX0 2 "_law_pick" ["_law_box", "_law_things"] (spPick K)) (n : Nat) : FnOk P w K mg base CX0 (n + 2) f fd ["_law_box", "_law_many", "_law_deep_here"] (spTree n) := by
  obtain ⟨f_draw, fd_draw, G_draw, m_draw, k_draw, b_draw⟩ := dr.ex
  obtain ⟨f_pick, fd_pick, G_pick, m_pick, k_pick, b_pick⟩ := pk.ex
  have m_tree := D.gl
  have k_tree := D.fn.kp
  have b_tree := D.bd
  induction n with
  | zero => exact no_tree
  | succ n G_tree =>
    refine D.fn.ok scTree (fun vs H Q E h => ?_) (fun cdv A outer s H vs Q E hr h => ?_)
    · obtain ⟨b, m, d, rfl, _⟩ := h
      rfl
    · obtain ⟨b, m, d, rfl, hb, hm, hd, q⟩ := h
      refine ⟨_, (pss_cons (ps_set (i := 3) scTree.nd rfl (.inl rfl) (pe_call G_draw (hr.mono (by omega)) (by rfl) m_draw k_draw b_draw .nil pass0 (pa_cons (pv 0) (pa_cons pe_int pa_nil))))
  (pss_cons (ps_if (PW.pt (pw_or (pt_cmpR op_eq (pv 2) pe_int (nomark _)) (pw_or1 (pt_cmpR op_eq (pv 3) pe_int (nomark _)))))
  (pss_one (ps_ret (pe_call G_pick (hr.mono (by omega)) (by rfl) m_pick k_pick b_pick .nil pass0 (pa_cons (pv 0) (pa_cons (pe_lst (pa_cons (pe_tup (pa_cons pe_str pa_nil)) (pa_cons (pe_tup (pa_cons pe_str (pa_cons (pe_call G_draw (hr.mono (by omega)) (by rfl) m_draw k_draw b_draw .nil pass0 (pa_cons (pv 0) (pa_cons pe_int pa_nil))) pa_nil))) (pa_cons (pe_tup (pa_cons pe_str (pa_cons (pe_call G_pick (hr.mono (by omega)) (by rfl) m_pick k_pick b_pick .nil pass0 (pa_cons (pv 0) (pa_cons (pe_lst (pa_cons pe_int (pa_cons pe_int (pa_cons pe_int pa_nil)))) pa_nil))) pa_nil))) pa_nil)))) pa_nil)))))
  pss_nil)
  (pss_cons (ps_set (i := 4) scTree.nd rfl (.inl rfl) (pe_call G_draw (hr.mono (by omega)) (by rfl) m_draw k_draw b_draw .nil pass0 (pa_cons (pv 0) (pa_cons (pv 1) pa_nil))))
  (pss_cons (ps_set (i := 5) scTree.nd rfl (.inl rfl) (pe_call G_tree (hr.mono (by omega)) (by rfl) m_tree k_tree b_tree .nil pass0 (pa_cons (pv 0) (pa_cons (pv 1) (pa_cons (pe_op op_sub (pv 2) pe_int) pa_nil)))))
  (pss_one (ps_ret (pe_tup (pa_cons pe_str (pa_cons (pv 4) (pa_cons (pv 5) (pa_cons (pe_call G_tree (hr.mono (by omega)) (by rfl) m_tree k_tree b_tree .nil pass0 (pa_cons (pv 0) (pa_cons (pv 1) (pa_cons (pe_op op_sub (pv 2) pe_int) pa_nil)))) pa_nil))))))))))), ?_⟩
      refine ⟨_, rfl, b, 6, rfl, hb, by decide, fun H1 z d1 h10 h11 => ?_⟩
      have ed : ∀ (hd0 : ¬ V.int ((d : Nat) : Int) = V.int 0), 1 ≤ d := fun hd0 => by
        rcases Nat.eq_zero_or_pos d with e | e
        · subst e
          exact absurd rfl hd0
        · exact e
      refine ⟨_, rfl, rfl, _, rfl, ite2 (fun _ => iteT ?_) (fun hd0 => ⟨_, rfl, rfl, _, rfl, ite2 (fun _ => ?_) (fun _ => ?_)⟩)⟩
      iterate 2
        · refine ⟨_, rfl, (by show 1 ≤ sizeLine; decide), fun p1 np1 => ?_⟩
          have D1 := d1.new np1 (.tup [.str (S "nobody")])
          refine ⟨_, rfl, b, 5, rfl, D1.box, by decide, fun H2 z2 d2 h20 h21 => ⟨(by show 2 ≤ sizeLine; decide), fun p2 np2 => ?_⟩⟩
          have D2 := (D1.trans d2).new np2 (.tup [.str (S "found"), .int z2])
          refine ⟨_, rfl, (by show 3 ≤ sizeLine; decide), fun l nl => ?_⟩
          have D3 := D2.new nl (.lst [.int 10, .int 100, .int 999])
          refine ⟨b, l, _, rfl, D3.box, D3.box.notFlat upd_same (by rfl), upd_same, by decide, by decide, fun H3 v d3 hv => ⟨(by show 2 ≤ sizeLine; decide), fun p3 np3 => ?_⟩⟩
          have D4 := (D3.trans d3).new np3 (.tup [.str (S "found"), v])
          refine ⟨(by show 3 ≤ sizeLine; decide), fun L nL => ?_⟩
          have D5 := D4.new nL (.lst [.ref p1, .ref p2, .ref p3])
          have nLb : L ≠ b := (ne_of_none (D4.box.choose_spec.choose_spec.choose_spec.1) nL).symm
          refine ⟨b, L, _, rfl, D5.box, nLb, upd_same, (by show 0 < 3; decide), (by show 3 ≤ 1000; decide), fun H4 u d4 hu => ?_⟩
          have t4 : Tups (upd (upd H3 p3 (.tup [.str (S "found"), v])) L (.lst [.ref p1, .ref p2, .ref p3])) H4 := d4.tups D5.box
          have t3 : Tups (upd H3 p3 (.tup [.str (S "found"), v])) H4 := (Same.tups (Same.new nL _)).trans t4
          have t2 : Tups (upd H2 p2 (.tup [.str (S "found"), .int z2])) H4 := ((Same.tups (Same.new nl _)).trans (d3.tups D3.box)).trans ((Same.tups (Same.new np3 _)).trans t3)
          have t1 : Tups (upd H1 p1 (.tup [.str (S "nobody")])) H4 := (d2.tups D1.box).trans ((Same.tups (Same.new np2 _)).trans t2)
          have D6 := D5.trans d4
          have hu : u ∈ ([.ref p1, .ref p2, .ref p3] : List V) := hu
          simp only [List.mem_cons, List.not_mem_nil, or_false] at hu hv
          rcases hu with rfl | rfl | rfl
          · exact q _ _ _ D6 (.nobody (t1 _ _ upd_same)) (Nat.zero_le _) trivial
          · have ez : z2 = ((z2.toNat : Nat) : Int) := by omega
            have x := t2 _ _ upd_same
            rw [ez] at x
            exact q _ _ _ D6 (.found x) (Nat.zero_le _) (by show z2.toNat < 1000; omega)
          · have x := t3 _ _ upd_same
            rcases hv with rfl | rfl | rfl
            · exact q _ _ _ D6 (.found (n := 10) x) (Nat.zero_le _) (by show 10 < 1000; decide)
            · exact q _ _ _ D6 (.found (n := 100) x) (Nat.zero_le _) (by show 100 < 1000; decide)
            · exact q _ _ _ D6 (.found (n := 999) x) (Nat.zero_le _) (by show 999 < 1000; decide)
      · have hd1 := ed (fun e => hd0 (by rw [e]; rfl))
        have e1 : ((d : Nat) : Int) - 1 = ((d - 1 : Nat) : Int) := by omega
        refine ⟨_, rfl, _, rfl, b, m, rfl, d1.box, by omega, fun H2 zm d2 h20 h21 => ?_⟩
        refine ⟨_, rfl, _, rfl, _, rfl, _, _, rfl, rfl, b, m, d - 1, by rw [← e1]; rfl, d2.box, hm, by omega, fun H3 v T1 d3 t1 dp1 g1 => ?_⟩
        refine ⟨_, rfl, _, rfl, _, rfl, _, rfl, _, rfl, _, _, rfl, rfl, b, m, d - 1, by rw [← e1]; rfl, d3.box, hm, by omega, fun H4 v2 T2 d4 t2 dp2 g2 => ⟨(by show 4 ≤ sizeLine; decide), fun p np => ?_⟩⟩
        have ez : zm = ((zm.toNat : Nat) : Int) := by omega
        have s5 := Same.new np (.tup [.str (S "ask"), .int zm, v, v2])
        have t5 : Tups H4 _ := Same.tups s5
        refine q _ _ (.ask zm.toNat T1 T2) ((((d1.trans d2).trans d3).trans d4).same s5) (.ask ?_ ((t1.mono (d4.tups d3.box)).mono t5) (t2.mono t5)) ?_ ⟨by omega, g1, g2⟩
        · rw [← ez]
          exact upd_same
        · show max T1.deep T2.deep + 1 ≤ d
          omega
theorem ok_deep {f : Addr} {fd : FuncData} (D : DefAt K mg "_law_deep" sDeep ["_law_many"] f fd) (T : Free mg) : FnOk P w K mg base CX0 1 f fd ["_law_many"] spDeep := by
  refine D.fn.ok scDeep (fun vs H Q E h => ?_) (fun cdv A outer s H vs Q E hr h => ?_)
  · obtain ⟨n, rfl, _⟩ := h
    rfl
  · obtain ⟨n, rfl, hn, q⟩ := h
    refine ⟨_, (pss_cons (ps_set (i := 1) scDeep.nd rfl (.inl rfl) (pe_tup (pa_cons pe_str pa_nil)))
  (pss_cons (ps_for PassesOwn.never rfl (pi_range1 (by rfl) T.range (pa_cons (pv 0) pa_nil)) (pg_name (i := 2) scDeep.nd rfl (.inl rfl))
  (pss_one (ps_set (i := 1) scDeep.nd rfl (.inl rfl) (pe_tup (pa_cons pe_str (pa_cons pe_int (pa_cons (pv 1) (pa_cons (pe_tup (pa_cons pe_str (pa_cons pe_int pa_nil))) pa_nil))))))))
  (pss_one (ps_ret (pv 1))))), ?_⟩
    refine ⟨(by show 1 ≤ sizeLine; decide), fun p np => ?_⟩
    refine ⟨_, rfl, n, rfl, by omega, by omega, for_range (lo := 0) (n := n) (fun i σ H1 => ∃ (v : V) (v2 : Option V), σ = [some (.int (n : Nat)), some v, v2] ∧ Same H H1 ∧ TreeAt H1 v (chain i))
      ⟨_, none, rfl, Same.new np _, .nobody upd_same⟩ ?_ ?_⟩
    · rintro i σ H1 hi ⟨v, v2, rfl, s1, t1⟩
      refine ⟨_, rfl, (by show 2 ≤ sizeLine; decide), fun p2 np2 => ⟨(by show 4 ≤ sizeLine; decide), fun p3 np3 => ?_⟩⟩
      have s2 : Same H1 (upd (upd H1 p2 (.tup [.str (S "found"), .int 1])) p3 (.tup [.str (S "ask"), .int 0, v, .ref p2])) := (Same.new np2 _).trans (Same.new np3 _)
      refine ⟨_, _, rfl, s1.trans s2, .ask (m := 0) upd_same (t1.mono (Same.tups s2)) (.found (n := 1) ?_)⟩
      rw [upd_ne (ne_of_none upd_same np3), upd_same]
      rfl
    · rintro σ H1 ⟨v, v2, rfl, s1, t1⟩
      exact ⟨_, rfl, q _ v s1 t1⟩
end
end FB

set_option Elab.async false
set_option linter.all false
set_option maxRecDepth 100000
set_option maxHeartbeats 4000000
/-! Comprehensions over a text, over lines. -/
namespace FB
open PySem L2
/-- what a comprehension's reading asks behind its source J -/
abbrev LcAsk (J : It) (g : TG) (tt : TT) (te : TE) (vs : List Nat) (σ : St) (H1 : Hp) (D : Addr) (Qd : Hp → Prop) : Prop :=
  ∃ W : Nat → Nat → Hp → Prop, (∃ m, W 0 m (upd H1 D (.lst []))) ∧ ∀ i m H, W i m H →
    (J.stop i H ∧ Qd H) ∨ (J.go i H ∧ ∃ Nx : Hp → Prop, (∀ H', Nx H' → ∃ m', m' < m ∧ W (i + 1) m' H') ∧
      ∀ x H', J.yld i H x H' → g x (wipe σ vs) H' fun σ2 H2 => wipe σ2 vs = wipe σ vs ∧ tt σ2 H2 fun b H3 =>
        if b = true then te σ2 H3 fun y H4 => ∃ acc, H4 D = some (.lst acc) ∧ acc.length < sizeLine ∧ Nx (upd H4 D (.lst (acc ++ [y]))) else Nx H3)
/-- sign by sign -/
theorem lc_text {x : Str} {g : TG} {tt : TT} {te : TE} {vs : List Nat} {σ : St} {H1 : Hp} {D : Addr} {Qd : Hp → Prop} (Pv : Nat → Hp → Prop) (h0 : Pv 0 (upd H1 D (.lst [])))
    (hs : ∀ i c H, x.cps.toList[i]? = some c → Pv i H → g (.str ⟨#[c]⟩) (wipe σ vs) H fun σ2 H2 => wipe σ2 vs = wipe σ vs ∧ tt σ2 H2 fun b H3 =>
      if b = true then te σ2 H3 fun y H4 => ∃ acc, H4 D = some (.lst acc) ∧ acc.length < sizeLine ∧ Pv (i + 1) (upd H4 D (.lst (acc ++ [y]))) else Pv (i + 1) H3)
    (hd : ∀ H, Pv x.cps.toList.length H → Qd H) : LcAsk (Its x) g tt te vs σ H1 D Qd := by
  have hsz : x.cps.size = x.cps.toList.length := by simp
  refine ⟨fun i m H => m = x.cps.toList.length - i ∧ i ≤ x.cps.toList.length ∧ Pv i H, ⟨_, rfl, Nat.zero_le _, h0⟩, fun i m H ⟨em, hi, hp⟩ => ?_⟩
  by_cases c : i < x.cps.toList.length
  · refine .inr ⟨by show i < x.cps.size; rw [hsz]; exact c, Pv (i + 1), fun H' p => ⟨_, by omega, rfl, c, p⟩, fun v H' ⟨eH, k, hk, ev⟩ => ?_⟩
    subst eH ev
    exact hs i k H' (by rw [Array.getElem?_toList]; exact hk) hp
  · have e : i = x.cps.toList.length := by omega
    subst e
    exact .inl ⟨by show x.cps.size ≤ _; omega, hd H hp⟩
theorem wipe_set {σ : St} {i : Nat} {v : Option V} : wipe ((wipe σ [i]).set i v) [i] = wipe σ [i] := by
  show (((σ.set i none).set i v).set i none) = σ.set i none
  rw [List.set_set, List.set_set]
theorem wipe_get {σ : St} {i : Nat} {v : Option V} (h : i < σ.length) : ((wipe σ [i]).set i v)[i]? = some v := by
  rw [List.getElem?_set_self (by rw [wipe_length]; exact h)]
/-- [f(y) for y in ys], f by the element's reading -/
theorem lc_map {K : PySem.W.Frag} {a D : Addr} {ys : List V} {f : V → V} {te : TE} {σ : St} {H1 : Hp} {i : Nat} {Qd : Hp → Prop} (hi : i < σ.length) (hS : SqL K H1 a ys) (hD : H1 D = none) (hn : ys.length ≤ 1000000)
    (he : ∀ (y : V) (σ2 : St) (H2 : Hp) (Q : VK), y ∈ ys → σ2[i]? = some (some y) → Q (f y) H2 → te σ2 H2 Q)
    (hd : Qd (upd H1 D (.lst (ys.map f)))) : LcAsk (Itl K a) (gName i) tYes te [i] σ H1 D Qd := by
  refine lc_list (K := K) (a := a) (xs := ys) (fun j H => H = upd H1 D (.lst ((ys.take j).map f))) rfl (fun j H _ e => ?_) (fun j x H hx e => ?_) (fun H e => ?_)
  · rw [e]
    exact Same.seq (Same.new hD _) hS
  · subst e
    have hj : j < ys.length := (List.getElem?_eq_some_iff.mp hx).1
    refine ⟨wipe_set, ?_⟩
    unfold tYes
    dsimp only
    rw [if_pos rfl]
    refine he x _ _ _ (List.mem_of_getElem? hx) (wipe_get hi) ⟨_, upd_same, ?_, ?_⟩
    · rw [List.length_map, List.length_take, sizeLine_eq]
      omega
    · rw [upd_upd, List.take_add_one, hx, List.map_append]
      rfl
  · rw [List.take_length] at e
    rw [e]
    exact hd
/-- the same over a tuple -/
theorem lc_mapT {K : PySem.W.Frag} {a D : Addr} {ys : List V} {f : V → V} {te : TE} {σ : St} {H1 : Hp} {i : Nat} {Qd : Hp → Prop} (hi : i < σ.length) (hS : H1 a = some (.tup ys)) (hD : H1 D = none) (hn : ys.length ≤ 1000000)
    (he : ∀ (y : V) (σ2 : St) (H2 : Hp) (Q : VK), y ∈ ys → (∀ b o, H1 b = some o → H2 b = some o) → σ2[i]? = some (some y) → Q (f y) H2 → te σ2 H2 Q)
    (hd : Qd (upd H1 D (.lst (ys.map f)))) : LcAsk (Itt K a) (gName i) tYes te [i] σ H1 D Qd := by
  refine lc_tup (K := K) (a := a) (xs := ys) (fun j H => H = upd H1 D (.lst ((ys.take j).map f))) rfl (fun j H _ e => ?_) (fun j x H hx e => ?_) (fun H e => ?_)
  · rw [e]
    exact SqT.of (Same.new hD _ _ _ hS)
  · subst e
    have hj : j < ys.length := (List.getElem?_eq_some_iff.mp hx).1
    refine ⟨wipe_set, ?_⟩
    unfold tYes
    dsimp only
    rw [if_pos rfl]
    refine he x _ _ _ (List.mem_of_getElem? hx) (Same.new hD _) (wipe_get hi) ⟨_, upd_same, ?_, ?_⟩
    · rw [List.length_map, List.length_take, sizeLine_eq]
      omega
    · rw [upd_upd, List.take_add_one, hx, List.map_append]
      rfl
  · rw [List.take_length] at e
    rw [e]
    exact hd
/-- [line + "\n" for line in lines] -/
theorem lc_nl {K : PySem.W.Frag} {a D : Addr} {ys : List Str} {σ : St} {H1 : Hp} {i : Nat} {Qd : Hp → Prop} (hi : i < σ.length) (hS : SqL K H1 a (ys.map V.str)) (hD : H1 D = none) (hn : ys.length ≤ 1000000) (hl : ∀ y ∈ ys, y.length ≤ 10000000)
    (hd : Qd (upd H1 D (.lst ((ys.map (· ++ nl)).map V.str)))) :
    LcAsk (Itl K a) (gName i) tYes (tOp (fun x y H Q => ∃ i j, x = .str i ∧ y = .str j ∧ i.length + j.length ≤ sizeLine ∧ Q (.str (i ++ j)) H) (tVar i) (tC (.str (S "\n")))) [i] σ H1 D Qd := by
  have e : S "\n" = nl := by decide +kernel
  refine lc_map (f := fun v => match v with | .str y => .str (y ++ nl) | v => v) hi hS hD (by rw [List.length_map]; exact hn) (fun v σ2 H2 Q hv hs q => ?_) ?_
  · obtain ⟨y, hy, rfl⟩ := List.mem_map.mp hv
    refine ⟨_, hs, y, S "\n", rfl, rfl, ?_, by rw [e]; exact q⟩
    have h1 := hl y hy
    rw [e, sizeLine_eq]
    show y.length + 1 ≤ _
    omega
  · rw [List.map_map] at hd ⊢
    exact hd
end FB

set_option Elab.async false
set_option linter.all false
set_option maxRecDepth 100000
set_option maxHeartbeats 4000000
/-! A tree's lines, by the program and by the law; its text. -/
namespace FB
open PySem L2
theorem strN_len {n : Nat} (h : n < 1000) : (strN n).length ≤ 3 := by
  rw [len_list, strN_cps]
  exact TL.numL_len (k := 3) (by decide) h
theorem log_small {n : Nat} (h : n < 1000) : ((n : Nat) : Int).natAbs.log2 < 1920 := by
  have e : ((n : Nat) : Int).natAbs = n := rfl
  rw [e]
  have := Nat.log2_le_self n
  omega
def Short (ns : List Str) : Prop := ∀ w ∈ ns, w.length ≤ 100
theorem make_at {H : Hp} {ms : List V} {ns : List Str} (M : MakesAt H ms ns) {m : Nat} (h : m < ns.length) : ∃ p x, ms[m]? = some (.ref p) ∧ H p = some (.tup [.str (nameAt ns m), x]) := by
  have hl : m < ms.length := by rw [M.length]; exact h
  obtain ⟨n, hn, p, x, e, q⟩ := M.get (List.getElem?_eq_getElem hl)
  refine ⟨p, x, by rw [List.getElem?_eq_getElem hl, e], ?_⟩
  unfold nameAt
  rw [List.getD_eq_getElem?_getD, hn]
  exact q
/-- str of a part -/
def partV : V → V
  | .int i => .str (toString i)
  | v => v
/-- the promise of both: fewer than n calls deep -/
def spLines (n : Nat) : Sp := fun vs H Q _ => ∃ (h : Addr) (v : V) (d : Nat) (ns : List Str) (T : Tree), vs = [.ref h, v, .int (d : Nat)] ∧ HistAt H h ns ∧ TreeAt H v T ∧ T.Good ns.length ∧ Short ns ∧ T.deep < n ∧ T.size ≤ 1000 ∧ d + T.deep ≤ 900 ∧
  ∀ (H' : Hp) (l : Addr), Same H H' → H' l = some (.lst ((linesF ns d T).map V.str)) → Q (.ref l) H'
section
variable {P : Program} {w : World} {K : PySem.W.Frag} {mg : Str → Option Value} {base : Heap}
theorem no_lines {k : Nat} {f : Addr} {fd : FuncData} {ps : List Str} : FnOk P w K mg base CX0 k f fd ps (spLines 0) := by
  have no : ∀ vs H Q E, ¬ spLines 0 vs H Q E := fun vs H Q E ⟨_, _, _, _, _, _, _, _, _, _, z, _⟩ => absurd z (Nat.not_lt_zero _)
  exact ⟨fun vs H Q E h => absurd h (no vs H Q E), fun A outer s H args us vs Q E _ _ _ _ h => absurd h (no vs H Q E)⟩
theorem ok_linesOf {f : Addr} {fd : FuncData} (D : DefAt K mg "lines_of" sLinesOf ["history", "tree", "depth"] f fd) (T : Free mg) (n : Nat) : FnOk P w K mg base CX0 n f fd ["history", "tree", "depth"] (spLines n) := by
  have m_lines_of := D.gl
  have k_lines_of := D.fn.kp
  have b_lines_of := D.bd
  induction n with
  | zero => exact no_lines
  | succ n G_lines_of =>
    refine D.fn.ok scLinesOf (fun vs H Q E h => ?_) (fun cdv A outer s H vs Q E hr h => ?_)
    · obtain ⟨h, v, d, ns, T, rfl, _⟩ := h
      rfl
    · obtain ⟨h, v, d, ns, Tr, rfl, hh, ht, hg, hs, hd, hz, hdd, q⟩ := h
      refine ⟨_, (pss_cons (ps_set (i := 3) scLinesOf.nd rfl (.inl rfl) (pe_op op_mulS pe_str (pv 2)))
  (pss_cons (ps_if (pt_cmpR op_eq (pe_ix ix_tup (pv 1) pe_int (fun _ _ => rfl)) pe_str (nomark _))
  (pss_one (ps_ret (pe_lst (pa_cons (pe_op op_add_str (pe_op op_add_str (pv 3) pe_str) (pe_callTy call_str_int (by rfl) T.str (by decide +kernel) (pa_cons (pe_ix ix_tup (pv 1) pe_int (fun _ _ => rfl)) pa_nil))) pa_nil))))
  pss_nil)
  (pss_cons (ps_if (pt_cmpR op_eq (pe_ix ix_tup (pv 1) pe_int (fun _ _ => rfl)) pe_str (nomark _))
  (pss_one (ps_ret (pe_lst (pa_cons (pe_op op_add_str (pv 3) pe_str) pa_nil))))
  pss_nil)
  (pss_cons (ps_set (i := 4) scLinesOf.nd rfl (.inl rfl) (pe_lst (pa_cons (pe_op op_add_str (pe_op op_add_str (pv 3) pe_str) (pe_ix ix_tup (pe_ix ix_tup (pe_ix ix_tup (pv 0) pe_int (fun _ _ => rfl)) (pe_ix ix_tup (pv 1) pe_int (fun _ _ => rfl)) (fun _ _ => rfl)) pe_int (fun _ _ => rfl))) pa_nil)))
  (pss_one (ps_ret (pe_op op_cat (pe_op op_cat (pv 4) (pe_call G_lines_of (hr.mono (by omega)) (by rfl) m_lines_of k_lines_of b_lines_of .nil pass0 (pa_cons (pv 0) (pa_cons (pe_ix ix_tup (pv 1) pe_int (fun _ _ => rfl)) (pa_cons (pe_op op_add (pv 2) pe_int) pa_nil))))) (pe_call G_lines_of (hr.mono (by omega)) (by rfl) m_lines_of k_lines_of b_lines_of .nil pass0 (pa_cons (pv 0) (pa_cons (pe_ix ix_tup (pv 1) pe_int (fun _ _ => rfl)) (pa_cons (pe_op op_add (pv 2) pe_int) pa_nil))))))))))), ?_⟩
      refine ⟨_, rfl, d, rfl, rfl, by omega, ?_⟩
      have l1 := sp_len d
      cases ht with
      | @nobody p hp =>
        refine ⟨_, rfl, p, _, 0, _, rfl, rfl, SqT.of hp, rfl, rfl, false, bl_f (str_ne (by decide +kernel)), iteF ?_⟩
        refine ⟨_, rfl, p, _, 0, _, rfl, rfl, SqT.of hp, rfl, rfl, true, bl_t rfl, iteT ?_⟩
        refine ⟨_, rfl, _, _, rfl, rfl, ?_, (by show 1 ≤ sizeLine; decide), fun l nl => q _ l (Same.new nl _) upd_same⟩
        rw [l1, sizeLine_eq, show (Str.ofString "nobody").length = 6 from by decide +kernel]
        omega
      | @found p k hp =>
        have l2 := strN_len hg
        refine ⟨_, rfl, p, _, 0, _, rfl, rfl, SqT.of hp, rfl, rfl, true, bl_t rfl, iteT ?_⟩
        refine ⟨_, rfl, _, _, rfl, rfl, ?_, _, rfl, p, _, 1, _, rfl, rfl, SqT.of hp, rfl, k, rfl, log_small hg, _, _, rfl, rfl, ?_, (by show 1 ≤ sizeLine; decide), fun l nl => q _ l (Same.new nl _) upd_same⟩
        · rw [l1, sizeLine_eq, show (Str.ofString "found ").length = 6 from by decide +kernel]
          omega
        · rw [len_app, l1, sizeLine_eq, show (Str.ofString "found ").length = 6 from by decide +kernel]
          have : (Str.ofString (toString ((k : Nat) : Int))).length ≤ 3 := l2
          omega
      | @ask p m v1 v2 t1 t2 hp h1 h2 =>
        refine ⟨_, rfl, p, _, 0, _, rfl, rfl, SqT.of hp, rfl, rfl, false, bl_f (str_ne (by decide +kernel)), iteF ?_⟩
        refine ⟨_, rfl, p, _, 0, _, rfl, rfl, SqT.of hp, rfl, rfl, false, bl_f (str_ne (by decide +kernel)), iteF ?_⟩
        obtain ⟨qq, ms, e1, e2, M⟩ := id hh
        obtain ⟨p2, x2, hm, hp2⟩ := make_at M hg.1
        have l3 := hs _ (nameAt_mem (ns := ns) hg.1)
        have hdT : max t1.deep t2.deep + 1 < n + 1 := hd
        have hdd' : d + (max t1.deep t2.deep + 1) ≤ 900 := hdd
        have hzT : t1.size + t2.size + 1 ≤ 1000 := hz
        refine ⟨_, rfl, _, _, rfl, rfl, ?_, _, rfl, h, _, 1, _, rfl, rfl, SqT.of e1, rfl, _, rfl, p, _, 1, _, rfl, rfl, SqT.of hp, rfl, qq, _, m, _, rfl, rfl, SqT.of e2, atI_nat hm, p2, _, 0, _, rfl, rfl, SqT.of hp2, rfl, _, _, rfl, rfl, ?_,
          (by show 1 ≤ sizeLine; decide), fun l nl => ?_⟩
        · rw [l1, sizeLine_eq, show (Str.ofString "ask ").length = 4 from by decide +kernel]
          omega
        · rw [len_app, l1, sizeLine_eq, show (Str.ofString "ask ").length = 4 from by decide +kernel]
          omega
        have s1 := Same.new nl (.lst [.str (sp d ++ Str.ofString "ask " ++ nameAt ns m)])
        refine ⟨_, rfl, _, rfl, _, rfl, p, _, 2, _, rfl, rfl, SqT.of (s1 _ _ hp), rfl, _, rfl, _, _, rfl, rfl, h, v1, d + 1, ns, t1, rfl, hh.mono (Same.tups s1), h1.mono (Same.tups s1), hg.2.1, hs, by omega, by omega, by omega, fun H2 l2 s2 hl2 => ?_⟩
        have hl1 := s2 _ _ (show _ from (upd_same (H := H) (a := l) (o := .lst [.str (sp d ++ Str.ofString "ask " ++ nameAt ns m)])))
        refine ⟨l, l2, _, _, rfl, rfl, hl1, hl2, ?_, fun l3 nl3 => ?_⟩
        · rw [List.length_map, linesF_len, sizeLine_eq]
          show 1 + _ ≤ _
          omega
        have s3 := Same.new nl3 (.lst ([.str (sp d ++ Str.ofString "ask " ++ nameAt ns m)] ++ (linesF ns (d + 1) t1).map V.str))
        have s13 := s1.trans (s2.trans s3)
        refine ⟨_, rfl, _, rfl, p, _, 3, _, rfl, rfl, SqT.of (s13 _ _ hp), rfl, _, rfl, _, _, rfl, rfl, h, v2, d + 1, ns, t2, rfl, hh.mono (Same.tups s13), h2.mono (Same.tups s13), hg.2.2, hs, by omega, by omega, by omega, fun H4 l4 s4 hl4 => ?_⟩
        have hl3 := s4 _ _ (upd_same (H := H2) (a := l3) (o := .lst ([.str (sp d ++ Str.ofString "ask " ++ nameAt ns m)] ++ (linesF ns (d + 1) t1).map V.str)))
        refine ⟨l3, l4, _, _, rfl, rfl, hl3, hl4, ?_, fun l5 nl5 => ?_⟩
        · rw [List.length_append, List.length_map, List.length_map, linesF_len, linesF_len, sizeLine_eq]
          show 1 + _ + _ ≤ _
          omega
        refine q _ l5 (s13.trans (s4.trans (Same.new nl5 _))) ?_
        rw [upd_same]
        show some (HO.lst _) = some (HO.lst (V.str (sp d ++ S "ask " ++ nameAt ns m) :: (linesF ns (d + 1) t1 ++ linesF ns (d + 1) t2).map V.str))
        rw [List.map_append]
        rfl
theorem ok_lines {f : Addr} {fd : FuncData} (D : DefAt K mg "_law_lines" sLines ["_law_history_here", "_law_tree_here", "_law_depth"] f fd) (T : Free mg) (n : Nat) : FnOk P w K mg base CX0 n f fd ["_law_history_here", "_law_tree_here", "_law_depth"] (spLines n) := by
  have m_lines := D.gl
  have k_lines := D.fn.kp
  have b_lines := D.bd
  induction n with
  | zero => exact no_lines
  | succ n G_lines =>
    refine D.fn.ok scLines (fun vs H Q E h => ?_) (fun cdv A outer s H vs Q E hr h => ?_)
    · obtain ⟨h, v, d, ns, T, rfl, _⟩ := h
      rfl
    · obtain ⟨h, v, d, ns, Tr, rfl, hh, ht, hg, hs, hd, hz, hdd, q⟩ := h
      refine ⟨_, (pss_cons (ps_if (pt_cmpR op_ne (pe_ix ix_tup (pv 1) pe_int (fun _ _ => rfl)) pe_str (nomark _))
  (pss_one (ps_ret (pe_lst (pa_cons (pe_op op_add_str (pe_op op_mulS pe_str (pv 2)) (pe_join pe_str (pe_lc (own := [("_law_part", 4)]) (g := gName 4) (by rfl) scLines.nd (pi_tup (pv 1)) (blkOk_by (own := [("_law_part", 4)]) (N := nLines) (sc := defScope sLines) (by decide +kernel)) (fun _ _ _ _ _ => pg_name (i := 4) scLines.nd rfl (Or.inl rfl)) (fun _ _ _ _ _ => pts_nil) (fun _ _ _ _ _ => (pe_callTy call_str_any (by rfl) T.str (by decide +kernel) (pa_cons (pv 4) pa_nil)))))) pa_nil))))
  pss_nil)
  (pss_cons (ps_set (i := 3) scLines.nd rfl (.inl rfl) (pe_op op_add_str (pe_op op_add_str (pe_op op_mulS pe_str (pv 2)) pe_str) (pe_ix ix_tup (pe_ix ix_tup (pe_ix ix_tup (pv 0) pe_int (fun _ _ => rfl)) (pe_ix ix_tup (pv 1) pe_int (fun _ _ => rfl)) (fun _ _ => rfl)) pe_int (fun _ _ => rfl))))
  (pss_one (ps_ret (pe_op op_cat (pe_op op_cat (pe_lst (pa_cons (pv 3) pa_nil)) (pe_call G_lines (hr.mono (by omega)) (by rfl) m_lines k_lines b_lines .nil pass0 (pa_cons (pv 0) (pa_cons (pe_ix ix_tup (pv 1) pe_int (fun _ _ => rfl)) (pa_cons (pe_op op_add (pv 2) pe_int) pa_nil))))) (pe_call G_lines (hr.mono (by omega)) (by rfl) m_lines k_lines b_lines .nil pass0 (pa_cons (pv 0) (pa_cons (pe_ix ix_tup (pv 1) pe_int (fun _ _ => rfl)) (pa_cons (pe_op op_add (pv 2) pe_int) pa_nil))))))))), ?_⟩
      have l1 := sp_len d
      cases ht with
      | @nobody p hp =>
        refine ⟨_, rfl, p, _, 0, _, rfl, rfl, SqT.of hp, rfl, rfl, true, by decide +kernel, iteT ?_⟩
        refine ⟨_, rfl, d, rfl, rfl, by omega, ?_⟩
        refine ⟨⟨_, rfl⟩, _, rfl, p, rfl, ⟨_, SqT.of hp⟩, fun C nC => lc_mapT (f := partV) (by show 4 < 5; decide) hp nC (by show 1 ≤ 1000000; decide) (fun y σ2 H2 Q hy _ hs2 q2 => ?_) ?_⟩
        · have e : y = .str (S "nobody") := List.mem_singleton.mp hy
          subst e
          exact ⟨_, hs2, .inr ⟨_, rfl, q2⟩⟩
        · refine ⟨_, C, [S "nobody"], rfl, rfl, .inl (SqL.of upd_same), by decide +kernel, _, _, rfl, rfl, ?_, (by show 1 ≤ sizeLine; decide), fun l nl => ?_⟩
          · rw [show Txt.join (Str.ofString " ") [S "nobody"] = S "nobody" from by decide +kernel, l1, sizeLine_eq, show (S "nobody").length = 6 from by decide +kernel]
            omega
          · refine q _ l ((Same.new nC _).trans (Same.new nl _)) ?_
            rw [upd_same, show Txt.join (Str.ofString " ") [S "nobody"] = S "nobody" from by decide +kernel]
            rfl
      | @found p k hp =>
        have l2 := strN_len hg
        have ej : Txt.join (Str.ofString " ") [S "found", strN k] = S "found " ++ strN k := by
          show Builtin.Str.glued _ _ = _
          rw [StrLaws.glued_eq_join]
          show S "found" ++ S " " ++ strN k = _
          rw [show S "found " = S "found" ++ S " " from by decide +kernel]
        refine ⟨_, rfl, p, _, 0, _, rfl, rfl, SqT.of hp, rfl, rfl, true, by decide +kernel, iteT ?_⟩
        refine ⟨_, rfl, d, rfl, rfl, by omega, ?_⟩
        refine ⟨⟨_, rfl⟩, _, rfl, p, rfl, ⟨_, SqT.of hp⟩, fun C nC => lc_mapT (f := partV) (by show 4 < 5; decide) hp nC (by show 2 ≤ 1000000; decide) (fun y σ2 H2 Q hy _ hs2 q2 => ?_) ?_⟩
        · simp only [List.mem_cons, List.not_mem_nil, or_false] at hy
          rcases hy with rfl | rfl
          · exact ⟨_, hs2, .inr ⟨_, rfl, q2⟩⟩
          · exact ⟨_, hs2, .inl ⟨_, rfl, log_small hg, q2⟩⟩
        · refine ⟨_, C, [S "found", strN k], rfl, rfl, .inl (SqL.of upd_same), ?_, _, _, rfl, rfl, ?_, (by show 1 ≤ sizeLine; decide), fun l nl => ?_⟩
          · show (S "found").length + ((strN k).length + 0) + 2 * (S " ").length ≤ _
            rw [show (S "found").length = 5 from by decide +kernel, show (S " ").length = 1 from by decide +kernel]
            omega
          · rw [ej, len_app, l1, sizeLine_eq, show (S "found ").length = 6 from by decide +kernel]
            omega
          · refine q _ l ((Same.new nC _).trans (Same.new nl _)) ?_
            rw [upd_same, ej]
            show some (HO.lst [V.str (sp d ++ (S "found " ++ strN k))]) = some (HO.lst [V.str (sp d ++ S "found " ++ strN k)])
            rw [app_assoc]
      | @ask p m v1 v2 t1 t2 hp h1 h2 =>
        refine ⟨_, rfl, p, _, 0, _, rfl, rfl, SqT.of hp, rfl, rfl, false, by decide +kernel, iteF ?_⟩
        obtain ⟨qq, ms, e1, e2, M⟩ := id hh
        obtain ⟨p2, x2, hm, hp2⟩ := make_at M hg.1
        have l3 := hs _ (nameAt_mem (ns := ns) hg.1)
        have hdT : max t1.deep t2.deep + 1 < n + 1 := hd
        have hdd' : d + (max t1.deep t2.deep + 1) ≤ 900 := hdd
        have hzT : t1.size + t2.size + 1 ≤ 1000 := hz
        refine ⟨_, rfl, d, rfl, rfl, by omega, _, _, rfl, rfl, ?_, _, rfl, h, _, 1, _, rfl, rfl, SqT.of e1, rfl, _, rfl, p, _, 1, _, rfl, rfl, SqT.of hp, rfl, qq, _, m, _, rfl, rfl, SqT.of e2, atI_nat hm, p2, _, 0, _, rfl, rfl, SqT.of hp2, rfl, _, _, rfl, rfl, ?_, ?_⟩
        · rw [l1, sizeLine_eq, show (Str.ofString "ask ").length = 4 from by decide +kernel]
          omega
        · rw [len_app, l1, sizeLine_eq, show (Str.ofString "ask ").length = 4 from by decide +kernel]
          omega
        refine ⟨_, rfl, (by show 1 ≤ sizeLine; decide), fun l nl => ?_⟩
        have s1 := Same.new nl (.lst [.str (sp d ++ Str.ofString "ask " ++ nameAt ns m)])
        refine ⟨_, rfl, _, rfl, p, _, 2, _, rfl, rfl, SqT.of (s1 _ _ hp), rfl, _, rfl, _, _, rfl, rfl, h, v1, d + 1, ns, t1, rfl, hh.mono (Same.tups s1), h1.mono (Same.tups s1), hg.2.1, hs, by omega, by omega, by omega, fun H2 l2 s2 hl2 => ?_⟩
        have hl1 := s2 _ _ (upd_same (H := H) (a := l) (o := .lst [.str (sp d ++ Str.ofString "ask " ++ nameAt ns m)]))
        refine ⟨l, l2, _, _, rfl, rfl, hl1, hl2, ?_, fun l3 nl3 => ?_⟩
        · rw [List.length_map, linesF_len, sizeLine_eq]
          show 1 + _ ≤ _
          omega
        have s3 := Same.new nl3 (.lst ([.str (sp d ++ Str.ofString "ask " ++ nameAt ns m)] ++ (linesF ns (d + 1) t1).map V.str))
        have s13 := s1.trans (s2.trans s3)
        refine ⟨_, rfl, _, rfl, p, _, 3, _, rfl, rfl, SqT.of (s13 _ _ hp), rfl, _, rfl, _, _, rfl, rfl, h, v2, d + 1, ns, t2, rfl, hh.mono (Same.tups s13), h2.mono (Same.tups s13), hg.2.2, hs, by omega, by omega, by omega, fun H4 l4 s4 hl4 => ?_⟩
        have hl3 := s4 _ _ (upd_same (H := H2) (a := l3) (o := .lst ([.str (sp d ++ Str.ofString "ask " ++ nameAt ns m)] ++ (linesF ns (d + 1) t1).map V.str)))
        refine ⟨l3, l4, _, _, rfl, rfl, hl3, hl4, ?_, fun l5 nl5 => ?_⟩
        · rw [List.length_append, List.length_map, List.length_map, linesF_len, linesF_len, sizeLine_eq]
          show 1 + _ + _ ≤ _
          omega
        refine q _ l5 (s13.trans (s4.trans (Same.new nl5 _))) ?_
        rw [upd_same]
        show some (HO.lst _) = some (HO.lst (V.str (sp d ++ S "ask " ++ nameAt ns m) :: (linesF ns (d + 1) t1 ++ linesF ns (d + 1) t2).map V.str))
        rw [List.map_append]
        rfl
end
end FB

set_option Elab.async false
set_option linter.all false
set_option maxRecDepth 100000
set_option maxHeartbeats 4000000
/-! What a word is worth as a number, by the program and by the law; the text of a tree. -/
namespace FB
open PySem L2
def numI (w : Str) : Int := if isNum w = true then ((numOf w : Nat) : Int) else -1
theorem dig_mem (c : Nat) : decide (c ∈ (S "0123456789").cps.toList) = isDig c := by
  rw [show (S "0123456789").cps.toList = [48, 49, 50, 51, 52, 53, 54, 55, 56, 57] from by decide +kernel]
  by_cases h : isDig c = true
  · rw [h]
    have := isDig_iff.mp h
    refine decide_eq_true ?_
    simp
    omega
  · rw [Bool.eq_false_iff.mpr h]
    refine decide_eq_false fun q => h (isDig_iff.mpr ?_)
    simp at q
    omega
/-- the signs of a word that are no digits -/
def oddSigns (l : List Nat) : List V := (l.filter fun c => !isDig c).map fun c => V.str ⟨#[c]⟩
theorem odd_snoc (l : List Nat) (c : Nat) : oddSigns (l ++ [c]) = if (!isDig c) = true then oddSigns l ++ [V.str ⟨#[c]⟩] else oddSigns l := by
  unfold oddSigns
  rw [List.filter_append, List.map_append]
  by_cases h : (!isDig c) = true
  · rw [if_pos h]
    have e : [c].filter (fun c => !isDig c) = [c] := by simp only [List.filter, h]
    rw [e]
    rfl
  · rw [if_neg h]
    have h' : (!isDig c) = false := Bool.eq_false_iff.mpr h
    have e : [c].filter (fun c => !isDig c) = [] := by simp only [List.filter, h']
    rw [e]
    simp
theorem odd_len (l : List Nat) : (oddSigns l).length ≤ l.length := by
  unfold oddSigns
  rw [List.length_map]
  exact List.length_filter_le _ _
theorem odd_none {l : List Nat} : (oddSigns l).length = 0 ↔ l.all isDig = true := by
  unfold oddSigns
  rw [List.length_map]
  constructor
  · intro h
    have e := List.eq_nil_of_length_eq_zero h
    refine List.all_eq_true.mpr fun c hc => ?_
    have := List.filter_eq_nil_iff.mp e c hc
    simpa using this
  · intro h
    have e : l.filter (fun c => !isDig c) = [] := List.filter_eq_nil_iff.mpr fun c hc => by
      have := List.all_eq_true.mp h c hc
      simp [this]
    rw [e]
    rfl
theorem not_num {w : Str} (h : ¬ (1 ≤ w.length ∧ w.length ≤ 3 ∧ w.cps.toList.all isDig = true)) : isNum w = false := by
  unfold isNum
  by_cases h1 : 1 ≤ w.length
  · by_cases h2 : w.length ≤ 3
    · have h3 : w.cps.toList.all isDig = false := Bool.eq_false_iff.mpr fun q => h ⟨h1, h2, q⟩
      rw [h3]
      simp
    · rw [decide_eq_false h2]
      simp
  · rw [decide_eq_false h1]
    simp
theorem is_num {w : Str} (h1 : 1 ≤ w.length) (h2 : w.length ≤ 3) (h3 : w.cps.toList.all isDig = true) : isNum w = (decide (w = S "0") || !decide (w.cps.toList.head? = some 48)) := by
  unfold isNum
  rw [decide_eq_true h1, decide_eq_true h2, h3]
  simp
def spNum : Sp := fun vs H Q _ => ∃ w : Str, vs = [.str w] ∧ w.length ≤ 1000000 ∧ ∀ H', Same H H' → Q (.int (numI w)) H'
def spIsNum : Sp := fun vs H Q _ => ∃ w : Str, vs = [.str w] ∧ w.length ≤ 1000000 ∧ ∀ H', Same H H' → Q (.bl (isNum w)) H'
/-- [sign for sign in word if sign not in digits] -/
theorem lc_odd {D : Addr} {w : Str} {σ : St} {H1 : Hp} {i : Nat} {Qd : Hp → Prop} (hi : i < σ.length) (hw : w.length ≤ 1000000)
    (hd : Qd (upd H1 D (.lst (oddSigns w.cps.toList)))) :
    LcAsk (Its w) (gName i) (tTest (tOp (fun x y H Q => ∃ (c : Nat) (z : Str), x = .str ⟨#[c]⟩ ∧ y = .str z ∧ Q (.bl (!decide (c ∈ z.cps.toList))) H) (tVar i) (tC (.str (S "0123456789"))))) (tVar i) [i] σ H1 D Qd := by
  refine lc_text (fun j H => H = upd H1 D (.lst (oddSigns (w.cps.toList.take j)))) rfl (fun j c H hc e => ?_) (fun H e => ?_)
  · subst e
    have hj : j < w.cps.toList.length := (List.getElem?_eq_some_iff.mp hc).1
    have et : w.cps.toList.take (j + 1) = w.cps.toList.take j ++ [c] := by rw [List.take_add_one, hc]; rfl
    refine ⟨wipe_set, _, wipe_get hi, c, _, rfl, rfl, _, rfl, ?_⟩
    rw [dig_mem, et, odd_snoc]
    refine ite2 (fun h => ?_) (fun h => ?_)
    · rw [if_pos h]
      refine ⟨_, wipe_get hi, _, upd_same, ?_, upd_upd⟩
      have := odd_len (w.cps.toList.take j)
      rw [List.length_take] at this
      rw [sizeLine_eq]
      rw [len_list] at hw
      omega
    · rw [if_neg h]
  · rw [List.take_length] at e
    rw [e]
    exact hd
section
variable {P : Program} {w : World} {K : PySem.W.Frag} {mg : Str → Option Value} {base : Heap}
theorem ok_num {f : Addr} {fd : FuncData} (D : DefAt K mg "number_in" sNumIn ["word"] f fd) (T : Free mg) : FnOk P w K mg base CX0 1 f fd ["word"] spNum := by
  refine D.fn.ok scNumIn (fun vs H Q E h => ?_) (fun cdv A outer s H vs Q E hr h => ?_)
  · obtain ⟨x, rfl, _⟩ := h
    rfl
  · obtain ⟨x, rfl, hx, q⟩ := h
    refine ⟨_, (pss_cons (ps_if (PW.pt (pw_or (pt_not (pt_chain op_le op_le pe_int (pe_callB call_len_str (by rfl) T.len PySem.boot_len (pa_cons (pv 0) pa_nil)) pe_int)) (pw_or1 (pt_cmpR op_gt (pe_callB call_len_seq (by rfl) T.len PySem.boot_len (pa_cons (pe_lc (own := [("sign", 1)]) (g := gName 1) (by rfl) scNumIn.nd (pi_str (pv 0)) (blkOk_by (own := [("sign", 1)]) (N := nNumIn) (sc := defScope sNumIn) (by decide +kernel)) (fun _ _ _ _ _ => pg_name (i := 1) scNumIn.nd rfl (Or.inl rfl)) (fun _ _ _ _ _ => pts_one (pt_cmpR op_notIn_sign (pv 1) pe_str (by rfl))) (fun _ _ _ _ _ => (pv 1))) pa_nil)) pe_int (nomark _)))))
  (pss_one (ps_ret (pe_un un_neg pe_int)))
  pss_nil)
  (pss_cons (ps_if (PW.pt (pw_and (pt_cmpR op_eq (pe_ix ix_str (pv 0) pe_int (fun _ _ => rfl)) pe_str (nomark _)) (pw_and1 (pt_cmpR op_ne (pv 0) pe_str (nomark _)))))
  (pss_one (ps_ret (pe_un un_neg pe_int)))
  pss_nil)
  (pss_one (ps_ret (pe_callTy call_int_str (by rfl) T.int (by decide +kernel) (pa_cons (pv 0) pa_nil)))))), ?_⟩
    have hline : x.length ≤ sizeLine := by rw [sizeLine_eq]; omega
    refine ⟨_, rfl, x, rfl, hline, 1, ((x.length : Nat) : Int), rfl, rfl, ?_⟩
    have bad : ∀ {H1 : Hp}, Same H H1 → ¬ (1 ≤ x.length ∧ x.length ≤ 3 ∧ x.cps.toList.all isDig = true) → Q (.int (-1)) H1 := fun {H1} s1 h => by
      have e : numI x = -1 := by unfold numI; rw [not_num h]; rfl
      have := q H1 s1
      rw [e] at this
      exact this
    by_cases h1 : 1 ≤ x.length
    · refine ⟨true, bl_t (by omega), iteT ⟨_, _, rfl, rfl, ?_⟩⟩
      by_cases h2 : x.length ≤ 3
      · refine ⟨true, bl_t (by omega), iteF ?_⟩
        refine ⟨_, rfl, x, rfl, fun C nC => lc_odd (by show 1 < 2; decide) hx ?_⟩
        have s1 := Same.new nC (.lst (oddSigns x.cps.toList))
        refine ⟨C, _, rfl, .inl (SqL.of upd_same), _, _, rfl, rfl, ?_⟩
        by_cases h3 : x.cps.toList.all isDig = true
        · have h0 := odd_none.mpr h3
          refine ⟨false, bl_f (by rw [h0]; decide), iteF ?_⟩
          -- a word of one to three digits
          obtain ⟨c, r, er⟩ : ∃ c r, x.cps.toList = c :: r := by
            cases e : x.cps.toList with
            | nil => rw [len_list, e] at h1; exact absurd h1 (by decide)
            | cons c r => exact ⟨c, r, rfl⟩
          have en := is_num h1 h2 h3
          have ad : NumText.AllDigits x.cps.toList := fun c hc => isDig_iff.mp (List.all_eq_true.mp h3 c hc)
          have fin : ∀ {H1 : Hp}, Same H H1 → isNum x = true → Q (.int ((numOf x : Nat) : Int)) H1 := fun {H1} s1 h => by
            have e : numI x = ((numOf x : Nat) : Int) := by unfold numI; rw [h]; rfl
            have := q H1 s1
            rw [e] at this
            exact this
          have bad2 : ∀ {H1 : Hp}, Same H H1 → isNum x = false → Q (.int (-1)) H1 := fun {H1} s1 h => by
            have e : numI x = -1 := by unfold numI; rw [h]; rfl
            have := q H1 s1
            rw [e] at this
            exact this
          have last : ∀ {H1 : Hp}, Same H H1 → isNum x = true → ∃ (a : Str) (n : Int), ([.str x] : List V) = [.str a] ∧ intText? a = some n ∧ a.length ≤ 640 ∧ Q (.int n) H1 := fun {H1} s1 h =>
            ⟨x, _, rfl, intText_digits ad (by rw [er]; simp) (by omega), by omega, fin s1 h⟩
          refine ⟨_, rfl, x, 0, c, rfl, rfl, hline, (by rw [er]; exact atI_nat (j := 0) rfl), rfl, ?_⟩
          by_cases hc : c = 48
          · refine ⟨true, bl_t (by rw [hc]; decide +kernel), iteT ⟨_, rfl, rfl, ?_⟩⟩
            by_cases hz : x = S "0"
            · refine ⟨false, congrArg V.bl (by rw [decide_eq_true (congrArg V.str hz)]; rfl), iteF ⟨_, rfl, ?_⟩⟩
              exact last s1 (by rw [en, decide_eq_true hz]; rfl)
            · refine ⟨true, congrArg V.bl (by rw [decide_eq_false (str_ne hz)]; rfl), iteT ⟨1, rfl, ?_⟩⟩
              exact bad2 s1 (by rw [en, decide_eq_false hz, er, hc]; rfl)
          · have hcs : ¬ (⟨#[c]⟩ : Str) = S "0" := fun e => by
              have e2 := congrArg (fun z : Str => z.cps.toList) e
              rw [show (S "0").cps.toList = [48] from by decide +kernel] at e2
              exact hc (List.cons.inj e2).1
            refine ⟨false, bl_f (str_ne hcs), iteF (iteF ⟨_, rfl, ?_⟩)⟩
            refine last s1 ?_
            rw [en, er]
            have : ¬ (c :: r).head? = some 48 := fun e => hc (Option.some.inj e)
            rw [decide_eq_false this]
            simp
        · have h0 : (oddSigns x.cps.toList).length ≠ 0 := fun e => h3 (odd_none.mp e)
          refine ⟨true, bl_t (by omega), iteT ⟨1, rfl, bad s1 fun z => h3 z.2.2⟩⟩
      · exact ⟨false, bl_f (by omega), iteT (iteT ⟨1, rfl, bad (Same.refl H) fun z => h2 z.2.1⟩)⟩
    · exact ⟨false, bl_f (by omega), iteF ⟨false, rfl, iteT (iteT ⟨1, rfl, bad (Same.refl H) fun z => h1 z.1⟩)⟩⟩
theorem ok_isNum {f : Addr} {fd : FuncData} (D : DefAt K mg "_law_is_number" sIsNum ["_law_word"] f fd) (T : Free mg) : FnOk P w K mg base CX0 1 f fd ["_law_word"] spIsNum := by
  refine D.fn.ok scIsNum (fun vs H Q E h => ?_) (fun cdv A outer s H vs Q E hr h => ?_)
  · obtain ⟨x, rfl, _⟩ := h
    rfl
  · obtain ⟨x, rfl, hx, q⟩ := h
    refine ⟨_, (pss_cons (ps_if (PW.pt (pw_or (pt_not (pt_chain op_lt op_lt pe_int (pe_callB call_len_str (by rfl) T.len PySem.boot_len (pa_cons (pv 0) pa_nil)) pe_int)) (pw_or1 (pt_cmpR op_gt (pe_callB call_len_seq (by rfl) T.len PySem.boot_len (pa_cons (pe_lc (own := [("_law_sign", 1)]) (g := gName 1) (by rfl) scIsNum.nd (pi_str (pv 0)) (blkOk_by (own := [("_law_sign", 1)]) (N := nIsNum) (sc := defScope sIsNum) (by decide +kernel)) (fun _ _ _ _ _ => pg_name (i := 1) scIsNum.nd rfl (Or.inl rfl)) (fun _ _ _ _ _ => pts_one (pt_cmpR op_notIn_sign (pv 1) pe_str (by rfl))) (fun _ _ _ _ _ => (pv 1))) pa_nil)) pe_int (nomark _)))))
  (pss_one (ps_ret pe_bl))
  pss_nil)
  (pss_one (ps_ret (pe_or (pe_cmpR op_eq (pv 0) pe_str (nomark _)) (pe_one (pe_cmpR op_ne (pe_ix ix_str (pv 0) pe_int (fun _ _ => rfl)) pe_str (nomark _))))))), ?_⟩
    have hline : x.length ≤ sizeLine := by rw [sizeLine_eq]; omega
    refine ⟨_, rfl, x, rfl, hline, 0, ((x.length : Nat) : Int), rfl, rfl, ?_⟩
    have bad : ∀ {H1 : Hp}, Same H H1 → ¬ (1 ≤ x.length ∧ x.length ≤ 3 ∧ x.cps.toList.all isDig = true) → Q (.bl false) H1 := fun {H1} s1 h => by
      have := q H1 s1
      rw [not_num h] at this
      exact this
    by_cases h1 : 1 ≤ x.length
    · refine ⟨true, bl_t (by omega), iteT ⟨_, _, rfl, rfl, ?_⟩⟩
      by_cases h2 : x.length ≤ 3
      · refine ⟨true, bl_t (by omega), iteF ?_⟩
        refine ⟨_, rfl, x, rfl, fun C nC => lc_odd (by show 1 < 2; decide) hx ?_⟩
        have s1 := Same.new nC (.lst (oddSigns x.cps.toList))
        refine ⟨C, _, rfl, .inl (SqL.of upd_same), _, _, rfl, rfl, ?_⟩
        by_cases h3 : x.cps.toList.all isDig = true
        · have h0 := odd_none.mpr h3
          refine ⟨false, bl_f (by rw [h0]; decide), iteF ?_⟩
          obtain ⟨c, r, er⟩ : ∃ c r, x.cps.toList = c :: r := by
            cases e : x.cps.toList with
            | nil => rw [len_list, e] at h1; exact absurd h1 (by decide)
            | cons c r => exact ⟨c, r, rfl⟩
          have en := is_num h1 h2 h3
          have fin : ∀ b : Bool, isNum x = b → Q (.bl b) (upd H C (.lst (oddSigns x.cps.toList))) := fun b e => by
            have := q _ s1
            rw [e] at this
            exact this
          refine ⟨_, rfl, rfl, ?_⟩
          by_cases hz : x = S "0"
          · refine ⟨true, bl_t (congrArg V.str hz), iteT ?_⟩
            exact fin true (by rw [en, decide_eq_true hz]; rfl)
          · refine ⟨false, bl_f (str_ne hz), iteF ?_⟩
            refine ⟨_, rfl, x, 0, c, rfl, rfl, hline, (by rw [er]; exact atI_nat (j := 0) rfl), rfl, fin _ ?_⟩
            rw [en, decide_eq_false hz, er, Bool.false_or]
            refine congrArg Bool.not (decide_eq_decide.mpr ?_)
            constructor
            · intro e
              rw [show c = 48 from Option.some.inj e]
              decide +kernel
            · intro e
              have e2 := congrArg (fun z : Str => z.cps.toList) (V.str.inj e)
              rw [show (Str.ofString "0").cps.toList = [48] from by decide +kernel] at e2
              rw [show c = 48 from (List.cons.inj e2).1]
              rfl
        · have h0 : (oddSigns x.cps.toList).length ≠ 0 := fun e => h3 (odd_none.mp e)
          refine ⟨true, bl_t (by omega), iteT (bad s1 fun z => h3 z.2.2)⟩
      · exact ⟨false, bl_f (by omega), iteT (iteT (bad (Same.refl H) fun z => h2 z.2.1))⟩
    · exact ⟨false, bl_f (by omega), iteF ⟨false, rfl, iteT (iteT (bad (Same.refl H) fun z => h1 z.1))⟩⟩
/-- the whole text of a tree -/
def textOf (ns : List Str) (T : Tree) : Str := gluedL (linesF ns 0 T)
def LinesSmall (ls : List Str) : Prop := ls.length ≤ 1000 ∧ ∀ y ∈ ls, y.length ≤ 3000
theorem sum_small : ∀ (ls : List Str), (∀ y ∈ ls, y.length ≤ 3000) → ((ls.map (· ++ nl)).map (·.length)).sum ≤ 3001 * ls.length
  | [], _ => Nat.le_refl _
  | x :: r, h => by
    have ih := sum_small r fun y hy => h y (List.mem_cons_of_mem _ hy)
    have h1 := h x List.mem_cons_self
    rw [List.map_cons, List.map_cons, List.sum_cons, List.length_cons, len_app]
    have : nl.length = 1 := rfl
    omega
theorem linesF_small {ns : List Str} (hs : Short ns) : ∀ (T : Tree) (d : Nat), T.Good ns.length → d + T.deep ≤ 900 → ∀ y ∈ linesF ns d T, y.length ≤ 3000
  | .nobody, d, _, hd, y, hy => by
    have hd' : d + 0 ≤ 900 := hd
    rw [show y = sp d ++ S "nobody" from List.mem_singleton.mp hy, len_app, sp_len, show (S "nobody").length = 6 from by decide +kernel]
    omega
  | .found n, d, g, hd, y, hy => by
    have hd' : d + 0 ≤ 900 := hd
    have := strN_len g
    rw [show y = sp d ++ S "found " ++ strN n from List.mem_singleton.mp hy, len_app, len_app, sp_len, show (S "found ").length = 6 from by decide +kernel]
    omega
  | .ask m l r, d, g, hd, y, hy => by
    have hd' : d + (max l.deep r.deep + 1) ≤ 900 := hd
    rcases List.mem_cons.mp hy with hy | hy
    · have := hs _ (nameAt_mem (ns := ns) g.1)
      rw [hy, len_app, len_app, sp_len, show (S "ask ").length = 4 from by decide +kernel]
      omega
    · rcases List.mem_append.mp hy with hy | hy
      · exact linesF_small hs l (d + 1) g.2.1 (by omega) y hy
      · exact linesF_small hs r (d + 1) g.2.2 (by omega) y hy
theorem glued_len : ∀ ls : List Str, (gluedL ls).length = ((ls.map (· ++ nl)).map (·.length)).sum
  | [] => rfl
  | x :: r => by
    show (x ++ nl ++ gluedL r).length = _
    rw [len_app, glued_len r, List.map_cons, List.map_cons, List.sum_cons]
def spShown : Sp := fun vs H Q _ => ∃ (h : Addr) (v : V) (ns : List Str) (T : Tree), vs = [.ref h, v] ∧ HistAt H h ns ∧ TreeAt H v T ∧ T.Good ns.length ∧ Short ns ∧ T.deep < 50 ∧ T.size ≤ 1000 ∧ ∀ H' : Hp, Same H H' → Q (.str (textOf ns T)) H'
theorem ok_shown {f : Addr} {fd : FuncData} (D : DefAt K mg "shown_tree" sShown ["history", "tree"] f fd) (T : Free mg) (ln : Callee P w K mg base CX0 50 "lines_of" ["history", "tree", "depth"] (spLines 50)) : FnOk P w K mg base CX0 51 f fd ["history", "tree"] spShown := by
  obtain ⟨f_lines_of, fd_lines_of, G_lines_of, m_lines_of, k_lines_of, b_lines_of⟩ := ln.ex
  refine D.fn.ok scShown (fun vs H Q E h => ?_) (fun cdv A outer s H vs Q E hr h => ?_)
  · obtain ⟨h, v, ns, Tr, rfl, _⟩ := h
    rfl
  · obtain ⟨h, v, ns, Tr, rfl, hh, ht, hg, hs, hd, hz, q⟩ := h
    refine ⟨_, (pss_one (ps_ret (pe_join pe_str (pe_lc (own := [("line", 2)]) (g := gName 2) (by rfl) scShown.nd (pi_list (pe_call G_lines_of (hr.mono (by omega)) (by rfl) m_lines_of k_lines_of b_lines_of .nil pass0 (pa_cons (pv 0) (pa_cons (pv 1) (pa_cons pe_int pa_nil))))) (blkOk_by (own := [("line", 2)]) (N := nShown) (sc := defScope sShown) (by decide +kernel)) (fun _ _ _ _ _ => pg_name (i := 2) scShown.nd rfl (Or.inl rfl)) (fun _ _ _ _ _ => pts_nil) (fun _ _ _ _ _ => (pe_op op_add_str (pv 2) pe_str)))))), ?_⟩
    have hdd : 0 + Tr.deep ≤ 900 := by omega
    have sm := linesF_small hs Tr 0 hg hdd
    have ln := linesF_len ns Tr 0
    refine ⟨⟨_, rfl⟩, _, rfl, _, rfl, h, v, 0, ns, Tr, rfl, hh, ht, hg, hs, hd, hz, hdd, fun H1 l s1 hl => ?_⟩
    refine ⟨l, rfl, ⟨_, SqL.of hl⟩, fun C nC => lc_nl (by show 2 < 3; decide) (SqL.of hl) nC (by omega) (fun y hy => by have := sm y hy; omega) ?_⟩
    refine ⟨_, C, _, rfl, rfl, .inl (SqL.of upd_same), ?_, ?_⟩
    · have := sum_small _ sm
      show _ + _ * 0 ≤ _
      omega
    · have := q _ (s1.trans (Same.new nC (.lst (((linesF ns 0 Tr).map (· ++ nl)).map V.str))))
      rw [show Txt.join (Str.ofString "") ((linesF ns 0 Tr).map (· ++ nl)) = textOf ns Tr from join_empty_nl _]
      exact this
end
end FB

set_option Elab.async false
set_option linter.all false
set_option maxRecDepth 100000
set_option maxHeartbeats 4000000
/-! == of two lists of texts; a text among texts; results in the heap. -/
namespace FB
open PySem L2
def rEqL (K : PySem.W.Frag) : R2 := fun x y H Q => ∃ (a b : Addr) (xs ys : List Str), x = .ref a ∧ y = .ref b ∧ SqL K H a (xs.map V.str) ∧ SqL K H b (ys.map V.str) ∧ Q (.bl (decide (xs = ys))) H
theorem all_same {xs ys : List Str} (h : xs.length = ys.length) : ((List.range xs.length).all fun j => eqV (.str (xs.getD j Str.empty)) (.str (ys.getD j Str.empty))) = decide (xs = ys) := by
  by_cases e : xs = ys
  · subst e
    rw [decide_eq_true rfl]
    exact List.all_eq_true.mpr fun j _ => by simp [eqV]
  · rw [decide_eq_false e]
    refine Bool.eq_false_iff.mpr fun q => e ?_
    refine List.ext_getElem h fun j h1 h2 => ?_
    have z := List.all_eq_true.mp q j (List.mem_range.mpr h1)
    have z' : (xs.getD j Str.empty == ys.getD j Str.empty) = true := z
    have z2 := eq_of_beq z'
    rw [List.getD_eq_getElem?_getD, List.getD_eq_getElem?_getD, List.getElem?_eq_getElem h1, List.getElem?_eq_getElem h2] at z2
    exact z2
theorem op_eqL {X : Cx} (hu : X.A.units < cLine) : OpR X (compareOp .Eq) (rEqL X.K) := by
  intro pins s σ H x y v u Q I rx ry h
  obtain ⟨a, b, xs, ys, rfl, rfl, h1, h2, q⟩ := h
  cases rx
  cases ry
  obtain ⟨is, r1, p1, _⟩ := I.list h1
  obtain ⟨js, r2, p2, _⟩ := I.list h2
  have l1 : xs.length = is.length := by rw [← r1.length, List.length_map]
  have l2 : ys.length = js.length := by rw [← r2.length, List.length_map]
  by_cases hl : xs.length = ys.length
  · refine SeqAt.eq_listAt (e := fun j => eqV (.str (xs.getD j Str.empty)) (.str (ys.getD j Str.empty))) p1.isList p2.isList (by simp; omega) hu (fun j g1 g2 => ?_) ?_
    · have g1' : j < is.length := by simpa using g1
      have g2' : j < js.length := by simpa using g2
      have k1 : j < xs.length := by omega
      have k2 : j < ys.length := by omega
      obtain ⟨u1, e1, q1⟩ := r1.get (i := j) (x := .str xs[j]) (by rw [List.getElem?_map, List.getElem?_eq_getElem k1]; rfl)
      obtain ⟨u2, e2, q2⟩ := r2.get (i := j) (x := .str ys[j]) (by rw [List.getElem?_map, List.getElem?_eq_getElem k2]; rfl)
      have f1 : is.toArray[j] = u1 := by
        rw [List.getElem?_eq_getElem g1'] at e1
        simpa using e1
      have f2 : js.toArray[j] = u2 := by
        rw [List.getElem?_eq_getElem g2'] at e2
        simpa using e2
      have d1 : xs.getD j Str.empty = xs[j] := by rw [List.getD_eq_getElem?_getD, List.getElem?_eq_getElem k1]; rfl
      have d2 : ys.getD j Str.empty = ys[j] := by rw [List.getD_eq_getElem?_getD, List.getElem?_eq_getElem k2]; rfl
      rw [f1, f2, d1, d2]
      exact eqAt_V q1 q2 rfl rfl
    · refine ⟨.bl (decide (xs = ys)), H, I, ?_, q⟩
      show Value.bool _ = Value.bool _
      rw [show is.toArray.size = xs.length by simp [l1], all_same hl]
  · refine SeqAt.eq_list_lengthsAt p1.isList p2.isList ?_ hu ⟨.bl (decide (xs = ys)), H, I, ?_, q⟩
    · simp
      omega
    · rw [decide_eq_false (fun e => hl (by rw [e]))]
      rfl
theorem inV_str (w : Str) (ns : List Str) : inV (.str w) (ns.map V.str) = decide (w ∈ ns) := by
  unfold inV
  rw [List.any_map]
  by_cases h : w ∈ ns
  · rw [decide_eq_true h]
    exact List.any_eq_true.mpr ⟨w, h, by simp [eqV]⟩
  · rw [decide_eq_false h]
    refine Bool.eq_false_iff.mpr fun q => h ?_
    obtain ⟨y, hy, e⟩ := List.any_eq_true.mp q
    have e' : (y == w) = true := e
    rw [← eq_of_beq e']
    exact hy
theorem strs_flat (ns : List Str) : (ns.map V.str).all flatV = true := List.all_eq_true.mpr fun x hx => by
  obtain ⟨n, _, rfl⟩ := List.mem_map.mp hx
  rfl
theorem strs_at {ls : List Str} {p : Nat} {x : Str} (h : ls[p]? = some x) : atI (ls.map V.str) ((p : Nat) : Int) = some (.str x) := atI_nat (by rw [List.getElem?_map, h]; rfl)
theorem before_idx {y : Str} : ∀ {xs : List Str} {m : Nat} (h : m < xs.length), m < xs.idxOf y → xs[m] ≠ y
  | [], m, h, _ => absurd h (Nat.not_lt_zero _)
  | x :: r, 0, _, hm => fun e => by
    have e' : x = y := e
    rw [e', List.idxOf_cons_self] at hm
    exact absurd hm (Nat.lt_irrefl _)
  | x :: r, m + 1, h, hm => by
    rw [List.idxOf_cons] at hm
    by_cases e : (x == y) = true
    · rw [e] at hm
      exact absurd hm (Nat.not_lt_zero _)
    · rw [Bool.eq_false_iff.mpr e] at hm
      have hm' : m + 1 < r.idxOf y + 1 := hm
      exact before_idx (xs := r) (m := m) (Nat.lt_of_succ_lt_succ h) (Nat.lt_of_succ_lt_succ hm')
/-- what list.index asks and says, for texts -/
theorem index_ask {K : PySem.W.Frag} {H : Hp} {Q : VK} {a : Addr} {ns : List Str} {w : Str} (hS : SqL K H a (ns.map V.str)) (hw : w ∈ ns) (q : Q (.int ((ns.idxOf w : Nat) : Int)) H) : rIndex K (.ref a) [.str w] H Q := by
  have hl := List.idxOf_lt_length_of_mem hw
  refine ⟨a, _, .str w, ns.idxOf w, .str w, rfl, rfl, hS, rfl, strs_flat ns, ?_, by simp [eqV], fun m z hm hz => ?_, q⟩
  · rw [List.getElem?_map, List.getElem?_eq_getElem hl, List.getElem_idxOf hl]
    rfl
  · rw [List.getElem?_map] at hz
    have hml : m < ns.length := Nat.lt_trans hm hl
    rw [List.getElem?_eq_getElem hml] at hz
    have e := Option.some.inj hz
    subst e
    have ne := before_idx hml hm
    show (ns[m] == w) = false
    simpa using ne
/-- a reader's result stands at l, as the law writes it -/
def ResAt (H : Hp) (l : Addr) : Res → Prop
  | .ok T p => ∃ v, H l = some (.lst [v, .int (p : Nat)]) ∧ TreeAt H v T
  | .no ln why => H l = some (.lst [.non, .int (ln : Nat), .str why])
end FB

set_option Elab.async false
set_option linter.all false
set_option maxRecDepth 100000
set_option maxHeartbeats 8000000
/-! The law's own reader. -/
namespace FB
open PySem L2
theorem nbl_t {p : Prop} [Decidable p] (h : ¬ p) : V.bl (!decide p) = V.bl true := by rw [decide_eq_false h]; rfl
theorem nbl_f {p : Prop} [Decidable p] (h : p) : V.bl (!decide p) = V.bl false := by rw [decide_eq_true h]; rfl
/-- what a line's words lead to -/
def goOn (ns ls : List Str) (f p : Nat) : Ln → Res
  | .bad => .no (p + 1) (S "unknown line")
  | .nob => .ok .nobody (p + 1)
  | .fnd n => .ok (.found n) (p + 1)
  | .ask w => if w ∉ ns then .no (p + 1) (S "unknown make") else match f with
    | 0 => .no (p + 1) (S "too deep")
    | g + 1 => match readF ns ls g (p + 1) with
      | .no l y => .no l y
      | .ok T1 p1 => match readF ns ls g p1 with
        | .no l y => .no l y
        | .ok T2 p2 => .ok (.ask (ns.idxOf w) T1 T2) p2
theorem readF_end {ns ls : List Str} {f p : Nat} (h : ¬ p < ls.length) : readF ns ls f p = .no (ls.length + 1) (S "not ended") := by
  unfold readF
  rw [List.getElem?_eq_none (Nat.le_of_not_lt h)]
theorem readF_head {ns ls : List Str} {f p : Nat} {line : Str} (h : ls[p]? = some line) (hh : ¬ headOf line (40 - f) = sp (40 - f)) : readF ns ls f p = .no (p + 1) (S "unknown line") := by
  unfold readF
  rw [h]
  dsimp only
  rw [if_pos hh]
theorem readF_go {ns ls : List Str} {f p : Nat} {line : Str} (h : ls[p]? = some line) (hh : headOf line (40 - f) = sp (40 - f)) :
    readF ns ls f p = goOn ns ls f p (sayOf (Txt.split (tailOf line (40 - f)) blank)) := by
  unfold readF
  rw [h]
  dsimp only
  rw [if_neg (fun z => z hh)]
  cases sayOf (Txt.split (tailOf line (40 - f)) blank) with
  | bad => rfl
  | nob => rfl
  | fnd n => rfl
  | ask w => cases f <;> rfl
theorem say_other {ws : List Str} (h0 : ¬ ws = [S "nobody"]) (h2 : ¬ ws.length = 2) : sayOf ws = .bad := by
  match ws, h0, h2 with
  | [], _, _ => rfl
  | [a], h0, _ =>
    show (if a = S "nobody" then Ln.nob else .bad) = _
    rw [if_neg (fun e => h0 (by rw [e]))]
  | [a, b], _, h2 => exact absurd rfl h2
  | a :: b :: c :: r, _, _ => rfl
theorem say_nob : sayOf [S "nobody"] = .nob := by
  unfold sayOf
  dsimp only
  rw [if_pos rfl]
theorem tree_ref {H : Hp} {v : V} {T : Tree} (h : TreeAt H v T) : ¬ v = .non := fun e => by
  subst e
  cases h
theorem two_of {ws : List Str} (h : ws.length = 2) : ∃ a b, ws = [a, b] := by
  match ws, h with
  | [a, b], _ => exact ⟨a, b, rfl⟩
theorem int_ne {a b : Int} (h : ¬ a = b) : ¬ V.int a = V.int b := fun e => h (V.int.inj e)
theorem say_two (a b : Str) : sayOf [a, b] = if a = S "found" then (if isNum b = true then Ln.fnd (numOf b) else .bad) else if a = S "ask" ∧ b ≠ Str.empty then .ask b else .bad := rfl
theorem num_text {b : Str} (h : isNum b = true) : intText? b = some ((numOf b : Nat) : Int) ∧ b.length ≤ 640 := by
  have h1 : 1 ≤ b.length ∧ b.length ≤ 3 ∧ b.cps.toList.all isDig = true := Classical.byContradiction fun z => by
    rw [not_num z] at h
    cases h
  refine ⟨intText_digits (fun c hc => isDig_iff.mp (List.all_eq_true.mp h1.2.2 c hc)) (fun e => ?_) (by omega), by omega⟩
  have := h1.1
  rw [len_list, e] at this
  exact absurd this (by decide)
theorem blank_eq : Str.ofString " " = blank := by decide +kernel
theorem cut_len (z : Str) (lo hi : Option Int) : (cutS z lo hi).length ≤ z.length := by
  rw [len_list, len_list]
  unfold cutS
  rw [List.length_take, List.length_drop]
  omega
/-- lines of a moderate size -/
structure Mod (ls : List Str) : Prop where
  many : ls.length ≤ 1000000
  long : ∀ y ∈ ls, y.length ≤ 1000000
def spRead (n : Nat) : Sp := fun vs H Q _ => ∃ (N L : Addr) (p d f : Nat) (ns ls : List Str), vs = [.ref N, .ref L, .int (p : Nat), .int (d : Nat)] ∧ H N = some (.lst (ns.map V.str)) ∧ H L = some (.lst (ls.map V.str)) ∧ f ≤ 40 ∧ d = 40 - f ∧ f < n ∧ Mod ls ∧
  ∀ (H' : Hp) (l : Addr), Same H H' → ResAt H' l (readF ns ls f p) → Q (.ref l) H'
section
variable {P : Program} {w : World} {K : PySem.W.Frag} {mg : Str → Option Value} {base : Heap}
theorem no_read {k : Nat} {f : Addr} {fd : FuncData} {ps : List Str} : FnOk P w K mg base CX0 k f fd ps (spRead 0) := by
  have no : ∀ vs H Q E, ¬ spRead 0 vs H Q E := fun vs H Q E ⟨_, _, _, _, _, _, _, _, _, _, _, _, z, _⟩ => absurd z (Nat.not_lt_zero _)
  exact ⟨fun vs H Q E h => absurd h (no vs H Q E), fun A outer s H args us vs Q E _ _ _ _ h => absurd h (no vs H Q E)⟩
theorem ok_read {f : Addr} {fd : FuncData} (D : DefAt K mg "_law_read" sRead ["_law_names", "_law_lines_here", "_law_at", "_law_depth"] f fd) (T : Free mg) (isn : Callee P w K mg base CX0 1 "_law_is_number" ["_law_word"] spIsNum) (n : Nat) :
    FnOk P w K mg base CX0 (n + 1) f fd ["_law_names", "_law_lines_here", "_law_at", "_law_depth"] (spRead n) := by
  obtain ⟨f_is_number, fd_is_number, G_is_number, m_is_number, k_is_number, b_is_number⟩ := isn.ex
  have m_read := D.gl
  have k_read := D.fn.kp
  have b_read := D.bd
  induction n with
  | zero => exact no_read
  | succ n G_read =>
    refine D.fn.ok scRead (fun vs H Q E h => ?_) (fun cdv A outer s H vs Q E hr h => ?_)
    · obtain ⟨_, _, _, _, _, _, _, rfl, _⟩ := h
      rfl
    · obtain ⟨N, L, p, d, f, ns, ls, rfl, hN, hL, hf, rfl, hfn, md, q⟩ := h
      refine ⟨_, (pss_cons (ps_if (pt_cmpR op_ge (pv 2) (pe_callB call_len_seq (by rfl) T.len PySem.boot_len (pa_cons (pv 1) pa_nil)) (nomark _))
  (pss_one (ps_ret (pe_lst (pa_cons pe_non (pa_cons (pe_op op_add (pe_callB call_len_seq (by rfl) T.len PySem.boot_len (pa_cons (pv 1) pa_nil)) pe_int) (pa_cons pe_str pa_nil))))))
  pss_nil)
  (pss_cons (ps_set (i := 4) scRead.nd rfl (.inl rfl) (pe_ix ix_list (pv 1) (pv 2) (fun _ _ => rfl)))
  (pss_cons (ps_if (pt_cmpR op_ne (pe_slice sl_str (pv 4) po_none (po_some (pe_op op_mul pe_int (pv 3)))) (pe_op op_mulS pe_str (pv 3)) (nomark _))
  (pss_one (ps_ret (pe_lst (pa_cons pe_non (pa_cons (pe_op op_add (pv 2) pe_int) (pa_cons pe_str pa_nil))))))
  pss_nil)
  (pss_cons (ps_set (i := 5) scRead.nd rfl (.inl rfl) (pe_split (pe_slice sl_str (pv 4) (po_some (pe_op op_mul pe_int (pv 3))) po_none) pe_str))
  (pss_cons (ps_if (pt_cmpR (op_eqL hr.units0) (pv 5) (pe_lst (pa_cons pe_str pa_nil)) (nomark _))
  (pss_one (ps_ret (pe_lst (pa_cons (pe_tup (pa_cons pe_str pa_nil)) (pa_cons (pe_op op_add (pv 2) pe_int) pa_nil)))))
  pss_nil)
  (C8.pss_cut (ps_if (PW.pt (pw_and (pt_cmpR op_eq (pe_callB call_len_seq (by rfl) T.len PySem.boot_len (pa_cons (pv 5) pa_nil)) pe_int (nomark _)) (pw_and (pt_cmpR op_eq (pe_ix ix_list (pv 5) pe_int (fun _ _ => rfl)) pe_str (nomark _)) (pw_and1 (pt_val (pe_call G_is_number (hr.mono (by omega)) (by rfl) m_is_number k_is_number b_is_number .nil pass0 (pa_cons (pe_ix ix_list (pv 5) pe_int (fun _ _ => rfl)) pa_nil)))))))
  (pss_one (ps_ret (pe_lst (pa_cons (pe_tup (pa_cons pe_str (pa_cons (pe_callTy call_int_str (by rfl) T.int (by decide +kernel) (pa_cons (pe_ix ix_list (pv 5) pe_int (fun _ _ => rfl)) pa_nil)) pa_nil))) (pa_cons (pe_op op_add (pv 2) pe_int) pa_nil)))))
  pss_nil)
  (pss_cons (ps_if (PW.pt (pw_or (pt_cmpR op_ne (pe_callB call_len_seq (by rfl) T.len PySem.boot_len (pa_cons (pv 5) pa_nil)) pe_int (nomark _)) (pw_or (pt_cmpR op_ne (pe_ix ix_list (pv 5) pe_int (fun _ _ => rfl)) pe_str (nomark _)) (pw_or1 (pt_cmpR op_eq (pe_ix ix_list (pv 5) pe_int (fun _ _ => rfl)) pe_str (nomark _))))))
  (pss_one (ps_ret (pe_lst (pa_cons pe_non (pa_cons (pe_op op_add (pv 2) pe_int) (pa_cons pe_str pa_nil))))))
  pss_nil)
  (pss_cons (ps_if (pt_cmpR op_notIn_seq (pe_ix ix_list (pv 5) pe_int (fun _ _ => rfl)) (pv 0) (by rfl))
  (pss_one (ps_ret (pe_lst (pa_cons pe_non (pa_cons (pe_op op_add (pv 2) pe_int) (pa_cons pe_str pa_nil))))))
  pss_nil)
  (pss_cons (ps_if (pt_cmpR op_gt (pv 3) pe_int (nomark _))
  (pss_one (ps_ret (pe_lst (pa_cons pe_non (pa_cons (pe_op op_add (pv 2) pe_int) (pa_cons pe_str pa_nil))))))
  pss_nil)
  (pss_cons (ps_set (i := 6) scRead.nd rfl (.inl rfl) (pe_call G_read (hr.mono (by omega)) (by rfl) m_read k_read b_read .nil pass0 (pa_cons (pv 0) (pa_cons (pv 1) (pa_cons (pe_op op_add (pv 2) pe_int) (pa_cons (pe_op op_add (pv 3) pe_int) pa_nil))))))
  (pss_cons (ps_if (pt_cmpR op_isN (pe_ix ix_list (pv 6) pe_int (fun _ _ => rfl)) pe_non (nomark _))
  (pss_one (ps_ret (pv 6)))
  pss_nil)
  (pss_cons (ps_set (i := 7) scRead.nd rfl (.inl rfl) (pe_call G_read (hr.mono (by omega)) (by rfl) m_read k_read b_read .nil pass0 (pa_cons (pv 0) (pa_cons (pv 1) (pa_cons (pe_ix ix_list (pv 6) pe_int (fun _ _ => rfl)) (pa_cons (pe_op op_add (pv 3) pe_int) pa_nil))))))
  (pss_cons (ps_if (pt_cmpR op_isN (pe_ix ix_list (pv 7) pe_int (fun _ _ => rfl)) pe_non (nomark _))
  (pss_one (ps_ret (pv 7)))
  pss_nil)
  (pss_one (ps_ret (pe_lst (pa_cons (pe_tup (pa_cons pe_str (pa_cons (pe_bm PySem.F.plainAttrs_list PySem.F.slot_list_index PySem.F.type_list_index mt_index (pv 0) (pa_cons (pe_ix ix_list (pv 5) pe_int (fun _ _ => rfl)) pa_nil)) (pa_cons (pe_ix ix_list (pv 6) pe_int (fun _ _ => rfl)) (pa_cons (pe_ix ix_list (pv 7) pe_int (fun _ _ => rfl)) pa_nil))))) (pa_cons (pe_ix ix_list (pv 7) pe_int (fun _ _ => rfl)) pa_nil)))))))))))))))))), ?_⟩
      refine ⟨_, rfl, _, rfl, L, _, rfl, .inl (SqL.of hL), _, _, rfl, rfl, ?_⟩
      by_cases hp : p < ls.length
      case neg =>
        refine ⟨true, bl_t (by rw [List.length_map]; omega), iteT ⟨_, rfl, L, _, rfl, .inl (SqL.of hL), _, _, rfl, rfl, (by show 3 ≤ sizeLine; decide), fun l nl => q _ l (Same.new nl _) ?_⟩⟩
        rw [readF_end hp]
        show upd H l _ l = _
        rw [upd_same, List.length_map]
        rfl
      case pos =>
        refine ⟨false, bl_f (by rw [List.length_map]; omega), iteF ?_⟩
        have hx : ls[p]? = some ls[p] := List.getElem?_eq_getElem hp
        generalize hline : ls[p] = line at hx
        have hlen : line.length ≤ 1000000 := md.long _ (by rw [← hline]; exact List.getElem_mem hp)
        have hsl : line.length ≤ sizeLine := by rw [sizeLine_eq]; omega
        refine ⟨_, rfl, _, rfl, L, _, p, _, rfl, rfl, SqL.of hL, strs_at hx, ?_⟩
        refine ⟨_, rfl, _, rfl, _, _, rfl, rfl, .inl ⟨by decide, by decide⟩, _, rfl, line, rfl, hsl, _, rfl, 40 - f, rfl, rfl, by omega, rfl, ?_⟩
        by_cases hh : headOf line (40 - f) = sp (40 - f)
        case neg =>
          refine ⟨true, nbl_t (str_ne hh), iteT ⟨_, rfl, _, _, rfl, rfl, (by show 3 ≤ sizeLine; decide), fun l nl => q _ l (Same.new nl _) ?_⟩⟩
          rw [readF_head hx hh]
          exact upd_same
        case pos =>
          refine ⟨false, nbl_f (congrArg V.str hh), iteF ?_⟩
          have key := readF_go (ns := ns) hx hh
          have hsplit : (tailOf line (40 - f)).length + 2 ≤ sizeLine := by
            have := cut_len line (some ((2 * (40 - f) : Nat) : Int)) none
            rw [sizeLine_eq]
            unfold tailOf
            omega
          refine ⟨_, rfl, _, rfl, _, _, rfl, rfl, .inl ⟨by decide, by decide⟩, _, rfl, line, rfl, hsl, ⟨_, rfl⟩, tailOf line (40 - f), Str.ofString " ", rfl, rfl, by decide +kernel, hsplit, fun W nW => ?_⟩
          rw [blank_eq]
          generalize hws : Txt.split (tailOf line (40 - f)) blank = ws at key
          have hwl : ∀ y ∈ ws, y.length ≤ 1000000 := fun y hy => by
            rw [← hws] at hy
            have h1 := PyProof.Rows.part_short hy
            have h2 := cut_len line (some ((2 * (40 - f) : Nat) : Int)) none
            unfold tailOf at h1
            omega
          have sW := Same.new nW (.lst (ws.map V.str))
          refine ⟨_, rfl, (by show 1 ≤ sizeLine; decide), fun l1 nl1 => ?_⟩
          have s1 := sW.trans (Same.new nl1 (.lst [.str (Str.ofString "nobody")]))
          have hW : upd (upd H W (.lst (ws.map V.str))) l1 (.lst [.str (Str.ofString "nobody")]) W = some (.lst (ws.map V.str)) := Same.new nl1 _ _ _ upd_same
          refine ⟨W, l1, ws, [S "nobody"], rfl, rfl, SqL.of hW, SqL.of upd_same, ?_⟩
          generalize upd (upd H W (.lst (ws.map V.str))) l1 (.lst [.str (Str.ofString "nobody")]) = H1 at s1 hW
          -- what is given back when a line is no good
          have say : ∀ {H2 : Hp} {l : Addr} {why : Str}, Same H H2 → readF ns ls f p = .no (p + 1) why → H2 l = none → Q (.ref l) (upd H2 l (.lst [.non, .int (((p : Nat) : Int) + 1), .str why])) := fun {H2 l why} s2 e n2 =>
            q _ l (s2.trans (Same.new n2 _)) (by rw [e]; exact upd_same)
          by_cases e0 : ws = [S "nobody"]
          · refine ⟨true, bl_t e0, iteT ⟨(by show 1 ≤ sizeLine; decide), fun t nt => ⟨_, rfl, _, _, rfl, rfl, (by show 2 ≤ sizeLine; decide), fun l nl => q _ l (s1.trans ((Same.new nt _).trans (Same.new nl _))) ?_⟩⟩⟩
            rw [key, e0, say_nob]
            exact ⟨_, upd_same, .nobody (Same.new nl _ _ _ upd_same)⟩
          · refine ⟨false, bl_f e0, iteF ?_⟩
            refine ⟨fun σ2 H2 => σ2 = [some (.ref N), some (.ref L), some (.int (p : Nat)), some (.int ((40 - f : Nat) : Int)), some (.str line), some (.ref W), none, none] ∧ Same H H2 ∧ H2 W = some (.lst (ws.map V.str)) ∧ (∀ b, ws = [S "found", b] → isNum b = false), ?_, ?_⟩
            · refine ⟨_, rfl, W, _, rfl, .inl (SqL.of hW), rfl, ?_⟩
              by_cases h2 : ws.length = 2
              · obtain ⟨a, b, rfl⟩ := two_of h2
                refine ⟨true, bl_t rfl, iteT ⟨_, rfl, W, _, 0, _, rfl, rfl, SqL.of hW, rfl, rfl, ?_⟩⟩
                by_cases ha : a = S "found"
                · subst ha
                  refine ⟨true, bl_t rfl, iteT ⟨_, rfl, W, _, 1, _, rfl, rfl, SqL.of hW, rfl, b, rfl, hwl b (by simp), fun H2 s2 => ⟨isNum b, rfl, ?_⟩⟩⟩
                  by_cases hb : isNum b = true
                  · rw [hb]
                    have hW2 := s2 _ _ hW
                    refine iteT ⟨_, rfl, W, _, 1, _, rfl, rfl, SqL.of hW2, rfl, b, _, rfl, (num_text hb).1, (num_text hb).2, (by show 2 ≤ sizeLine; decide), fun t nt => ⟨_, rfl, _, _, rfl, rfl, (by show 2 ≤ sizeLine; decide), fun l nl => q _ l (s1.trans (s2.trans ((Same.new nt _).trans (Same.new nl _)))) ?_⟩⟩
                    rw [key, say_two, if_pos rfl, if_pos hb]
                    exact ⟨_, upd_same, .found (Same.new nl _ _ _ upd_same)⟩
                  · rw [Bool.eq_false_iff.mpr hb]
                    refine iteF ⟨rfl, s1.trans s2, s2 _ _ hW, fun b' e => ?_⟩
                    have e' : b = b' := (List.cons.inj (List.cons.inj e).2).1
                    rw [← e']
                    exact Bool.eq_false_iff.mpr hb
                · refine ⟨false, bl_f (str_ne ha), iteF (iteF ⟨rfl, s1, hW, fun b' e => absurd (List.cons.inj e).1 ha⟩)⟩
              · refine ⟨false, bl_f (int_ne (by rw [List.length_map]; omega)), iteF (iteF ⟨rfl, s1, hW, fun b' e => absurd (by rw [e]; rfl) h2⟩)⟩
            · rintro σ2 H2 ⟨rfl, s2, hW2, hnf⟩
              have hN2 := s2 _ _ hN
              have hL2 := s2 _ _ hL
              have bad : ∀ {H3 : Hp}, Same H H3 → sayOf ws = .bad → ∀ l, H3 l = none → Q (.ref l) (upd H3 l (.lst [.non, .int (((p : Nat) : Int) + 1), .str (Str.ofString "unknown line")])) := fun {H3} s3 e l nl =>
                say s3 (by rw [key, e]; rfl) nl
              refine ⟨_, rfl, W, _, rfl, .inl (SqL.of hW2), rfl, ?_⟩
              by_cases h2 : ws.length = 2
              case neg =>
                exact ⟨true, nbl_t (int_ne (by rw [List.length_map]; omega)), iteT (iteT ⟨_, rfl, _, _, rfl, rfl, (by show 3 ≤ sizeLine; decide), fun l nl => bad s2 (say_other e0 h2) l nl⟩)⟩
              case pos =>
                obtain ⟨a, b, rfl⟩ := two_of h2
                refine ⟨false, nbl_f rfl, iteF ⟨_, rfl, W, _, 0, _, rfl, rfl, SqL.of hW2, rfl, rfl, ?_⟩⟩
                by_cases ha : a = S "ask"
                case neg =>
                  refine ⟨true, nbl_t (str_ne ha), iteT (iteT ⟨_, rfl, _, _, rfl, rfl, (by show 3 ≤ sizeLine; decide), fun l nl => bad s2 ?_ l nl⟩)⟩
                  rw [say_two]
                  by_cases hf2 : a = S "found"
                  · rw [if_pos hf2, if_neg (by rw [hnf b (by rw [hf2])]; exact Bool.false_ne_true)]
                  · rw [if_neg hf2, if_neg (fun z => ha z.1)]
                case pos =>
                  subst ha
                  refine ⟨false, nbl_f rfl, iteF ⟨_, rfl, W, _, 1, _, rfl, rfl, SqL.of hW2, rfl, rfl, ?_⟩⟩
                  by_cases hb : b = Str.empty
                  case pos =>
                    refine ⟨true, bl_t (by rw [hb]; rfl), iteT ⟨_, rfl, _, _, rfl, rfl, (by show 3 ≤ sizeLine; decide), fun l nl => bad s2 ?_ l nl⟩⟩
                    rw [say_two, if_neg ask_found, if_neg (fun z => z.2 hb)]
                  case neg =>
                    refine ⟨false, bl_f (str_ne hb), iteF ?_⟩
                    rw [say_two, if_neg ask_found, if_pos ⟨rfl, hb⟩] at key
                    refine ⟨_, rfl, W, _, 1, _, rfl, rfl, SqL.of hW2, rfl, _, rfl, N, _, rfl, .inl (SqL.of hN2), rfl, strs_flat ns, ?_⟩
                    by_cases hm : b ∈ ns
                    case neg =>
                      refine ⟨true, by show V.bl (!inV _ _) = _; rw [inV_str, decide_eq_false hm]; rfl, iteT ⟨_, rfl, _, _, rfl, rfl, (by show 3 ≤ sizeLine; decide), fun l nl => say s2 ?_ nl⟩⟩
                      rw [key]
                      show (if b ∉ ns then _ else _) = _
                      rw [if_pos hm]
                    case pos =>
                      refine ⟨false, by show V.bl (!inV _ _) = _; rw [inV_str, decide_eq_true hm]; rfl, iteF ⟨_, rfl, _, _, rfl, rfl, ?_⟩⟩
                      cases f with
                      | zero =>
                        refine ⟨true, bl_t (by decide), iteT ⟨_, rfl, _, _, rfl, rfl, (by show 3 ≤ sizeLine; decide), fun l nl => say s2 ?_ nl⟩⟩
                        rw [key]
                        show (if b ∉ ns then _ else _) = _
                        rw [if_neg (fun z => z hm)]
                      | succ g =>
                        have hgo : readF ns ls (g + 1) p = match readF ns ls g (p + 1) with
                            | .no l y => .no l y
                            | .ok T1 p1 => match readF ns ls g p1 with
                              | .no l y => .no l y
                              | .ok T2 p2 => .ok (.ask (ns.idxOf b) T1 T2) p2 := by
                          rw [key]
                          show (if b ∉ ns then _ else _) = _
                          rw [if_neg (fun z => z hm)]
                        refine ⟨false, bl_f (by omega), iteF ?_⟩
                        have ed : 40 - (g + 1) + 1 = 40 - g := by omega
                        refine ⟨_, rfl, _, rfl, _, rfl, _, _, rfl, rfl, _, rfl, _, _, rfl, rfl, N, L, p + 1, 40 - (g + 1) + 1, g, ns, ls, rfl, hN2, hL2, by omega, ed, by omega, md, fun H3 l3 s3 r3 => ?_⟩
                        cases e1 : readF ns ls g (p + 1) with
                        | no l y =>
                          rw [e1] at r3 hgo
                          have r3' : H3 l3 = some (.lst [.non, .int (l : Nat), .str y]) := r3
                          refine ⟨_, rfl, l3, _, 0, _, rfl, rfl, SqL.of r3', rfl, rfl, true, bl_t rfl, iteT ⟨_, rfl, q _ l3 (s2.trans s3) ?_⟩⟩
                          rw [hgo]
                          exact r3'
                        | ok T1 p1 =>
                          rw [e1] at r3 hgo
                          obtain ⟨v1, r3', t1⟩ := r3
                          have s23 := s2.trans s3
                          refine ⟨_, rfl, l3, _, 0, _, rfl, rfl, SqL.of r3', rfl, rfl, false, bl_f (tree_ref t1), iteF ?_⟩
                          refine ⟨_, rfl, _, rfl, _, rfl, l3, _, 1, _, rfl, rfl, SqL.of r3', rfl, _, rfl, _, _, rfl, rfl, N, L, p1, 40 - (g + 1) + 1, g, ns, ls, rfl, s23 _ _ hN, s23 _ _ hL, by omega, ed, by omega, md, fun H4 l4 s4 r4 => ?_⟩
                          have s24 := s23.trans s4
                          cases e2 : readF ns ls g p1 with
                          | no l y =>
                            rw [e2] at r4
                            simp only [e2] at hgo
                            have r4' : H4 l4 = some (.lst [.non, .int (l : Nat), .str y]) := r4
                            refine ⟨_, rfl, l4, _, 0, _, rfl, rfl, SqL.of r4', rfl, rfl, true, bl_t rfl, iteT ⟨_, rfl, q _ l4 s24 ?_⟩⟩
                            rw [hgo]
                            exact r4'
                          | ok T2 p2 =>
                            rw [e2] at r4
                            simp only [e2] at hgo
                            obtain ⟨v2, r4', t2⟩ := r4
                            have r3'' := s4 _ _ r3'
                            have hN4 := s24 _ _ hN
                            have hW4 := (s3.trans s4) _ _ hW2
                            refine ⟨_, rfl, l4, _, 0, _, rfl, rfl, SqL.of r4', rfl, rfl, false, bl_f (tree_ref t2), iteF ?_⟩
                            refine ⟨_, rfl, .inl ⟨rfl, _, SqL.of hN4⟩, _, rfl, W, _, 1, _, rfl, rfl, SqL.of hW4, rfl, ?_⟩
                            unfold tNil
                            refine index_ask (SqL.of hN4) hm ⟨_, rfl, l3, _, 0, _, rfl, rfl, SqL.of r3'', rfl, _, rfl, l4, _, 0, _, rfl, rfl, SqL.of r4', rfl, (by show 4 ≤ sizeLine; decide), fun t nt => ?_⟩
                            have s5 := Same.new nt (.tup [.str (S "ask"), .int ((ns.idxOf b : Nat) : Int), v1, v2])
                            refine ⟨_, rfl, l4, _, 1, _, rfl, rfl, SqL.of (s5 _ _ r4'), rfl, (by show 2 ≤ sizeLine; decide), fun l nl => q _ l (s24.trans (s5.trans (Same.new nl _))) ?_⟩
                            rw [hgo]
                            have s6 := Same.new nl (.lst [.ref t, .int ((p2 : Nat) : Int)])
                            exact ⟨_, upd_same, .ask (s6 _ _ upd_same) ((t1.mono (Same.tups s4)).mono (Same.tups (s5.trans s6))) (t2.mono (Same.tups (s5.trans s6)))⟩
end
end FB

set_option Elab.async false
set_option linter.all false
set_option maxRecDepth 100000
set_option maxHeartbeats 8000000
/-! The lines of a text; what the law expects of it. -/
namespace FB
open PySem L2
theorem nl_eq : Str.ofString "\n" = nl := by decide +kernel
theorem split_ne (x : Str) : Txt.split x nl ≠ [] := fun e => by
  have q := PyProof.Rows.split_pos x nl
  rw [e] at q
  exact absurd q (by simp)
theorem linesOf_mod {x : Str} (h : x.length ≤ 900000) : Mod (linesOf x) := by
  have h1 := PyProof.Rows.split_le x nl
  have h2 : ∀ y ∈ Txt.split x nl, y.length ≤ x.length := fun y hy => PyProof.Rows.part_short hy
  unfold linesOf
  dsimp only
  by_cases c : (Txt.split x nl).getLast? = some Str.empty
  · rw [if_pos c]
    refine ⟨by rw [List.length_dropLast]; omega, fun y hy => ?_⟩
    have := h2 y ((List.dropLast_sublist _).subset hy)
    omega
  · rw [if_neg c]
    exact ⟨by omega, fun y hy => by have := h2 y hy; omega⟩
/-- the last of the lines -/
theorem last_of {x : Str} : ∃ init last, Txt.split x nl = init ++ [last] ∧ linesOf x = if last = Str.empty then init else init ++ [last] := by
  have ne := split_ne x
  refine ⟨(Txt.split x nl).dropLast, (Txt.split x nl).getLast ne, (List.dropLast_concat_getLast ne).symm, ?_⟩
  unfold linesOf
  dsimp only
  rw [List.getLast?_eq_some_getLast ne]
  by_cases c : (Txt.split x nl).getLast ne = Str.empty
  · rw [if_pos (by rw [c]), if_pos c]
  · rw [if_neg (fun z => c (Option.some.inj z)), if_neg c, List.dropLast_concat_getLast ne]
theorem cut_last (init : List V) (last : V) : cutV (init ++ [last]) none (some (-1)) = init := by
  unfold cutV
  rw [HT.sIx_none, List.drop_zero, Nat.sub_zero]
  have e : HT.sIx (init ++ [last]).length (init ++ [last]).length (some (-1)) = init.length := by
    rw [List.length_append, List.length_singleton]
    unfold HT.sIx
    simp
    omega
  rw [e, List.take_left]
/-- as lc_mapT, to a list that is given item by item -/
theorem lc_zipT {K : PySem.W.Frag} {a D : Addr} {ys zs : List V} {te : TE} {σ : St} {H1 : Hp} {i : Nat} {Qd : Hp → Prop} (hi : i < σ.length) (hS : H1 a = some (.tup ys)) (hD : H1 D = none) (hn : ys.length ≤ 1000000) (hl : ys.length = zs.length)
    (he : ∀ (j : Nat) (y z : V) (σ2 : St) (H2 : Hp) (Q : VK), ys[j]? = some y → zs[j]? = some z → Same H1 H2 → σ2[i]? = some (some y) → Q z H2 → te σ2 H2 Q)
    (hd : Qd (upd H1 D (.lst zs))) : LcAsk (Itt K a) (gName i) tYes te [i] σ H1 D Qd := by
  refine lc_tup (K := K) (a := a) (xs := ys) (fun j H => H = upd H1 D (.lst (zs.take j))) rfl (fun j H _ e => ?_) (fun j x H hx e => ?_) (fun H e => ?_)
  · rw [e]
    exact SqT.of (Same.new hD _ _ _ hS)
  · subst e
    have hj : j < ys.length := (List.getElem?_eq_some_iff.mp hx).1
    have hz : zs[j]? = some zs[j] := List.getElem?_eq_getElem (by omega)
    refine ⟨wipe_set, ?_⟩
    unfold tYes
    dsimp only
    rw [if_pos rfl]
    refine he j x _ _ _ _ hx hz (Same.new hD _) (wipe_get hi) ⟨_, upd_same, ?_, ?_⟩
    · rw [List.length_take, sizeLine_eq]
      omega
    · rw [upd_upd, List.take_add_one, hz]
      rfl
  · rw [List.take_of_length_le (by omega)] at e
    rw [e]
    exact hd
theorem MakesAt.at {H : Hp} {ms : List V} {ns : List Str} (M : MakesAt H ms ns) {j : Nat} {y z : V} (hy : ms[j]? = some y) (hz : (ns.map V.str)[j]? = some z) : ∃ p n x, y = .ref p ∧ z = .str n ∧ H p = some (.tup [.str n, x]) := by
  obtain ⟨n, hn, p, x, e, q⟩ := M.get hy
  rw [List.getElem?_map, hn] at hz
  exact ⟨p, n, x, e, (Option.some.inj hz).symm, q⟩
def spDue : Sp := fun vs H Q _ => ∃ (h : Addr) (x : Str) (ns : List Str), vs = [.ref h, .str x] ∧ HistAt H h ns ∧ ns.length ≤ 100 ∧ x.length ≤ 900000 ∧ ∀ (H' : Hp) (l : Addr), Same H H' → ResAt H' l (parseF ns x) → Q (.ref l) H'
section
variable {P : Program} {w : World} {K : PySem.W.Frag} {mg : Str → Option Value} {base : Heap}
theorem ok_due {f : Addr} {fd : FuncData} (D : DefAt K mg "_law_due" sDue ["_law_history_here", "_law_text"] f fd) (T : Free mg) (rd : Callee P w K mg base CX0 42 "_law_read" ["_law_names", "_law_lines_here", "_law_at", "_law_depth"] (spRead 41)) :
    FnOk P w K mg base CX0 43 f fd ["_law_history_here", "_law_text"] spDue := by
  obtain ⟨f_read, fd_read, G_read, m_read, k_read, b_read⟩ := rd.ex
  refine D.fn.ok scDue (fun vs H Q E h => ?_) (fun cdv A outer s H vs Q E hr h => ?_)
  · obtain ⟨_, _, _, rfl, _⟩ := h
    rfl
  · obtain ⟨h, x, ns, rfl, hh, hns, hx, q⟩ := h
    refine ⟨_, (pss_cons (ps_set (i := 2) scDue.nd rfl (.inl rfl) (pe_split (pv 1) pe_str))
  (C8.pss_cut (ps_if (pt_cmpR op_eq (pe_ix ix_list (pv 2) (pe_un un_neg pe_int) (fun _ _ => rfl)) pe_str (nomark _))
  (pss_one (ps_set (i := 2) scDue.nd rfl (.inl rfl) (pe_slice sl_list (pv 2) po_none (po_some (pe_un un_neg pe_int)))))
  pss_nil)
  (pss_cons (ps_set (i := 3) scDue.nd rfl (.inl rfl) (pe_call G_read (hr.mono (by omega)) (by rfl) m_read k_read b_read .nil pass0 (pa_cons (pe_lc (own := [("_law_make", 4)]) (g := gName 4) (by rfl) scDue.nd (pi_tup (pe_ix ix_tup (pv 0) pe_int (fun _ _ => rfl))) (blkOk_by (own := [("_law_make", 4)]) (N := nDue) (sc := defScope sDue) (by decide +kernel)) (fun _ _ _ _ _ => pg_name (i := 4) scDue.nd rfl (Or.inl rfl)) (fun _ _ _ _ _ => pts_nil) (fun _ _ _ _ _ => (pe_ix (r := rIxT K) ix_tup (pv 4) pe_int (fun _ _ => rfl)))) (pa_cons (pv 2) (pa_cons pe_int (pa_cons pe_int pa_nil))))))
  (pss_cons (ps_if (PW.pt (pw_and (pt_cmpR op_notN (pe_ix ix_list (pv 3) pe_int (fun _ _ => rfl)) pe_non (nomark _)) (pw_and1 (pt_cmpR op_lt (pe_ix ix_list (pv 3) pe_int (fun _ _ => rfl)) (pe_callB call_len_seq (by rfl) T.len PySem.boot_len (pa_cons (pv 2) pa_nil)) (nomark _)))))
  (pss_one (ps_ret (pe_lst (pa_cons pe_non (pa_cons (pe_op op_add (pe_ix ix_list (pv 3) pe_int (fun _ _ => rfl)) pe_int) (pa_cons pe_str pa_nil))))))
  pss_nil)
  (pss_one (ps_ret (pv 3))))))), ?_⟩
    have hline : x.length + 2 ≤ sizeLine := by rw [sizeLine_eq]; omega
    obtain ⟨init, last, es, el⟩ := last_of (x := x)
    have md := linesOf_mod hx
    refine ⟨_, rfl, ⟨_, rfl⟩, x, _, rfl, rfl, by decide +kernel, hline, fun W nW => ?_⟩
    rw [nl_eq, es]
    have sW := Same.new nW (.lst ((init ++ [last]).map V.str))
    have hW : upd H W (.lst ((init ++ [last]).map V.str)) W = some (.lst ((init ++ [last]).map V.str)) := upd_same
    generalize upd H W (.lst ((init ++ [last]).map V.str)) = H1 at sW hW
    have e1 : (init ++ [last]).map V.str = init.map V.str ++ [V.str last] := by rw [List.map_append]; rfl
    rw [e1] at hW
    refine ⟨fun σ2 H2 => ∃ L : Addr, σ2 = [some (.ref h), some (.str x), some (.ref L), none, none] ∧ Same H H2 ∧ H2 L = some (.lst ((linesOf x).map V.str)), ?_, ?_⟩
    · refine ⟨_, rfl, _, rfl, W, _, -1, _, rfl, rfl, SqL.of hW, atI_last _ _, rfl, ?_⟩
      by_cases c : last = Str.empty
      · refine ⟨true, bl_t (by rw [c]; rfl), iteT ⟨_, rfl, _, rfl, _, rfl, W, _, rfl, SqL.of hW, fun p np => ⟨p, rfl, sW.trans (Same.new np _), ?_⟩⟩⟩
        rw [upd_same, el, if_pos c]
        exact congrArg (fun z => some (HO.lst z)) (cut_last _ _)
      · refine ⟨false, bl_f (str_ne c), iteF ⟨W, rfl, sW, ?_⟩⟩
        rw [hW, el, if_neg c, e1]
    · rintro σ2 H2 ⟨L, rfl, s2, hL⟩
      have hh2 := hh.mono (Same.tups s2)
      obtain ⟨mt, ms, g1, g2, M⟩ := id hh2
      refine ⟨_, rfl, h, _, 1, _, rfl, rfl, SqT.of g1, rfl, mt, rfl, ⟨_, SqT.of g2⟩, fun N nN => lc_zipT (zs := ns.map V.str) (by show 4 < 5; decide) g2 nN (by rw [M.length]; omega) (by rw [M.length, List.length_map]) (fun j y z σ3 H3 Q3 hy hz s3 hs q3 => ?_) ?_⟩
      · obtain ⟨p, n, x2, rfl, rfl, hp⟩ := M.at hy hz
        exact ⟨_, hs, p, _, 0, _, rfl, rfl, SqT.of (s3 _ _ hp), rfl, q3⟩
      · have sN := Same.new nN (.lst (ns.map V.str))
        refine ⟨_, rfl, N, L, 0, 0, 40, ns, linesOf x, rfl, upd_same, sN _ _ hL, Nat.le_refl _, rfl, by decide, md, fun H3 l3 s3 r3 => ?_⟩
        have s13 := s2.trans (sN.trans s3)
        have hL3 := s3 _ _ (sN _ _ hL)
        cases e : readF ns (linesOf x) 40 0 with
        | no l y =>
          rw [e] at r3
          have r3' : H3 l3 = some (.lst [.non, .int (l : Nat), .str y]) := r3
          refine ⟨_, rfl, l3, _, 0, _, rfl, rfl, SqL.of r3', rfl, rfl, false, nbl_f rfl, iteF (iteF ⟨_, rfl, q _ l3 s13 ?_⟩)⟩
          unfold parseF
          rw [e]
          exact r3'
        | ok T1 p1 =>
          rw [e] at r3
          obtain ⟨v1, r3', t1⟩ := id r3
          refine ⟨_, rfl, l3, _, 0, _, rfl, rfl, SqL.of r3', rfl, rfl, true, nbl_t (tree_ref t1), iteT ⟨_, rfl, l3, _, 1, _, rfl, rfl, SqL.of r3', rfl, _, rfl, L, _, rfl, .inl (SqL.of hL3), _, _, rfl, rfl, ?_⟩⟩
          by_cases c : p1 < (linesOf x).length
          · refine ⟨true, bl_t (by rw [List.length_map]; omega), iteT ⟨_, rfl, l3, _, 1, _, rfl, rfl, SqL.of r3', rfl, _, _, rfl, rfl, (by show 3 ≤ sizeLine; decide), fun l nl => q _ l (s13.trans (Same.new nl _)) ?_⟩⟩
            unfold parseF
            rw [e]
            show ResAt _ l (if p1 < (linesOf x).length then _ else _)
            rw [if_pos c]
            exact upd_same
          · refine ⟨false, bl_f (by rw [List.length_map]; omega), iteF ⟨_, rfl, q _ l3 s13 ?_⟩⟩
            unfold parseF
            rw [e]
            show ResAt _ l3 (if p1 < (linesOf x).length then _ else _)
            rw [if_neg c]
            exact r3
end
end FB

set_option Elab.async false
set_option linter.all false
set_option maxRecDepth 100000
set_option maxHeartbeats 8000000
set_option exponentiation.threshold 4000
/-! BadHistory.__init__: super().__init__(..), then two fields. -/
namespace FB
open PySem L2 PyProof.Rows
abbrev nBad : List Str := ["self", "line", "reason"]
/-- what the written part says of BadHistory at C (over an own class, over ValueError), of its __init__ at fI, of the cell cc that holds the class -/
structure BadTxt (K : PySem.W.Frag) (P : Program) (C fI cc cda : Addr) (fd : FuncData) : Prop where
  oex : OexC K C
  cls : ∃ nm q N bs bm sn sub ab col dd k0 k1 k2 k3 k5, K.lookup C = some (excClassObj nm q C N bs bm true sn sub ab col dd k0 k1 k2 k3 k5 "ValueError.__new__") ∧ PySem.HandSPX.refsVE bm = true ∧
    PySem.W.alongIn K "__init__" bm = some (some (.builtin "ValueError.__init__"))
  fn : ∃ (oc : Value) (od : Option Addr) (kV doc pm ct : Value) (an : Option Addr) (osl : Array (Option Value)),
    fd = PySem.W.ksFn "__init__" "BadHistory.__init__" (defArgs sBadInit) (defBody sBadInit) (defScope sBadInit) .none kV doc pm an (.ref cda) ct cc ∧ K.lookup fI = some ⟨oc, od, .func fd, osl⟩
  code : PySem.W.codeIn K (.ref cda) "BadHistory.__init__" = true
  file : ∃ (ccl : Value) (cdd : Option Addr) (vs : Array Value) (ccs : Array (Option Value)) (fl : Str) (tf : Tok), K.lookup cda = some ⟨ccl, cdd, .fields vs, ccs⟩ ∧ vs[2]? = some (.str fl tf) ∧ ((P.main.file : Str) == fl) = true
  cell : ∃ (cl : Value) (cld : Option Addr) (csl : Array (Option Value)), K.lookup cc = some ⟨cl, cld, .cell (some (.ref C)), csl⟩
  opq : PySem.W.nsIn K cStatics "thirdparty.any" = some none
  top : (P.main.scope.names.lookup ("super" : Str)).isSome = false
  sub : PySem.W.mroIn K C (.ref C) = some true
  subB : PySem.W.subIn K (.ref C) (.type "ValueError") = some true
  noL : PySem.W.findIn K (.ref C) "line" = some none
  noR : PySem.W.findIn K (.ref C) "reason" = some none
def spBad (C : Addr) : Sp := fun vs H Q _ => ∃ (a : Addr) (i : Nat) (r : Str), vs = [.ref a, .int (i : Nat), .str r] ∧ H a = some (exo a C none) ∧ i < 10 ^ 9 ∧ r.length ≤ 1000 ∧
  ∀ dx, H dx = none → dx ≠ a → Q .non (upd (upd (upd H dx (exd dx [("line", .int i)])) a (exo a C (some dx))) dx (exd dx [("reason", .str r), ("line", .int i)]))
section
variable {P : Program} {w : World} {K : PySem.W.Frag} {mg : Str → Option Value} {base : Heap}
/-- the context of the body: the cell of the class is captured -/
def cxBad (P : Program) (w : World) (K : PySem.W.Frag) (mg : Str → Option Value) (base : Heap) (fI cc cda : Addr) (A : Around) (outer : List Env) (s : Shared) (H : Hp) : Cx where
  prog := P
  w := w
  K := K
  mg := mg
  base := base
  A := A.deeper (PySem.W.ksEnv "BadHistory.__init__" (defScope sBadInit) s.heap.objs.size fI (.ref cda) cc)
  N := nBad
  s_0 := s
  H_0 := H
  env := PySem.W.ksEnv "BadHistory.__init__" (defScope sBadInit) s.heap.objs.size fI (.ref cda) cc
  outer := outer
  stack := PySem.W.ksEnv "BadHistory.__init__" (defScope sBadInit) s.heap.objs.size fI (.ref cda) cc :: outer
  ex := []
  fn := fun _ => false
  calm := true
  pn := []
  xe := fun _ _ => False
theorem bad_cells {x : Str} {c cc : Addr} (h : ([("__class__", cc)] : List (Str × Addr)).lookup x = some c) : x = "__class__" ∧ c = cc := by
  by_cases e : x = ("__class__" : Str)
  · subst e
    rw [List.lookup_cons_self] at h
    exact ⟨rfl, (Option.some.inj h).symm⟩
  · have e' : (x == ("__class__" : Str)) = false := by simpa using e
    rw [List.lookup_cons, e'] at h
    cases h
theorem bad_start {fI cc cda : Addr} {A : Around} {outer : List Env} {s : Shared} {H : Hp} {h1 : Heap} {tk : Nat} {u1 u2 u3 : Value} {v1 v2 v3 : V} (hd : A.handled = none) (e0 : Env0 P w K mg base A outer s H)
    (hcell : ∃ (cl : Value) (cld : Option Addr) (v : Option Value) (csl : Array (Option Value)), K.lookup cc = some ⟨cl, cld, .cell v, csl⟩)
    (r1 : RelV v1 u1) (r2 : RelV v2 u2) (r3 : RelV v3 u3) (hn : h1.Ns s.heap.objs.size (fun x => (nBad.zip [u1, u2, u3]).reverse.lookup x)) (hk : ∀ b o, s.heap.get? b = some o → h1.get? b = some o) :
    L2.Inv (cxBad P w K mg base fI cc cda A outer s H) [] [some v1, some v2, some v3] H { s with heap := h1, toks := tk } := by
  obtain ⟨cl, cld, v, csl, hc⟩ := hcell
  have hb := e0.mod.kin _ _ hc
  have hs := e0.bs _ _ hb
  have noA : ∀ b : Addr, b ∉ (cxBad P w K mg base fI cc cda A outer s H).ex := fun b z => absurd (show b ∈ ([] : List Addr) from z) (by simp)
  refine ⟨⟨e0.mod, rfl, rfl, rfl, Nat.le_refl _, fun y z c q1 q2 => ?_, fun y hy => ?_, fun y c q _ => Bool.noConfusion q, fun _ => hd, Around.frames_deeper e0.frames, .inr ⟨rfl, rfl⟩, fun b z => absurd z (noA b), e0.bs, e0.bsz, fun b _ _ => noA b, fun b z => absurd z (noA b), e0.funs, e0.frf⟩,
    rfl, e0.bare, Un.kept hk, ⟨_, hn, fun i y v h2 h3 _ => ?_⟩, fun y c q => ?_, e0.hok.fresh (Nat.le_refl _), fun y c q => ?_, fun p hp => absurd (show p ∈ ([] : List (Addr × Obj)) from hp) (by simp), e0.hok.kept hk, rfl⟩
  · exact (bad_cells q1).1.trans (bad_cells q2).1.symm
  · have key : ∀ p ∈ (defScope sBadInit).names, p.2 = .cell ∨ p.2 = .free → p.1 = "__class__" := by decide +kernel
    have e : y = "__class__" := by
      rcases hy with hy | hy
      · exact key _ (PySem.mem_of_lookup hy) (.inl rfl)
      · exact key _ (PySem.mem_of_lookup hy) (.inr rfl)
    subst e
    exact ⟨cc, List.lookup_cons_self ..⟩
  · have n1 : (("self" : Str) == ("reason" : Str)) = false := by decide +kernel
    have n2 : (("self" : Str) == ("line" : Str)) = false := by decide +kernel
    have n3 : (("line" : Str) == ("reason" : Str)) = false := by decide +kernel
    have el : ∀ y : Str, (nBad.zip [u1, u2, u3]).reverse.lookup y = [(("reason" : Str), u3), (("line" : Str), u2), (("self" : Str), u1)].lookup y := fun _ => rfl
    match i, h2, h3 with
    | 0, h2, h3 =>
      have e := Option.some.inj h2
      have e2 := Option.some.inj (Option.some.inj h3)
      subst e e2
      exact ⟨u1, r1, .inl ⟨rfl, (el _).trans (by rw [List.lookup_cons, n1, List.lookup_cons, n2, List.lookup_cons_self])⟩⟩
    | 1, h2, h3 =>
      have e := Option.some.inj h2
      have e2 := Option.some.inj (Option.some.inj h3)
      subst e e2
      exact ⟨u2, r2, .inl ⟨rfl, (el _).trans (by rw [List.lookup_cons, n3, List.lookup_cons_self])⟩⟩
    | 2, h2, h3 =>
      have e := Option.some.inj h2
      have e2 := Option.some.inj (Option.some.inj h3)
      subst e e2
      exact ⟨u3, r3, .inl ⟨rfl, (el _).trans (by rw [List.lookup_cons_self])⟩⟩
    | i + 3, h2, _ => exact absurd h2 (by simp [cxBad, nBad])
  · obtain ⟨_, e⟩ := bad_cells q
    subst e
    exact ⟨v, _, hk _ _ hs.1, rfl⟩
  · obtain ⟨_, e⟩ := bad_cells q
    subst e
    exact hs.2
/-- ValueError.__init__, bound to an exception that is being made, called -/
theorem call_mw {M : Model} {A : Around} {E : Value → Shared → Prop} {h : Heap} {g : Array GenState} {d : Drawn} {t : Nat} {os : OsState} {C u a t0 : Addr} {rest : List Value} {Q : Value → Shared → Prop}
    {nm q : Str} {N : Addr} {bs bm : List Value} {sn : List Str} {sub : List Value} {ab : Bool} {col : Option Bool} {dd : Option Addr} {k0 k1 k2 k3 k5 : Option Value}
    (hC : h.get? C = some (excClassObj nm q C N bs bm true sn sub ab col dd k0 k1 k2 k3 k5 "ValueError.__new__")) (hu : h.get? u = some (PySem.W.kxs_mw "ValueError.__init__" a))
    (he : h.get? a = some ({ cls := .ref C, dict := none, data := .fields #[.ref t0, .none, .none, .none, .bool false, .none] } : Obj)) (hr : rest.length ≤ sizeLine)
    (hq : ∀ h' t1, (∀ b o, b ≠ a → h.get? b = some o → h'.get? b = some o) → h'.get? a = some ({ cls := .ref C, dict := none, data := .fields #[.ref t1, .none, .none, .none, .bool false, .none] } : Obj) → Q .none ⟨h', g, d, t, os⟩) :
    wpAny (model P w) A (call (.ref u) rest) Q E ⟨h, g, d, t, os⟩ := by
  have c1 : (Value.type "method-wrapper" == Value.type "method" || Value.type "method-wrapper" == Value.type "builtin_function_or_method" || Value.type "method-wrapper" == Value.type "method-wrapper") = true := by decide
  refine wpAny_call (codeAny_of_tree ?_)
  show wpAny _ A.in1 (callAny (.ref u) ⟨rest, []⟩) _ _ _
  simp only [callAny]
  refine wpAny_bind (wpAny_load hu ?_)
  simp only [PySem.W.kxs_mw, c1, if_true]
  refine PySem.W.KFB.if_so (by decide) ?_
  refine wpAny_bind (PySem.W.check_bound_init F.excBase_ValueError.toExcCallFacts hC he rfl ?_)
  refine wpAny_bind (wpAny_pure (wpAny_pure ⟨plainId_quiet F.excBase_ValueError.init.plain _, codeAny_builtin F.excBase_ValueError.initEntry ?_⟩))
  exact PySem.W.exc_init_tree (cls := .ref C) (t0 := t0) (dv := none) (c2 := .none) (c3 := .none) (b4 := .bool false) he hr fun h' k e _ => hq h' _ k e
theorem numN_len {i : Nat} (h : i < 10 ^ 9) : (Str.ofString (toString ((i : Nat) : Int))).length ≤ 9 := by
  have e := TL.tl_num i
  rw [show (Str.ofString (toString ((i : Nat) : Int))).length = (TL.tl (Str.ofString (toString ((i : Nat) : Int)))).length from by simp [TL.tl, Str.length], e]
  exact TL.numL_len (k := 9) (by decide) h
theorem cw_mw {M : Model} {A : Around} {E : Value → Shared → Prop} {i : String} {u x : Addr} {pos : Pos} {env : Env} {e : Expr} {rest : List Expr} {Q : Value → Shared → Prop} {s : Shared}
    (h : wpAny M A (spliced (backTo pos (starEach (e :: rest) env))) (fun vs s1 => PySem.W.KxsAt i u x s1.heap ∧ wpAny M A (call (.ref u) vs) Q E s1) E s)
    (he : starEach (e :: rest) env = (false, eval e env) :: starEach rest env := by rfl) (hpl : (backTo pos (starEach rest env)).any (·.1) = false := by rfl) :
    wpAny M A (callWith pos (.ref u) [] (backTo pos (starEach (e :: rest) env)) []) Q E s := by
  rw [he] at h ⊢
  refine PySem.W.kxs_callWith (i := i) (x := x) (by show (false || (backTo pos (starEach rest env)).any (·.1)) = false; rw [hpl]; rfl) ?_
  exact Calls.evalArgs_plain h
/-- super().__init__(str(line) + ": " + reason) -/
theorem bad_super {C fI cc cda : Addr} {fd : FuncData} (T : Free mg) (hsu : mg "super" = none) (B : BadTxt K P C fI cc cda fd) {A : Around} {outer : List Env} {s s1 : Shared} {H : Hp} {a : Addr} {i : Nat} {rz : Str}
    (I : L2.Inv (cxBad P w K mg base fI cc cda A outer s H) [] [some (.ref a), some (.int (i : Nat)), some (.str rz)] H s1) (ha : H a = some (exo a C none)) (hi : i < 10 ^ 9) (hrl : rz.length ≤ 1000) :
    PySem.wpAt (model P w) (cxBad P w K mg base fI cc cda A outer s H).A (.func (defBody sBadInit) (cxBad P w K mg base fI cc cda A outer s H).env) (exec ((defBody sBadInit).getD 0 (.Pass ⟨0, 0, 0, 0⟩)) (cxBad P w K mg base fI cc cda A outer s H).env)
      (fun f s' => f = .next ∧ L2.Inv (cxBad P w K mg base fI cc cda A outer s H) [] [some (.ref a), some (.int (i : Nat)), some (.str rz)] H s') (fun _ _ => False) s1 := by
  obtain ⟨oc, od, kV, doc, pm, ct, an, osl, rfl, lk⟩ := B.fn
  obtain ⟨cl, cld, csl, hcc⟩ := B.cell
  obtain ⟨ccl, cdd, vs, ccs, fl, tf, hcda, hvs, hfile⟩ := B.file
  obtain ⟨nm, q, N, bs, bm, sn, sub, ab, col, dd, k0, k1, k2, k3, k5, hC, hbm, hal⟩ := B.cls
  have X1 : K.In s1.heap := I.kIn
  obtain ⟨mb, hb1, hb2⟩ := I.mod.blt
  obtain ⟨t1, ho⟩ := exo_at I.hok ha
  obtain ⟨m, hns, hloc⟩ := id I.loc
  obtain ⟨u0, ru, lu⟩ := hloc 0 "self" (.ref a) rfl rfl (.inl rfl)
  have hself : m "self" = some (.ref a) := by
    rcases lu with ⟨_, e⟩ | ⟨e, _⟩
    · rw [e, show u0 = Value.ref a from ru]
    · have n1 : (defScope sBadInit).names.lookup ("self" : Str) = some .local := by decide +kernel
      rcases e with e | e
      · exact absurd (n1.symm.trans e) (by decide)
      · exact absurd (n1.symm.trans e) (by decide)
  have kS : (defScope sBadInit).names.lookup ("super" : Str) = some .globalImplicit := by decide +kernel
  have kC : (defScope sBadInit).names.lookup ("__class__" : Str) = some .free := by decide +kernel
  have kF : (defScope sBadInit).names.lookup ("self" : Str) = some .local := by decide +kernel
  obtain ⟨hh, g, d, t, os⟩ := s1
  refine ks_wpAt_Expr_any (ks_wpAt_MethodCall ?_)
  refine ks_wpAt_super_base (f := fI) (cc := cda) kS kC (by decide +kernel) rfl (X1 _ _ lk) rfl rfl rfl (X1 _ _ hcda) rfl hvs hfile B.top ?_
  refine PySem.W.ks_loadName_global rfl kS (Calls.loadGlobal_builtin (mg := mg) (mb := mb) (I.mod.glob.keeps I.bk) hsu (hb1.keeps I.bk) ((hb2 _ (by decide +kernel)).trans (by decide +kernel)) ⟨rfl, ?_⟩)
  refine wpAny_loadName_free rfl kC (List.lookup_cons_self ..) ⟨_, X1 _ _ hcc, rfl⟩ ?_
  refine wpAny_loadName_local rfl kF hns hself ?_
  refine ks_wpAny_isType_cls (X1 _ _ hC) rfl ⟨rfl, ?_⟩
  refine ks_wpAny_call_super (X1 _ _ hC) rfl ho rfl (fun c e => nomatch e) (PySem.W.looks_mroIn X1 B.sub) (fun h2 hso k2 => ?_)
  have X2 : K.In h2 := X1.keeps k2
  have naC : a ≠ C := fun e => by
    subst e
    rw [X1 _ _ hC] at ho
    cases ho
  have hcl : PySem.W.clsIn K C = some { name := nm, bases := bs, mro := .ref C :: bm, ns := N, qualname := q, hasDict := true, slotNames := sn, subclasses := sub, abstract := ab, collection := col, hasDel := false } := by unfold PySem.W.clsIn; rw [hC] <;> rfl
  have J2 : PySem.W.InstAt h2 a { cls := .ref C, dict := none, data := .fields #[.ref t1, .none, .none, .none, .bool false, .none] } C none := ⟨k2 _ _ ho, rfl, rfl, trivial⟩
  refine PySem.W.kxs_getMethod PySem.W.kxs_ValueError hso (PySem.W.looks_opaque X2 B.opq) (l₀ := .ref C :: bm) ?_ (by simp [List.dropWhile_cons]) X2 hal (J2.type.andThen (PySem.W.looks_subIn X2 B.subB)) naC (by decide +kernel) ?_
  · exact fun A Q E s k q => wpAny_bind ((PySem.W.looks_clsIn X2 hcl) A _ E s k (wpAny_pure q))
  -- the bound __init__ is called
  have I2 : L2.Inv (cxBad P w K mg base fI cc cda A outer s H) [] [some (.ref a), some (.int (i : Nat)), some (.str rz)] H ⟨h2.push (PySem.W.kxs_mw "ValueError.__init__" a), g, d, t + 1, os⟩ :=
    I.kept (t' := t + 1) fun b o e => Heap.get?_push_of_some _ (k2 b o e)
  have hu : (h2.push (PySem.W.kxs_mw "ValueError.__init__" a)).get? h2.objs.size = some (PySem.W.kxs_mw "ValueError.__init__" a) := Heap.get?_push_size _ rfl
  have hlt : hh.objs.size ≤ h2.objs.size := Nat.le_of_lt (Heap.lt_size hso)
  have I3 : L2.Inv (cxBad P w K mg base fI cc cda A outer s H) [(h2.objs.size, PySem.W.kxs_mw "ValueError.__init__" a)] [some (.ref a), some (.int (i : Nat)), some (.str rz)] H ⟨h2.push (PySem.W.kxs_mw "ValueError.__init__" a), g, d, t + 1, os⟩ := by
    refine I2.pins_of fun p hp => ?_
    have e : p = (h2.objs.size, PySem.W.kxs_mw "ValueError.__init__" a) := List.mem_singleton.mp hp
    subst e
    exact ⟨hu, I.hok.fresh hlt, Nat.ne_of_gt (Nat.lt_of_lt_of_le I.lt hlt), I.nofs hlt, fun v z => nomatch z⟩
  have glS : Gl (cxBad P w K mg base fI cc cda A outer s H) "str" := by
    show (defScope sBadInit).names.lookup ("str" : Str) = some .globalImplicit
    decide +kernel
  refine cw_mw (i := "ValueError.__init__") (x := a) ?_
  refine thn ((show PA (cxBad P w K mg base fI cc cda A outer s H) [_] _ from pa_cons (pe_op op_add_str (pe_op op_add_str (pe_callTy call_str_int glS T.str (by decide +kernel) (pa_cons (pv 1) pa_nil)) pe_str) (pv 2)) pa_nil).run _ _ _ _ _ (fun ws H' => H' = H ∧ ws.length = 1) I3 ?_) fun us s3 ⟨ws, H3, J, rr, e1, e2⟩ => ?_
  · refine ⟨_, rfl, _, rfl, ?_, _, _, rfl, rfl, ?_, _, rfl, _, _, rfl, rfl, ?_, rfl, rfl⟩
    · rw [Int.natAbs_natCast]
      by_cases i0 : i = 0
      · subst i0
        decide
      · exact (Nat.log2_lt i0).mpr (Nat.lt_of_lt_of_le hi (Nat.le_trans (by decide : 10 ^ 9 ≤ 2 ^ 30) (Nat.pow_le_pow_right (by decide) (by decide))))
    · have := numN_len hi
      rw [sizeLine_eq, show (Str.ofString ": ").length = 2 from rfl]
      omega
    · have := numN_len hi
      rw [sizeLine_eq, Str.length_append, show (Str.ofString ": ").length = 2 from rfl]
      omega
  · subst e1
    have hu3 : s3.heap.get? h2.objs.size = some (PySem.W.kxs_mw "ValueError.__init__" a) := (J.pin (h2.objs.size, PySem.W.kxs_mw "ValueError.__init__" a) (List.mem_append_right _ (List.mem_singleton.mpr rfl))).1
    obtain ⟨t3, ho3⟩ := exo_at J.hok ha
    obtain ⟨h3, g3, d3, tk3, os3⟩ := s3
    refine ⟨hu3, call_mw (M := model P w) (J.kIn _ _ hC) hu3 ho3 (by rw [← Paired.length rr, e2]; decide) fun h' t4 k hx => ⟨rfl, ?_⟩⟩
    have J4 := J.write (t' := tk3) (x := a) (e := a) (o := exo a C none) (by rw [ha]; exact True.intro) (.inl rfl) k ⟨_, hx⟩ (exo_ok hx)
    have eu : upd H3 a (exo a C none) = H3 := by
      funext b
      by_cases hb : b = a
      · rw [hb, upd_same, ha]
      · rw [upd_ne hb]
    rw [eu] at J4
    exact J4.pins_of fun p hp => nomatch hp
/-- BadHistory.__init__ -/
theorem ok_bad {C fI cc cda : Addr} {fd : FuncData} (hsu : mg "super" = none) (T : Free mg) (B : BadTxt K P C fI cc cda fd) : FnOk P w K mg base CX0 1 fI fd nBad (spBad C) := by
  refine ⟨fun vs H Q E h => ?_, fun A outer s H args us vs Q E hr e0 hb r hsp => ?_⟩
  · obtain ⟨a, i, z, rfl, _⟩ := h
    rfl
  · obtain ⟨a, i, z, rfl, ha, hi, hz, q⟩ := hsp
    obtain ⟨oc, od, kV, doc, pm, ct, an, osl, hfd, lk⟩ := B.fn
    obtain ⟨cl, cld, csl, hcc⟩ := id B.cell
    cases r with
    | @cons _ u1 _ us1 r1 rr =>
    cases rr with
    | @cons _ u2 _ us2 r2 rr =>
    cases rr with
    | @cons _ u3 _ us3 r3 rr =>
    cases rr
    have KX : K.In s.heap := e0.mod.kin.keeps fun b o e => (e0.bs b o e).1
    have lim : s.heap.NoLimit := e0.mod.nolimit.keeps fun b o e => (e0.bs b o e).1
    have hcode : s.heap.CodeRec fd.code fd.qualname := by
      rw [hfd]
      exact PySem.W.codeRec_of KX B.code
    refine ks_codeAny_call_defAt (body := defBody sBadInit) hr.depth (KX _ _ lk) rfl lim hcode (by rw [hfd]) hb ?_ ?_ (fun h0 hns hk => ?_) ?_ ?_ ?_
    · rw [hfd]
      have key : ∀ x ∈ (defScope sBadInit).names, x.2 ≠ .cell := by decide +kernel
      exact key
    · rw [hfd]
      have key : ∀ x ∈ nBad, (defScope sBadInit).names.lookup x = some .local := by decide +kernel
      exact fun x hx => key _ (List.of_mem_zip hx).1
    · subst hfd
      have I := bad_start (h1 := h0) (tk := s.toks + 3) (fI := fI) (cc := cc) (cda := cda) hr.hd e0 ⟨cl, cld, _, csl, hcc⟩ r1 r2 r3 hns hk
      show PySem.wpAt (model P w) (cxBad P w K mg base fI cc cda A outer s H).A (.func (defBody sBadInit) (cxBad P w K mg base fI cc cda A outer s H).env) (execs (defBody sBadInit) (cxBad P w K mg base fI cc cda A outer s H).env) _ _ _
      refine ks_wpAt_mono (Q := fun f s' => ∃ v, (match f with | .ret v => v | _ => Value.none) = v ∧ CE outer P w H s Q v s') (E := fun _ _ => False) ?_ (fun f s' ⟨v, ev, h⟩ => ?_) (fun _ _ h => h.elim)
      · refine ks_wpAt_execs_cons (ks_wpAt_mono (bad_super T hsu B I ha hi hz) (fun f s' ⟨ef, J⟩ => ?_) (fun _ _ h => h))
        subst ef
        refine wpAt_of_wpAny (thn ((show PSs (cxBad P w K mg base fI cc cda A outer s H) [_, _] _ from pss_cons (ps_ost (pv 0) (pv 1)) (pss_one (ps_ost (pv 0) (pv 2)))).run _ _ _ _ { nx := fun _ H' => Q .non H', rt := fun _ _ => False } J ?_) fun fl s2 hs => ?_)
        · refine ⟨_, rfl, _, rfl, a, C, rfl, B.oex, B.noL, .inl ⟨ha, fun dx n ne => ⟨_, rfl, _, rfl, a, C, rfl, B.oex, B.noR, .inr ⟨dx, _, upd_same, ?_, ?_, q dx n ne⟩⟩⟩⟩
          · rw [upd_ne ne, upd_same]
          · exact (by decide : 1 ≤ 900)
        · cases fl with
          | ret u =>
            obtain ⟨v, σ', H', J, rv, q⟩ := hs
            exact q.elim
          | next =>
            obtain ⟨σ', H', J, q⟩ := hs
            exact ⟨_, rfl, .non, H', J.os, J.bare, J.base, J.hok, rfl, q⟩
          | brk =>
            obtain ⟨_, _, _, q⟩ := hs
            exact q.elim
          | cont =>
            obtain ⟨_, _, _, q⟩ := hs
            exact q.elim
      · subst ev
        exact h
    · rw [hfd]; rfl
    · rw [hfd]; rfl
    · rw [hfd]; rfl
end
end FB

set_option Elab.async false
set_option linter.all false
set_option maxRecDepth 100000
set_option maxHeartbeats 8000000
/-! The reader is made; a bad history is raised. -/
namespace FB
open PySem L2
def rf (n l p : V) : List (Str × V) := [("names", n), ("lines", l), ("place", p)]
abbrev rf1 (n : V) : List (Str × V) := [("names", n)]
abbrev rf2 (n l : V) : List (Str × V) := [("names", n), ("lines", l)]
theorem nl_ : ¬ (("names" : Str) = "lines") := by decide +kernel
theorem np_ : ¬ (("names" : Str) = "place") := by decide +kernel
theorem lp_ : ¬ (("lines" : Str) = "place") := by decide +kernel
theorem put1 (n : V) : putF "names" n [] = (rf1 (n)) := rfl
theorem put2 (n l : V) : putF "lines" l (rf1 (n)) = (rf2 (n) (l)) := by
  show (if ("names" : Str) = "lines" then _ else (("names" : Str), n) :: [(("lines" : Str), l)]) = rf2 n l
  rw [if_neg nl_]
theorem put2' (n l l2 : V) : putF "lines" l2 (rf2 (n) (l)) = (rf2 (n) (l2)) := by
  show (if ("names" : Str) = "lines" then (("names" : Str), l2) :: [(("lines" : Str), l)] else (("names" : Str), n) :: (if ("lines" : Str) = "lines" then [(("lines" : Str), l2)] else (("lines" : Str), l) :: [(("lines" : Str), l2)])) = rf2 n l2
  rw [if_neg nl_, if_pos rfl]
theorem put3 (n l p : V) : putF "place" p (rf2 (n) (l)) = rf n l p := by
  show (if ("names" : Str) = "place" then (("names" : Str), p) :: [(("lines" : Str), l)] else (("names" : Str), n) :: (if ("lines" : Str) = "place" then (("lines" : Str), p) :: [] else (("lines" : Str), l) :: [(("place" : Str), p)])) = rf n l p
  rw [if_neg np_, if_neg lp_]
  rfl
theorem put3' (n l p p2 : V) : putF "place" p2 (rf n l p) = rf n l p2 := by
  show (if ("names" : Str) = "place" then (("names" : Str), p2) :: [(("lines" : Str), l), (("place" : Str), p)] else (("names" : Str), n) :: (if ("lines" : Str) = "place" then (("lines" : Str), p2) :: [(("place" : Str), p)] else (("lines" : Str), l) :: (if ("place" : Str) = "place" then [(("place" : Str), p2)] else (("place" : Str), p) :: [(("place" : Str), p2)]))) = rf n l p2
  rw [if_neg np_, if_neg lp_, if_pos rfl]
  rfl
theorem bq {a b : Str} (h : ¬ a = b) : (a == b) = false := by simpa using h
theorem rf_names (n l p : V) : (rf n l p).lookup ("names" : Str) = some n := List.lookup_cons_self ..
theorem rf_lines (n l p : V) : (rf n l p).lookup ("lines" : Str) = some l := by
  unfold rf
  rw [List.lookup_cons, bq (fun e => nl_ e.symm), List.lookup_cons_self]
theorem rf_place (n l p : V) : (rf n l p).lookup ("place" : Str) = some p := by
  unfold rf
  rw [List.lookup_cons, bq (fun e => np_ e.symm), List.lookup_cons, bq (fun e => lp_ e.symm), List.lookup_cons_self]
theorem rf_no (n l p : V) {m : Str} (h1 : ¬ m = "names") (h2 : ¬ m = "lines") (h3 : ¬ m = "place") : (rf n l p).lookup m = none := by
  unfold rf
  rw [List.lookup_cons, bq h1, List.lookup_cons, bq h2, List.lookup_cons, bq h3]
  rfl
theorem two_lines (n l : V) : (rf2 n l).lookup ("lines" : Str) = some l := by
  rw [List.lookup_cons, bq (fun e => nl_ e.symm), List.lookup_cons_self]
/-- the class of readers: its facts -/
structure RdC (K : PySem.W.Frag) (C : Addr) : Prop where
  cl : Cls K C
  nN : NoAttr K C "names"
  nL : NoAttr K C "lines"
  nP : NoAttr K C "place"
/-- a reader at r: the names, the lines, its place -/
structure RdAt (C : Addr) (H : Hp) (r N L : Addr) (ns ls : List Str) (p : Nat) : Prop where
  ins : ∃ dx, H r = some (.ins C dx (rf (.ref N) (.ref L) (.int (p : Nat))))
  names : H N = some (.lst (ns.map V.str))
  lines : H L = some (.lst (ls.map V.str))
theorem ne_ins {H : Hp} {C r dx p : Addr} {fs : List (Str × V)} {xs : List V} (h : H r = some (.ins C dx fs)) (q : H p = some (.lst xs)) : p ≠ r := fun e => by
  rw [e, h] at q
  cases q
theorem RdAt.same {C r N L : Addr} {H H' : Hp} {ns ls : List Str} {p : Nat} (h : RdAt C H r N L ns ls p) (s : Same H H') : RdAt C H' r N L ns ls p := by
  obtain ⟨dx, h1⟩ := h.ins
  exact ⟨⟨dx, s _ _ h1⟩, s _ _ h.names, s _ _ h.lines⟩
theorem RdAt.set {C r N L dx : Addr} {H : Hp} {ns ls : List Str} {p : Nat} (h : RdAt C H r N L ns ls p) (q : Nat) : RdAt C (upd H r (.ins C dx (rf (.ref N) (.ref L) (.int (q : Nat))))) r N L ns ls q := by
  obtain ⟨d, h1⟩ := h.ins
  exact ⟨⟨dx, upd_same⟩, by rw [upd_ne (ne_ins h1 h.names)]; exact h.names, by rw [upd_ne (ne_ins h1 h.lines)]; exact h.lines⟩
def spInit (C : Addr) : Sp := fun vs H Q _ => ∃ (r h dx : Addr) (x : Str) (ns : List Str), vs = [.ref r, .ref h, .str x] ∧ H r = some (.ins C dx []) ∧ HistAt H h ns ∧ ns.length ≤ 100 ∧ x.length ≤ 900000 ∧
  ∀ (H' : Hp) (N L : Addr), ButAt r H H' → RdAt C H' r N L ns (linesOf x) 0 → Q .non H'
section
variable {P : Program} {w : World} {K : PySem.W.Frag} {mg : Str → Option Value} {base : Heap}
theorem ok_rdInit {C f : Addr} {fd : FuncData} (F : Fun K "__init__" "Reader.__init__" sRdInit f fd) (T : Free mg) (R : RdC K C) : FnOk P w K mg base CX0 1 f fd ["self", "history", "text"] (spInit C) := by
  refine F.ok scRdInit (fun vs H Q E h => ?_) (fun cdv A outer s H vs Q E hr h => ?_)
  · obtain ⟨_, _, _, _, _, rfl, _⟩ := h
    rfl
  · obtain ⟨r, h, dx, x, ns, rfl, hI, hh, hns, hx, q⟩ := h
    refine ⟨_, (pss_cons (ps_fld (pv 0) (pe_lc (own := [("make", 3)]) (g := gName 3) (by rfl) scRdInit.nd (pi_tup (pe_ix ix_tup (pv 1) pe_int (fun _ _ => rfl))) (blkOk_by (own := [("make", 3)]) (N := nRdInit) (sc := defScope sRdInit) (by decide +kernel)) (fun _ _ _ _ _ => pg_name (i := 3) scRdInit.nd rfl (Or.inl rfl)) (fun _ _ _ _ _ => pts_nil) (fun _ _ _ _ _ => (pe_ix (r := rIxT K) ix_tup (pv 3) pe_int (fun _ _ => rfl)))) rfl)
  (pss_cons (ps_fld (pv 0) (pe_split (pv 2) pe_str) rfl)
  (C8.pss_cut (ps_if (pt_cmpR op_eq (pe_ix ix_list (pe_fld (pv 0) rfl) (pe_un un_neg pe_int) (fun _ _ => rfl)) pe_str (nomark _))
  (pss_one (ps_fld (pv 0) (pe_slice sl_list (pe_fld (pv 0) rfl) po_none (po_some (pe_un un_neg pe_int))) rfl))
  pss_nil)
  (pss_one (ps_fld (pv 0) pe_int rfl))))), ?_⟩
    have hline : x.length + 2 ≤ sizeLine := by rw [sizeLine_eq]; omega
    obtain ⟨init, last, es, el⟩ := last_of (x := x)
    obtain ⟨mt, ms, g1, g2, M⟩ := id hh
    refine ⟨_, rfl, h, _, 1, _, rfl, rfl, SqT.of g1, rfl, mt, rfl, ⟨_, SqT.of g2⟩, fun N nN => lc_zipT (zs := ns.map V.str) (by show 3 < 4; decide) g2 nN (by rw [M.length]; omega) (by rw [M.length, List.length_map]) (fun j y z σ3 H3 Q3 hy hz s3 hs q3 => ?_) ?_⟩
    · obtain ⟨p, n, x2, rfl, rfl, hp⟩ := M.at hy hz
      exact ⟨_, hs, p, _, 0, _, rfl, rfl, SqT.of (s3 _ _ hp), rfl, q3⟩
    · have sN := Same.new nN (.lst (ns.map V.str))
      have hN : upd H N (.lst (ns.map V.str)) N = some (.lst (ns.map V.str)) := upd_same
      have hI1 := sN _ _ hI
      generalize upd H N (.lst (ns.map V.str)) = H1 at sN hN hI1
      refine ⟨_, rfl, r, C, dx, [], rfl, hI1, R.cl, R.nN, (by show 0 < 1000; decide), ?_⟩
      rw [put1]
      have hN2 : upd H1 r (.ins C dx (rf1 (V.ref N))) N = some (.lst (ns.map V.str)) := by
        rw [upd_ne (ne_ins hI1 hN)]
        exact hN
      have b2 : ButAt r H (upd H1 r (.ins C dx (rf1 (V.ref N)))) := (ButAt.of sN).trans (ButAt.upd r H1 _)
      have hI2 : upd H1 r (.ins C dx (rf1 (V.ref N))) r = some (.ins C dx (rf1 (V.ref N))) := upd_same
      generalize upd H1 r (.ins C dx (rf1 (V.ref N))) = H2 at hN2 b2 hI2
      refine ⟨_, rfl, ⟨_, rfl⟩, x, _, rfl, rfl, by decide +kernel, hline, fun W nW => ?_⟩
      rw [nl_eq, es]
      have sW := Same.new nW (.lst ((init ++ [last]).map V.str))
      refine ⟨_, rfl, r, C, dx, _, rfl, sW _ _ hI2, R.cl, R.nL, (by show 1 < 1000; decide), ?_⟩
      rw [put2]
      have hW : upd H2 W (.lst ((init ++ [last]).map V.str)) W = some (.lst ((init ++ [last]).map V.str)) := upd_same
      have hI3 := sW _ _ hI2
      have b3 := b2.trans (.of sW)
      have hN3 := sW _ _ hN2
      generalize upd H2 W (.lst ((init ++ [last]).map V.str)) = H3 at hW hI3 b3 hN3
      have e1 : (init ++ [last]).map V.str = init.map V.str ++ [V.str last] := by rw [List.map_append]; rfl
      rw [e1] at hW
      have b4 := b3.trans (ButAt.upd r H3 (.ins C dx (rf2 (V.ref N) (V.ref W))))
      have hN4 : upd H3 r (.ins C dx (rf2 (V.ref N) (V.ref W))) N = some (.lst (ns.map V.str)) := by
        rw [upd_ne (ne_ins hI3 hN3)]
        exact hN3
      have hW4 : upd H3 r (.ins C dx (rf2 (V.ref N) (V.ref W))) W = some (.lst (init.map V.str ++ [V.str last])) := by
        rw [upd_ne (ne_ins hI3 hW)]
        exact hW
      have hI4 : upd H3 r (.ins C dx (rf2 (V.ref N) (V.ref W))) r = some (.ins C dx (rf2 (V.ref N) (V.ref W))) := upd_same
      generalize upd H3 r (.ins C dx (rf2 (V.ref N) (V.ref W))) = H4 at b4 hN4 hW4 hI4
      refine ⟨fun σ2 H5 => ∃ L : Addr, σ2 = [some (.ref r), some (.ref h), some (.str x), none] ∧ ButAt r H H5 ∧ H5 N = some (.lst (ns.map V.str)) ∧ H5 L = some (.lst ((linesOf x).map V.str)) ∧ H5 r = some (.ins C dx (rf2 (V.ref N) (V.ref L))), ?_, ?_⟩
      · refine ⟨_, rfl, r, C, dx, _, _, rfl, hI4, R.cl, R.nL, two_lines _ _, _, rfl, W, _, -1, _, rfl, rfl, SqL.of hW4, atI_last _ _, rfl, ?_⟩
        by_cases c : last = Str.empty
        · refine ⟨true, bl_t (by rw [c]; rfl), iteT ⟨_, rfl, r, C, dx, _, _, rfl, hI4, R.cl, R.nL, two_lines _ _, _, rfl, _, rfl, W, _, rfl, SqL.of hW4, fun p np => ?_⟩⟩
          have sP := Same.new np (.lst (cutV (init.map V.str ++ [V.str last]) none (some (-1))))
          refine ⟨_, rfl, r, C, dx, _, rfl, sP _ _ hI4, R.cl, R.nL, (by show 2 < 1000; decide), p, rfl, (b4.trans (.of sP)).trans (ButAt.upd r _ _), ?_, ?_, ?_⟩
          · rw [upd_ne (ne_ins (sP _ _ hI4) (sP _ _ hN4))]
            exact sP _ _ hN4
          · rw [upd_ne (ne_ins (sP _ _ hI4) upd_same), upd_same, el, if_pos c]
            exact congrArg (fun z => some (HO.lst z)) (cut_last _ _)
          · rw [upd_same, put2']
        · refine ⟨false, bl_f (str_ne c), iteF ⟨W, rfl, b4, hN4, ?_, hI4⟩⟩
          rw [hW4, el, if_neg c, e1]
      · rintro σ2 H5 ⟨L, rfl, b5, hN5, hL5, hI5⟩
        refine ⟨_, rfl, r, C, dx, _, rfl, hI5, R.cl, R.nP, (by show 2 < 1000; decide), ?_⟩
        rw [put3]
        exact q _ N L (b5.trans (ButAt.upd r _ _)) ⟨⟨dx, upd_same⟩, by rw [upd_ne (ne_ins hI5 hN5)]; exact hN5, by rw [upd_ne (ne_ins hI5 hL5)]; exact hL5⟩
end
end FB

set_option Elab.async false
set_option linter.all false
set_option maxRecDepth 100000
set_option maxHeartbeats 8000000
/-! The reader's words; the promise of what is raised. -/
namespace FB
open PySem L2
def badX (ln : Nat) (why : Str) : List (Str × V) := [("reason", .str why), ("line", .int (ln : Nat))]
/-- BadHistory may be made and raised -/
structure BadUse (P : Program) (w : World) (K : PySem.W.Frag) (mg : Str → Option Value) (base : Heap) (CB : Addr) : Prop where
  oex : OexC K CB
  gl : mg "BadHistory" = some (.ref CB)
  ex : ∃ (fI : Addr) (fd : FuncData), PySem.W.findIn K (.ref CB) "__init__" = some (some (.ref fI)) ∧ PySem.W.typeIn K (.ref fI) = some (.type "function") ∧ FnOk P w K mg base CX0 1 fI fd nBad (spBad CB) ∧ Binds K fd nBad []
/-- what is promised where BadHistory(ln, why) is let out: all but the reader r as it was -/
def Bads (CB r : Addr) (H : Hp) (E : XK) (ln : Nat) (why : Str) : Prop := ∀ (d : Addr) (H' : Hp), ButAt r H H' → H' d = some (.xd (badX ln why)) → E (.ref CB) (some d) H'
theorem Bads.of {CB r : Addr} {H H1 : Hp} {E : XK} {ln : Nat} {why : Str} (h : Bads CB r H E ln why) (b : ButAt r H H1) : Bads CB r H1 E ln why := fun d H' b' e => h d H' (b.trans b') e
theorem bad_made {CB r : Addr} {H1 : Hp} {E : XK} {i : Nat} {z : Str} (hi : i < 10 ^ 9) (hz : z.length ≤ 1000) (k : Bads CB r H1 E i z) :
    ([V.int (i : Nat), V.str z]).length ≤ 1000 ∧ ∀ a, H1 a = none → spBad CB (.ref a :: ([V.int (i : Nat), V.str z] ++ [])) (upd H1 a (exo a CB none))
      (fun v H2 => v = .non ∧ ∃ (d : Addr) (fs : List (Str × V)), H2 a = some (exo a CB (some d)) ∧ H2 d = some (exd d fs) ∧ H1 d = none ∧ E (.ref CB) (some d) (upd (del H2 a) d (.xd fs))) (fun _ _ _ => False) := by
  refine ⟨(by show 2 ≤ 1000; decide), fun a na => ⟨a, i, z, rfl, upd_same, hi, hz, fun dx nd ne => ⟨rfl, dx, badX i z, ?_, upd_same, ?_, k dx _ ?_ upd_same⟩⟩⟩
  · rw [upd_ne (Ne.symm ne), upd_same]
  · rw [upd_ne ne] at nd
    exact nd
  · intro p o _ q
    have nd' : H1 dx = none := by
      rw [upd_ne ne] at nd
      exact nd
    have n1 := ne_of_none q na
    have n2 := ne_of_none q nd'
    rw [upd_ne n2, del_ne n1, upd_ne n2, upd_ne n1, upd_ne n2, upd_ne n1]
    exact q
def spWords (C CB : Addr) : Sp := fun vs H Q E => ∃ (r N L : Addr) (d p : Nat) (ns ls : List Str), vs = [.ref r, .int (d : Nat)] ∧ RdAt C H r N L ns ls p ∧ d ≤ 40 ∧ Mod ls ∧
  (¬ p < ls.length → Bads CB r H E (ls.length + 1) (S "not ended")) ∧
  (∀ line, ls[p]? = some line → ¬ headOf line d = sp d → Bads CB r H E (p + 1) (S "unknown line")) ∧
  (∀ line, ls[p]? = some line → headOf line d = sp d → ∀ (H' : Hp) (W : Addr), ButAt r H H' → RdAt C H' r N L ns ls (p + 1) → H' W = some (.lst ((Txt.split (tailOf line d) blank).map V.str)) → W ≠ r → Q (.ref W) H')
section
variable {P : Program} {w : World} {K : PySem.W.Frag} {mg : Str → Option Value} {base : Heap}
theorem ok_words {C CB f : Addr} {fd : FuncData} (F : Fun K "words" "Reader.words" sRdWords f fd) (T : Free mg) (R : RdC K C) (BU : BadUse P w K mg base CB) : FnOk P w K mg base (L2.CX P w) 3 f fd ["self", "depth"] (spWords C CB) := by
  obtain ⟨fI, fdI, iC, tI, G_bad, b_bad⟩ := BU.ex
  refine F.okX scRdWords (fun vs H Q E h => ?_) (fun cdv A outer s H vs Q E hr h => ?_)
  · obtain ⟨_, _, _, _, _, _, _, rfl, _⟩ := h
    rfl
  · obtain ⟨r, N, L, d, p, ns, ls, rfl, rd, hd, md, q1, q2, q3⟩ := h
    refine ⟨_, (pss_cons (ps_if (pt_cmpR op_ge (pe_fld (pv 0) rfl) (pe_callB call_len_seq (by rfl) T.len PySem.boot_len (pa_cons (pe_fld (pv 0) rfl) pa_nil)) (nomark _))
  (pss_one (ps_raise rfl (takes_of rfl rfl rfl rfl) (pmk_oex BU.oex iC tI G_bad (hr.mono (by omega)) b_bad .nil pass0 (by rfl) BU.gl (pa_cons (pe_op op_add (pe_callB call_len_seq (by rfl) T.len PySem.boot_len (pa_cons (pe_fld (pv 0) rfl) pa_nil)) pe_int) (pa_cons pe_str pa_nil)))))
  pss_nil)
  (pss_cons (ps_set (i := 2) scRdWords.nd rfl (.inl rfl) (pe_ix ix_list (pe_fld (pv 0) rfl) (pe_fld (pv 0) rfl) (fun _ _ => rfl)))
  (pss_cons (ps_fld (pv 0) (pe_op op_add (pe_fld (pv 0) rfl) pe_int) rfl)
  (pss_cons (ps_set (i := 3) scRdWords.nd rfl (.inl rfl) (pe_op op_mulS pe_str (pv 1)))
  (pss_cons (ps_if (pt_cmpR op_ne (pe_slice sl_str (pv 2) po_none (po_some (pe_callB call_len_str (by rfl) T.len PySem.boot_len (pa_cons (pv 3) pa_nil)))) (pv 3) (nomark _))
  (pss_one (ps_raise rfl (takes_of rfl rfl rfl rfl) (pmk_oex BU.oex iC tI G_bad (hr.mono (by omega)) b_bad .nil pass0 (by rfl) BU.gl (pa_cons (pe_fld (pv 0) rfl) (pa_cons pe_str pa_nil)))))
  pss_nil)
  (pss_one (ps_ret (pe_split (pe_slice sl_str (pv 2) (po_some (pe_callB call_len_str (by rfl) T.len PySem.boot_len (pa_cons (pv 3) pa_nil))) po_none) pe_str)))))))), ?_⟩
    obtain ⟨dx, hI⟩ := rd.ins
    have hL := rd.lines
    refine ⟨_, rfl, r, C, dx, _, _, rfl, hI, R.cl, R.nP, rf_place _ _ _, _, rfl, r, C, dx, _, _, rfl, hI, R.cl, R.nL, rf_lines _ _ _, L, _, rfl, .inl (SqL.of hL), _, _, rfl, rfl, ?_⟩
    by_cases hp : p < ls.length
    case neg =>
      refine ⟨true, bl_t (by rw [List.length_map]; omega), iteT ⟨_, rfl, r, C, dx, _, _, rfl, hI, R.cl, R.nL, rf_lines _ _ _, L, _, rfl, .inl (SqL.of hL), _, _, rfl, rfl, ?_⟩⟩
      rw [List.length_map]
      have := md.many
      exact bad_made (i := ls.length + 1) (by omega) (by decide) (q1 hp)
    case pos =>
      refine ⟨false, bl_f (by rw [List.length_map]; omega), iteF ?_⟩
      have hx : ls[p]? = some ls[p] := List.getElem?_eq_getElem hp
      generalize hline : ls[p] = line at hx
      have hlen : line.length ≤ 1000000 := md.long _ (by rw [← hline]; exact List.getElem_mem hp)
      have hsl : line.length ≤ sizeLine := by rw [sizeLine_eq]; omega
      refine ⟨_, rfl, r, C, dx, _, _, rfl, hI, R.cl, R.nL, rf_lines _ _ _, _, rfl, r, C, dx, _, _, rfl, hI, R.cl, R.nP, rf_place _ _ _, L, _, p, _, rfl, rfl, SqL.of hL, strs_at hx, ?_⟩
      refine ⟨_, rfl, r, C, dx, _, _, rfl, hI, R.cl, R.nP, rf_place _ _ _, _, _, rfl, rfl, _, rfl, r, C, dx, _, rfl, hI, R.cl, R.nP, (by show 3 < 1000; decide), ?_⟩
      rw [put3']
      have rd2 := rd.set (dx := dx) (p + 1)
      have b2 := ButAt.upd r H (.ins C dx (rf (.ref N) (.ref L) (.int ((p + 1 : Nat) : Int))))
      have hI2 : upd H r (.ins C dx (rf (.ref N) (.ref L) (.int ((p + 1 : Nat) : Int)))) r = some (.ins C dx (rf (.ref N) (.ref L) (.int ((p + 1 : Nat) : Int)))) := upd_same
      show Ends.nx _ _ (upd H r (.ins C dx (rf (.ref N) (.ref L) (.int ((p + 1 : Nat) : Int)))))
      generalize upd H r (.ins C dx (rf (.ref N) (.ref L) (.int ((p + 1 : Nat) : Int)))) = H2 at rd2 b2 hI2
      refine ⟨_, rfl, d, rfl, rfl, by omega, ?_⟩
      have hsp : (sp d).length ≤ sizeLine := by rw [sp_len, sizeLine_eq]; omega
      have cs : ∀ x y : Option Int, x = y → ∀ z lo, cutS z lo x = cutS z lo y := fun x y e z lo => by rw [e]
      have e1 : cutS line none (some ((sp d).length : Int)) = headOf line d := by rw [sp_len]; rfl
      have e2 : cutS line (some ((sp d).length : Int)) none = tailOf line d := by rw [sp_len]; rfl
      refine ⟨_, rfl, _, rfl, _, rfl, hsp, _, rfl, line, rfl, hsl, _, rfl, rfl, ?_⟩
      rw [e1]
      by_cases hh : headOf line d = sp d
      case neg =>
        refine ⟨true, nbl_t (str_ne hh), iteT ⟨_, rfl, r, C, dx, _, _, rfl, hI2, R.cl, R.nP, rf_place _ _ _, ?_⟩⟩
        have := md.many
        exact bad_made (i := p + 1) (by omega) (by decide) ((q2 line hx hh).of b2)
      case pos =>
        refine ⟨false, nbl_f (congrArg V.str hh), iteF ?_⟩
        have hsplit : (tailOf line d).length + 2 ≤ sizeLine := by
          have := cut_len line (some ((2 * d : Nat) : Int)) none
          rw [sizeLine_eq]
          unfold tailOf
          omega
        refine ⟨_, rfl, _, rfl, _, rfl, hsp, _, rfl, line, rfl, hsl, ?_⟩
        rw [e2]
        refine ⟨⟨_, rfl⟩, tailOf line d, Str.ofString " ", rfl, rfl, by decide +kernel, hsplit, fun W nW => ?_⟩
        rw [blank_eq]
        refine q3 line hx hh _ W (b2.trans (.of (Same.new nW _))) (rd2.same (Same.new nW _)) upd_same fun e => ?_
        rw [e, hI2] at nW
        cases nW
end
end FB

set_option Elab.async false
set_option linter.all false
set_option maxRecDepth 100000
set_option maxHeartbeats 8000000
/-! The reader's tree. -/
namespace FB
open PySem L2
/-- a method of the class C, as it may be called -/
structure MethUse (P : Program) (w : World) (K : PySem.W.Frag) (mg : Str → Option Value) (base : Heap) (CX : CXT) (k : Nat) (C : Addr) (m : Str) (ps : List Str) (sp : Sp) : Prop where
  ex : ∃ (f : Addr) (fd : FuncData), Meth K C m f ∧ FnOk P w K mg base CX k f fd ps sp ∧ Binds K fd ps []
def spRdTree (C CB : Addr) (n : Nat) : Sp := fun vs H Q E => ∃ (r N L : Addr) (d p f : Nat) (ns ls : List Str), vs = [.ref r, .int (d : Nat)] ∧ RdAt C H r N L ns ls p ∧ f ≤ 40 ∧ d = 40 - f ∧ f < n ∧ Mod ls ∧ ns.length ≤ 100 ∧
  (∀ ln why, readF ns ls f p = .no ln why → Bads CB r H E ln why) ∧
  (∀ T q, readF ns ls f p = .ok T q → ∀ (H' : Hp) (v : V), ButAt r H H' → RdAt C H' r N L ns ls q → TreeAt H' v T → Q v H')
theorem RdAt.notTup {C r N L : Addr} {H : Hp} {ns ls : List Str} {p : Nat} (h : RdAt C H r N L ns ls p) : ∀ xs, H r ≠ some (.tup xs) := fun xs e => by
  obtain ⟨dx, h1⟩ := h.ins
  rw [h1] at e
  cases e
theorem isNum_empty : isNum Str.empty = false := by decide +kernel
theorem numI_yes {b : Str} (h : isNum b = true) : numI b = ((numOf b : Nat) : Int) := by
  unfold numI
  rw [if_pos h]
theorem numI_no {b : Str} (h : ¬ isNum b = true) : numI b = -1 := by
  unfold numI
  rw [if_neg h]
section
variable {P : Program} {w : World} {K : PySem.W.Frag} {mg : Str → Option Value} {base : Heap}
theorem no_rdTree {C CB : Addr} {k : Nat} {f : Addr} {fd : FuncData} {ps : List Str} : FnOk P w K mg base (L2.CX P w) k f fd ps (spRdTree C CB 0) := by
  have no : ∀ vs H Q E, ¬ spRdTree C CB 0 vs H Q E := fun vs H Q E ⟨_, _, _, _, _, _, _, _, _, _, _, _, z, _⟩ => absurd z (Nat.not_lt_zero _)
  exact ⟨fun vs H Q E h => absurd h (no vs H Q E), fun A outer s H args us vs Q E _ _ _ _ h => absurd h (no vs H Q E)⟩
theorem ok_rdTree {C CB f : Addr} {fd : FuncData} (F : Fun K "tree" "Reader.tree" sRdTree f fd) (T : Free mg) (R : RdC K C) (BU : BadUse P w K mg base CB) (hMA : ∃ tk : Tok, mg "MOST_ASKS" = some (.int 40 tk)) (M_tree : Meth K C "tree" f) (B_tree : Binds K fd ["self", "depth"] [])
    (mw : MethUse P w K mg base (L2.CX P w) 3 C "words" ["self", "depth"] (spWords C CB)) (num : Callee P w K mg base CX0 1 "number_in" ["word"] spNum) (n : Nat) :
    FnOk P w K mg base (L2.CX P w) (n + 3) f fd ["self", "depth"] (spRdTree C CB n) := by
  obtain ⟨fI, fdI, iC, tI, G_bad, b_bad⟩ := BU.ex
  obtain ⟨tM, mMA⟩ := hMA
  obtain ⟨fW, fdW, M_words, G_words, B_words⟩ := mw.ex
  obtain ⟨f_number_in, fd_number_in, G_number_in, m_number_in, k_number_in, b_number_in⟩ := num.ex
  induction n with
  | zero => exact no_rdTree
  | succ n G_tree =>
    refine F.okX scRdTree (fun vs H Q E h => ?_) (fun cdv A outer s H vs Q E hr h => ?_)
    · obtain ⟨_, _, _, _, _, _, _, _, rfl, _⟩ := h
      rfl
    · obtain ⟨r, N, L, d, p, f, ns, ls, rfl, rd, hf, rfl, hfn, md, hns, qn, qo⟩ := h
      refine ⟨_, (pss_cons (ps_set (i := 2) scRdTree.nd rfl (.inl rfl) (pe_meth (pv 0) R.cl M_words G_words (hr.mono (by omega)) B_words .nil (passes_call (takes_of rfl rfl rfl rfl) (fun _ _ _ _ h => h)) (pa_cons (pv 1) pa_nil)))
  (pss_cons (ps_set (i := 3) scRdTree.nd rfl (.inl rfl) (pe_fld (pv 0) rfl))
  (pss_cons (ps_if (pt_cmpR (op_eqL hr.units0) (pv 2) (pe_lst (pa_cons pe_str pa_nil)) (nomark _))
  (pss_one (ps_ret (pe_tup (pa_cons pe_str pa_nil))))
  pss_nil)
  (pss_cons (ps_if (PW.pt (pw_or (pt_cmpR op_ne (pe_callB call_len_seq (by rfl) T.len PySem.boot_len (pa_cons (pv 2) pa_nil)) pe_int (nomark _)) (pw_or (pt_cmpR op_notIn_seq (pe_ix ix_list (pv 2) pe_int (fun _ _ => rfl)) (pe_tup (pa_cons pe_str (pa_cons pe_str pa_nil))) (by rfl)) (pw_or1 (pt_cmpR op_eq (pe_ix ix_list (pv 2) pe_int (fun _ _ => rfl)) pe_str (nomark _))))))
  (pss_one (ps_raise rfl (takes_of rfl rfl rfl rfl) (pmk_oex BU.oex iC tI G_bad (hr.mono (by omega)) b_bad .nil pass0 (by rfl) BU.gl (pa_cons (pv 3) (pa_cons pe_str pa_nil)))))
  pss_nil)
  (pss_cons (ps_if (pt_cmpR op_eq (pe_ix ix_list (pv 2) pe_int (fun _ _ => rfl)) pe_str (nomark _))
  (pss_cons (ps_if (pt_cmpR op_lt (pe_call G_number_in (hr.mono (by omega)) (by rfl) m_number_in k_number_in b_number_in .nil pass0 (pa_cons (pe_ix ix_list (pv 2) pe_int (fun _ _ => rfl)) pa_nil)) pe_int (nomark _))
  (pss_one (ps_raise rfl (takes_of rfl rfl rfl rfl) (pmk_oex BU.oex iC tI G_bad (hr.mono (by omega)) b_bad .nil pass0 (by rfl) BU.gl (pa_cons (pv 3) (pa_cons pe_str pa_nil)))))
  pss_nil)
  (pss_one (ps_ret (pe_tup (pa_cons pe_str (pa_cons (pe_call G_number_in (hr.mono (by omega)) (by rfl) m_number_in k_number_in b_number_in .nil pass0 (pa_cons (pe_ix ix_list (pv 2) pe_int (fun _ _ => rfl)) pa_nil)) pa_nil))))))
  pss_nil)
  (pss_cons (ps_if (pt_cmpR op_notIn_seq (pe_ix ix_list (pv 2) pe_int (fun _ _ => rfl)) (pe_fld (pv 0) rfl) (by rfl))
  (pss_one (ps_raise rfl (takes_of rfl rfl rfl rfl) (pmk_oex BU.oex iC tI G_bad (hr.mono (by omega)) b_bad .nil pass0 (by rfl) BU.gl (pa_cons (pv 3) (pa_cons pe_str pa_nil)))))
  pss_nil)
  (pss_cons (ps_if (pt_cmpR op_ge (pv 1) (pe_glob (v := .int 40) (by rfl) mMA ⟨_, rfl⟩) (nomark _))
  (pss_one (ps_raise rfl (takes_of rfl rfl rfl rfl) (pmk_oex BU.oex iC tI G_bad (hr.mono (by omega)) b_bad .nil pass0 (by rfl) BU.gl (pa_cons (pv 3) (pa_cons pe_str pa_nil)))))
  pss_nil)
  (pss_cons (ps_set (i := 4) scRdTree.nd rfl (.inl rfl) (pe_meth (pv 0) R.cl M_tree G_tree (hr.mono (by omega)) B_tree .nil (passes_call (takes_of rfl rfl rfl rfl) (fun _ _ _ _ h => h)) (pa_cons (pe_op op_add (pv 1) pe_int) pa_nil)))
  (pss_one (ps_ret (pe_tup (pa_cons pe_str (pa_cons (pe_bm PySem.F.plainAttrs_list PySem.F.slot_list_index PySem.F.type_list_index mt_index (pe_fld (pv 0) rfl) (pa_cons (pe_ix ix_list (pv 2) pe_int (fun _ _ => rfl)) pa_nil)) (pa_cons (pv 4) (pa_cons (pe_meth (pv 0) R.cl M_tree G_tree (hr.mono (by omega)) B_tree .nil (passes_call (takes_of rfl rfl rfl rfl) (fun _ _ _ _ h => h)) (pa_cons (pe_op op_add (pv 1) pe_int) pa_nil)) pa_nil))))))))))))))), ?_⟩
      obtain ⟨dx, hI⟩ := rd.ins
      refine ⟨_, rfl, r, dx, _, rfl, hI, rf_no _ _ _ (by decide +kernel) (by decide +kernel) (by decide +kernel), _, rfl, r, N, L, 40 - f, p, ns, ls, rfl, rd, by omega, md, fun hp => qn _ _ (readF_end hp), fun line hx hh => qn _ _ (readF_head hx hh), fun line hx hh H1 W b1 rd1 hW nWr => ?_⟩
      have key := readF_go (ns := ns) hx hh
      have hp : p < ls.length := (List.getElem?_eq_some_iff.mp hx).1
      have hpm : p + 1 < 10 ^ 9 := by have := md.many; omega
      have hlen : line.length ≤ 1000000 := md.long _ (List.mem_of_getElem? hx)
      generalize hws : Txt.split (tailOf line (40 - f)) blank = ws at key hW
      have hwl : ∀ y ∈ ws, y.length ≤ 1000000 := fun y hy => by
        rw [← hws] at hy
        have h1 := PyProof.Rows.part_short hy
        have h2 := cut_len line (some ((2 * (40 - f) : Nat) : Int)) none
        unfold tailOf at h1
        omega
      obtain ⟨dx1, hI1⟩ := rd1.ins
      refine ⟨_, rfl, r, C, dx1, _, _, rfl, hI1, R.cl, R.nP, rf_place _ _ _, ?_⟩
      refine ⟨_, rfl, (by show 1 ≤ sizeLine; decide), fun l1 nl1 => ?_⟩
      have s1 := Same.new nl1 (.lst [.str (Str.ofString "nobody")])
      have hl1 : upd H1 l1 (.lst [.str (Str.ofString "nobody")]) l1 = some (.lst [.str (Str.ofString "nobody")]) := upd_same
      have rd2 := rd1.same s1
      have b2 := b1.trans (.of s1)
      have hW2 := s1 _ _ hW
      generalize upd H1 l1 (.lst [.str (Str.ofString "nobody")]) = H2 at s1 hl1 rd2 b2 hW2
      refine ⟨W, l1, ws, [S "nobody"], rfl, rfl, SqL.of hW2, SqL.of hl1, ?_⟩
      by_cases e0 : ws = [S "nobody"]
      · refine ⟨true, bl_t e0, iteT ⟨(by show 1 ≤ sizeLine; decide), fun t nt => ?_⟩⟩
        refine qo .nobody (p + 1) ?_ _ _ (b2.trans (.of (Same.new nt _))) (rd2.same (Same.new nt _)) (.nobody upd_same)
        rw [key, e0, say_nob]
        rfl
      refine ⟨false, bl_f e0, iteF ?_⟩
      have bad : ∀ {H3 : Hp}, ButAt r H H3 → sayOf ws = .bad → Bads CB r H3 E (p + 1) (S "unknown line") := fun {H3} b3 e => (qn _ _ (by rw [key, e]; rfl)).of b3
      refine ⟨_, rfl, W, _, rfl, .inl (SqL.of hW2), rfl, ?_⟩
      by_cases h2 : ws.length = 2
      case neg =>
        refine ⟨true, nbl_t (int_ne (by rw [List.length_map]; omega)), iteT (iteT ⟨_, rfl, ?_⟩)⟩
        exact bad_made hpm (by decide) (bad b2 (say_other e0 h2))
      obtain ⟨a, b, rfl⟩ := two_of h2
      refine ⟨false, nbl_f rfl, iteF ⟨_, rfl, W, _, 0, _, rfl, rfl, SqL.of hW2, rfl, (by show 2 ≤ sizeLine; decide), fun t nt => ?_⟩⟩
      have s3 := Same.new nt (.tup [.str (Str.ofString "ask"), .str (Str.ofString "found")])
      have ht : upd H2 t (.tup [.str (Str.ofString "ask"), .str (Str.ofString "found")]) t = some (.tup [.str (Str.ofString "ask"), .str (Str.ofString "found")]) := upd_same
      have rd3 := rd2.same s3
      have b3 := b2.trans (.of s3)
      have hW3 := s3 _ _ hW2
      generalize upd H2 t (.tup [.str (Str.ofString "ask"), .str (Str.ofString "found")]) = H3 at s3 ht rd3 b3 hW3
      refine ⟨t, _, rfl, .inr (SqT.of ht), rfl, rfl, ?_⟩
      have eIn : inV (.str a) [.str (Str.ofString "ask"), .str (Str.ofString "found")] = decide (a ∈ [S "ask", S "found"]) := inV_str a [S "ask", S "found"]
      by_cases ha : a ∈ [S "ask", S "found"]
      case neg =>
        refine ⟨true, by show V.bl (!inV _ _) = _; rw [eIn, decide_eq_false ha]; rfl, iteT (iteT ⟨_, rfl, ?_⟩)⟩
        have n1 : ¬ a = S "ask" := fun e => ha (by rw [e]; exact List.mem_cons_self)
        have n2 : ¬ a = S "found" := fun e => ha (by rw [e]; exact List.mem_cons_of_mem _ List.mem_cons_self)
        exact bad_made hpm (by decide) (bad b3 (by rw [say_two, if_neg n2, if_neg (fun z => n1 z.1)]))
      refine ⟨false, by show V.bl (!inV _ _) = _; rw [eIn, decide_eq_true ha]; rfl, iteF ⟨_, rfl, W, _, 1, _, rfl, rfl, SqL.of hW3, rfl, rfl, ?_⟩⟩
      by_cases hb : b = Str.empty
      · refine ⟨true, bl_t (by rw [hb]; rfl), iteT ⟨_, rfl, ?_⟩⟩
        refine bad_made hpm (by decide) (bad b3 ?_)
        rw [say_two, hb, isNum_empty]
        by_cases hf2 : a = S "found"
        · rw [if_pos hf2, if_neg Bool.false_ne_true]
        · rw [if_neg hf2, if_neg (fun z => z.2 rfl)]
      refine ⟨false, bl_f (str_ne hb), iteF ?_⟩
      refine ⟨_, rfl, W, _, 0, _, rfl, rfl, SqL.of hW3, rfl, rfl, ?_⟩
      by_cases hf2 : a = S "found"
      · subst hf2
        refine ⟨true, bl_t rfl, iteT ⟨_, rfl, W, _, 1, _, rfl, rfl, SqL.of hW3, rfl, b, rfl, hwl b (by simp), fun H4 s4 => ⟨_, _, rfl, rfl, ?_⟩⟩⟩
        have b4 := b3.trans (.of s4)
        have hW4 := s4 _ _ hW3
        have rd4 := rd3.same s4
        by_cases hn : isNum b = true
        · rw [numI_yes hn]
          refine ⟨false, bl_f (by omega), iteF ⟨_, rfl, W, _, 1, _, rfl, rfl, SqL.of hW4, rfl, b, rfl, hwl b (by simp), fun H5 s5 => ⟨(by show 2 ≤ sizeLine; decide), fun t2 nt2 => ?_⟩⟩⟩
          rw [numI_yes hn]
          refine qo (.found (numOf b)) (p + 1) ?_ _ _ ((b4.trans (.of s5)).trans (.of (Same.new nt2 _))) ((rd4.same s5).same (Same.new nt2 _)) (.found upd_same)
          rw [key, say_two, if_pos rfl, if_pos hn]
          rfl
        · rw [numI_no hn]
          refine ⟨true, bl_t (by decide), iteT ⟨_, rfl, ?_⟩⟩
          refine bad_made hpm (by decide) (bad b4 ?_)
          rw [say_two, if_pos rfl, if_neg hn]
      have hask : a = S "ask" := by
        rcases List.mem_cons.mp ha with e | e
        · exact e
        · exact absurd (List.mem_singleton.mp e) hf2
      subst hask
      rw [say_two, if_neg hf2, if_pos ⟨rfl, hb⟩] at key
      refine ⟨false, bl_f (str_ne hf2), iteF ?_⟩
      obtain ⟨dx3, hI3⟩ := rd3.ins
      refine ⟨_, rfl, W, _, 1, _, rfl, rfl, SqL.of hW3, rfl, _, rfl, r, C, dx3, _, _, rfl, hI3, R.cl, R.nN, rf_names _ _ _, N, _, rfl, .inl (SqL.of rd3.names), rfl, strs_flat ns, ?_⟩
      by_cases hm : b ∈ ns
      case neg =>
        refine ⟨true, by show V.bl (!inV _ _) = _; rw [inV_str, decide_eq_false hm]; rfl, iteT ⟨_, rfl, ?_⟩⟩
        refine bad_made hpm (by decide) ((qn _ _ ?_).of b3)
        rw [key]
        show (if b ∉ ns then _ else _) = _
        rw [if_pos hm]
      refine ⟨false, by show V.bl (!inV _ _) = _; rw [inV_str, decide_eq_true hm]; rfl, iteF ⟨_, rfl, _, _, rfl, rfl, ?_⟩⟩
      cases f with
      | zero =>
        refine ⟨true, bl_t (by decide), iteT ⟨_, rfl, ?_⟩⟩
        refine bad_made hpm (by decide) ((qn _ _ ?_).of b3)
        rw [key]
        show (if b ∉ ns then _ else _) = _
        rw [if_neg (fun z => z hm)]
      | succ g =>
        have hgo : readF ns ls (g + 1) p = match readF ns ls g (p + 1) with
            | .no l y => .no l y
            | .ok T1 p1 => match readF ns ls g p1 with
              | .no l y => .no l y
              | .ok T2 p2 => .ok (.ask (ns.idxOf b) T1 T2) p2 := by
          rw [key]
          show (if b ∉ ns then _ else _) = _
          rw [if_neg (fun z => z hm)]
          all_goals rfl
        refine ⟨false, bl_f (by omega), iteF ?_⟩
        have ed : 40 - (g + 1) + 1 = 40 - g := by omega
        refine ⟨_, rfl, r, dx3, _, rfl, hI3, rf_no _ _ _ (by decide +kernel) (by decide +kernel) (by decide +kernel), _, rfl, _, _, rfl, rfl, r, N, L, 40 - (g + 1) + 1, p + 1, g, ns, ls, rfl, rd3, by omega, ed, by omega, md, hns, fun ln why e1 => ?_, fun T1 p1 e1 H4 v1 b4 rd4 t1 => ?_⟩
        · refine (qn _ _ ?_).of b3
          rw [hgo, e1]
        have hW4 : H4 W = some (.lst ([S "ask", b].map V.str)) := b4 _ _ nWr hW3
        obtain ⟨dx4, hI4⟩ := rd4.ins
        have nt4 := rd4.notTup
        refine ⟨_, rfl, r, C, dx4, _, _, rfl, hI4, R.cl, R.nN, rf_names _ _ _, .inl ⟨rfl, _, SqL.of rd4.names⟩, _, rfl, W, _, 1, _, rfl, rfl, SqL.of hW4, rfl, ?_⟩
        unfold tNil
        refine index_ask (SqL.of rd4.names) hm ⟨_, rfl, _, rfl, r, dx4, _, rfl, hI4, rf_no _ _ _ (by decide +kernel) (by decide +kernel) (by decide +kernel), _, rfl, _, _, rfl, rfl, r, N, L, 40 - (g + 1) + 1, p1, g, ns, ls, rfl, rd4, by omega, ed, by omega, md, hns, fun ln why e2 => ?_, fun T2 p2 e2 H5 v2 b5 rd5 t2 => ?_⟩
        · refine (qn _ _ ?_).of (b3.trans b4)
          rw [hgo, e1]
          simp only [e2]
        refine ⟨(by show 4 ≤ sizeLine; decide), fun t5 nt5 => ?_⟩
        have s5 := Same.new nt5 (.tup [.str (S "ask"), .int ((ns.idxOf b : Nat) : Int), v1, v2])
        refine qo (.ask (ns.idxOf b) T1 T2) p2 ?_ _ _ (((b3.trans b4).trans b5).trans (.of s5)) (rd5.same s5) (.ask upd_same ((t1.mono (b5.tups nt4)).mono (Same.tups s5)) (t2.mono (Same.tups s5)))
        rw [hgo, e1]
        simp only [e2]
end
end FB

set_option Elab.async false
set_option linter.all false
set_option maxRecDepth 100000
set_option maxHeartbeats 8000000
/-! parse_tree. -/
namespace FB
open PySem L2
/-- the class of readers, as one is made -/
structure MakeUse (P : Program) (w : World) (K : PySem.W.Frag) (mg : Str → Option Value) (base : Heap) (C : Addr) : Prop where
  rd : RdC K C
  gl : mg "Reader" = some (.ref C)
  ex : ∃ (f : Addr) (fd : FuncData), Mk K C f ∧ FnOk P w K mg base CX0 1 f fd ["self", "history", "text"] (spInit C) ∧ Binds K fd ["self", "history", "text"] []
def BadsS (CB : Addr) (H : Hp) (E : XK) (ln : Nat) (why : Str) : Prop := ∀ (d : Addr) (H' : Hp), Same H H' → H' d = some (.xd (badX ln why)) → E (.ref CB) (some d) H'
def spParse (CB : Addr) : Sp := fun vs H Q E => ∃ (h : Addr) (x : Str) (ns : List Str), vs = [.ref h, .str x] ∧ HistAt H h ns ∧ ns.length ≤ 100 ∧ x.length ≤ 900000 ∧
  (∀ ln why, parseF ns x = .no ln why → BadsS CB H E ln why) ∧ (∀ T q, parseF ns x = .ok T q → ∀ (H' : Hp) (v : V), Same H H' → TreeAt H' v T → Q v H')
theorem ButAt.toSame {r : Addr} {H H' : Hp} (b : ButAt r H H') (n : H r = none) : Same H H' := fun p o q => b p o (ne_of_none q n) q
section
variable {P : Program} {w : World} {K : PySem.W.Frag} {mg : Str → Option Value} {base : Heap}
theorem ok_parse {C CB f : Addr} {fd : FuncData} (D : DefAt K mg "parse_tree" sParse ["history", "text"] f fd) (T : Free mg) (MU : MakeUse P w K mg base C) (BU : BadUse P w K mg base CB)
    (mt : MethUse P w K mg base (L2.CX P w) 44 C "tree" ["self", "depth"] (spRdTree C CB 41)) : FnOk P w K mg base (L2.CX P w) 45 f fd ["history", "text"] (spParse CB) := by
  obtain ⟨fI, fdI, iC, tI, G_bad, b_bad⟩ := BU.ex
  obtain ⟨fT, fdT, M_tree, G_tree, B_tree⟩ := mt.ex
  obtain ⟨fM, fdM, mk, G_init, b_init⟩ := MU.ex
  have R := MU.rd
  refine D.fn.okX scParse (fun vs H Q E h => ?_) (fun cdv A outer s H vs Q E hr h => ?_)
  · obtain ⟨_, _, _, rfl, _⟩ := h
    rfl
  · obtain ⟨h, x, ns, rfl, hh, hns, hx, qn, qo⟩ := h
    refine ⟨_, (pss_cons (ps_set (i := 2) scParse.nd rfl (.inl rfl) (pe_make mk G_init (hr.mono (by omega)) (by rfl) MU.gl b_init .nil pass0 (pa_cons (pv 0) (pa_cons (pv 1) pa_nil))))
  (pss_cons (ps_set (i := 3) scParse.nd rfl (.inl rfl) (pe_meth (pv 2) R.cl M_tree G_tree (hr.mono (by omega)) B_tree .nil (passes_call (takes_of rfl rfl rfl rfl) (fun _ _ _ _ h => h)) (pa_cons pe_int pa_nil)))
  (pss_cons (ps_if (pt_cmpR op_lt (pe_fld (pv 2) rfl) (pe_callB call_len_seq (by rfl) T.len PySem.boot_len (pa_cons (pe_fld (pv 2) rfl) pa_nil)) (nomark _))
  (pss_one (ps_raise rfl (takes_of rfl rfl rfl rfl) (pmk_oex BU.oex iC tI G_bad (hr.mono (by omega)) b_bad .nil pass0 (by rfl) BU.gl (pa_cons (pe_op op_add (pe_fld (pv 2) rfl) pe_int) (pa_cons pe_str pa_nil)))))
  pss_nil)
  (pss_one (ps_ret (pv 3)))))), ?_⟩
    refine ⟨_, rfl, _, rfl, fun r dx nr ndx ne => ?_⟩
    have s1 : Same H (upd (upd H dx (.own r)) r (.ins C dx [])) := fun b o e => by
      rw [upd_ne (ne_of_none e nr), upd_ne (ne_of_none e ndx)]
      exact e
    have md := linesOf_mod hx
    refine ⟨r, h, dx, x, ns, rfl, upd_same, hh.mono (Same.tups s1), hns, hx, fun H1 N L b1 rd1 => ⟨rfl, ?_⟩⟩
    have b1' : Same H H1 := fun p o q => b1 p o (ne_of_none q nr) (s1 _ _ q)
    have hb1 : ∀ {H3 : Hp}, ButAt r H1 H3 → Same H H3 := fun {H3} b p o q => b p o (ne_of_none q nr) (b1' _ _ q)
    obtain ⟨dx1, hI1⟩ := rd1.ins
    refine ⟨_, rfl, r, dx1, _, rfl, hI1, rf_no _ _ _ (by decide +kernel) (by decide +kernel) (by decide +kernel), r, N, L, 0, 0, 40, ns, linesOf x, rfl, rd1, Nat.le_refl _, rfl, by decide, md, hns, fun ln why e => ?_, fun T1 p1 e H2 v b2 rd2 t1 => ?_⟩
    · intro d H' b e2
      refine qn ln why ?_ d H' (hb1 b) e2
      unfold parseF
      rw [e]
    · obtain ⟨dx2, hI2⟩ := rd2.ins
      refine ⟨_, rfl, r, C, dx2, _, _, rfl, hI2, R.cl, R.nP, rf_place _ _ _, _, rfl, r, C, dx2, _, _, rfl, hI2, R.cl, R.nL, rf_lines _ _ _, L, _, rfl, .inl (SqL.of rd2.lines), _, _, rfl, rfl, ?_⟩
      by_cases c : p1 < (linesOf x).length
      · refine ⟨true, bl_t (by rw [List.length_map]; omega), iteT ⟨_, rfl, r, C, dx2, _, _, rfl, hI2, R.cl, R.nP, rf_place _ _ _, _, _, rfl, rfl, ?_⟩⟩
        have := md.many
        refine bad_made (i := p1 + 1) (r := r) (by omega) (by decide) fun d H' b e2 => qn (p1 + 1) (S "more lines") ?_ d H' (hb1 (b2.trans b)) e2
        unfold parseF
        rw [e]
        show (if p1 < (linesOf x).length then _ else _) = _
        rw [if_pos c]
      · refine ⟨false, bl_f (by rw [List.length_map]; omega), iteF ⟨_, rfl, qo T1 p1 ?_ _ _ (hb1 b2) t1⟩⟩
        unfold parseF
        rw [e]
        show (if p1 < (linesOf x).length then _ else _) = _
        rw [if_neg c]
end
end FB

set_option Elab.async false
set_option linter.all false
set_option maxRecDepth 100000
set_option maxHeartbeats 8000000
/-! What the program tells: parse_tree in a try. -/
namespace FB
open PySem L2
/-- isinstance(e, c), e the exception at a that the suite holds, of the class cls, its dict at d -/
def rIsD (K : PySem.W.Frag) (a : Addr) (cls : Value) (d : Option Addr) : List V → Hp → VK → Prop := fun xs H Q => ∃ (D dd : Addr) (fs : List (Str × V)) (c : V) (cv : Value) (b : Bool), cls = .ref D ∧ d = some dd ∧ H dd = some (.xd fs) ∧ ExcC K D ∧
  xs = [.ref a, c] ∧ (∀ u, RelV c u → u = cv) ∧ PySem.W.kitOne K (.ref D) cv = some b ∧ Q (.bl b) H
theorem call_isD {X : Cx} {a : Addr} {oe : Obj} {cls : Value} {d : Option Addr} {pn : List (Addr × Obj)} (hz : Zc cls d oe) (hf : ∃ vs, oe.data = .fields vs) : CallR (X.suite a ((a, oe) :: pn)) (.builtin "isinstance") (rIsD X.K a cls d) := by
  intro pins s σ H xs us Q I r h
  obtain ⟨D, dd, fs, c, cv, b, ec, ed, hx, C, rfl, hcv, e, q⟩ := h
  subst ec
  subst ed
  cases r with
  | cons rx rr =>
  cases rr with
  | cons rt rr =>
  cases rr
  cases rx
  have eu := hcv _ rt
  subst eu
  have hget := (I.pin (a, oe) (List.mem_append_left _ List.mem_cons_self)).1
  obtain ⟨vs, hv⟩ := hf
  obtain ⟨mA, hns, _⟩ := I.hok dd _ hx
  obtain ⟨od, ho, _⟩ := lookIn_ns hns
  have J : PySem.W.InstAt s.heap a oe D (some od) := ⟨hget, hz.1, by unfold PySem.W.notCls; rw [hv] <;> rfl, by rw [hz.2]; exact ho⟩
  have hcl : (PySem.W.clsIn X.K D).isSome = true := by
    obtain ⟨cd, hc, _⟩ := PySem.W.any_some C.hd
    rw [hc]
    rfl
  exact PySem.W.kia_one (PySem.W.kitx_exc hcl C.hg C.hk C.hs C.ha C.hn C.ht C.hm) I.kIn J e (fun z => nomatch z) fun tk => ⟨.bl b, H, I.kept (t' := tk) fun _ _ z => z, rfl, q⟩
/-- what told leaves -/
def ToldAt (H : Hp) (l : Addr) : Res → Prop
  | .ok T _ => ∃ v, H l = some (.lst [v]) ∧ TreeAt H v T
  | .no ln why => H l = some (.lst [.non, .int (ln : Nat), .str why])
/-- the classes of errors -/
structure ErrTxt (K : PySem.W.Frag) (mg : Str → Option Value) (CB : Addr) : Prop where
  xc : ExcC K CB
  xf : XfC K CB
  noL : PySem.W.findIn K (.ref CB) "line" = some none
  noR : PySem.W.findIn K (.ref CB) "reason" = some none
  gB : mg "BadHistory" = some (.ref CB)
  ex : ∃ CK CA CS CT : Addr, mg "BreakError" = some (.ref CK) ∧ mg "BadAnswer" = some (.ref CA) ∧ mg "BadState" = some (.ref CS) ∧ mg "TooGreat" = some (.ref CT) ∧ PySem.W.exmOne K (.ref CB) (.ref CK) = some true ∧
    PySem.W.kitOne K (.ref CB) (.ref CA) = some false ∧ PySem.W.kitOne K (.ref CB) (.ref CS) = some false ∧ PySem.W.kitOne K (.ref CB) (.ref CT) = some false
theorem kit_self {K : PySem.W.Frag} {C : Addr} : PySem.W.kitOne K (.ref C) (.ref C) = some true := by
  unfold PySem.W.kitOne
  rw [if_pos (by simp)]
theorem bad_reason (ln : Nat) (why : Str) : (badX ln why).lookup ("reason" : Str) = some (.str why) := List.lookup_cons_self ..
theorem bad_line (ln : Nat) (why : Str) : (badX ln why).lookup ("line" : Str) = some (.int (ln : Nat)) := by
  unfold badX
  rw [List.lookup_cons, bq (by decide +kernel), List.lookup_cons_self]
def spTold : Sp := fun vs H Q _ => ∃ (h : Addr) (x : Str) (ns : List Str), vs = [.ref h, .str x] ∧ HistAt H h ns ∧ ns.length ≤ 100 ∧ x.length ≤ 900000 ∧ ∀ (H' : Hp) (l : Addr), Same H H' → ToldAt H' l (parseF ns x) → Q (.ref l) H'
section
variable {P : Program} {w : World} {K : PySem.W.Frag} {mg : Str → Option Value} {base : Heap}
theorem ok_told {CB f : Addr} {fd : FuncData} (D : DefAt K mg "_law_told" sTold ["_law_history_here", "_law_text"] f fd) (T : Free mg) (ET : ErrTxt K mg CB)
    (pt : Callee P w K mg base (L2.CX P w) 45 "parse_tree" ["history", "text"] (spParse CB)) : FnOk P w K mg base CX0 46 f fd ["_law_history_here", "_law_text"] spTold := by
  obtain ⟨f_parse_tree, fd_parse_tree, G_parse_tree, m_parse_tree, k_parse_tree, b_parse_tree⟩ := pt.ex
  obtain ⟨CK, CA, CS, CT, gK, gA, gS, gT, e1, e2, e3, e4⟩ := ET.ex
  refine D.fn.ok scTold (fun vs H Q E h => ?_) (fun cdv A outer s H vs Q E hr h => ?_)
  · obtain ⟨_, _, _, rfl, _⟩ := h
    rfl
  · obtain ⟨h, x, ns, rfl, hh, hns, hx, q⟩ := h
    refine ⟨_, pss_one (ps_try_as (i := 2) (Wout := fun _ _ _ _ => False) rfl rfl scTold.nd rfl rfl ⟨rfl, by decide, Or.inl gK⟩ takes0
      (fun W pn xe tk _ => pss_one (ps_ret (pe_lst (pa_cons (pe_callS G_parse_tree hr rfl m_parse_tree k_parse_tree b_parse_tree (fun σ => passAt tk σ) (pa_cons (pv 0) (pa_cons (pv 1) pa_nil))) pa_nil))))
      (fun a oe cls d pn hz hf => pss_cons (ps_if (PW.pt (pw_or (pt_val (pe_callB (call_isD hz hf) (by rfl) T.isi (by decide +kernel) (pa_cons (pv 2) (pa_cons (pe_glob (v := .ref CA) (by rfl) gA rfl) pa_nil))))
        (pw_or (pt_val (pe_callB (call_isD hz hf) (by rfl) T.isi (by decide +kernel) (pa_cons (pv 2) (pa_cons (pe_glob (v := .ref CS) (by rfl) gS rfl) pa_nil))))
        (pw_or (pt_val (pe_callB (call_isD hz hf) (by rfl) T.isi (by decide +kernel) (pa_cons (pv 2) (pa_cons (pe_glob (v := .ref CT) (by rfl) gT rfl) pa_nil))))
        (pw_or1 (pt_not (pt_val (pe_callB (call_isD hz hf) (by rfl) T.isi (by decide +kernel) (pa_cons (pv 2) (pa_cons (pe_glob (v := .ref CB) (by rfl) ET.gB rfl) pa_nil))))))))))
        (pss_one (ps_ret (pe_lst (pa_cons pe_str pa_nil)))) pss_nil)
        (pss_one (ps_ret (pe_lst (pa_cons pe_non (pa_cons (pe_xf ET.xf ET.noL hz hf (pv 2)) (pa_cons (pe_xf ET.xf ET.noR hz hf (pv 2)) pa_nil)))))))), ?_⟩
    refine ⟨_, rfl, _, rfl, h, x, ns, rfl, hh, hns, hx, fun ln why e dd H1 s1 hd => ?_, fun T1 p e H1 v s1 t1 => ?_⟩
    · refine ⟨true, e1, fun _ a na => ?_, fun z => Bool.noConfusion z⟩
      refine ⟨_, rfl, CB, dd, _, _, _, false, rfl, rfl, hd, ET.xc, rfl, fun u r => r, e2, false, rfl, iteF ?_⟩
      refine ⟨_, rfl, CB, dd, _, _, _, false, rfl, rfl, hd, ET.xc, rfl, fun u r => r, e3, false, rfl, iteF ?_⟩
      refine ⟨_, rfl, CB, dd, _, _, _, false, rfl, rfl, hd, ET.xc, rfl, fun u r => r, e4, false, rfl, iteF ?_⟩
      refine ⟨_, rfl, CB, dd, _, _, _, true, rfl, rfl, hd, ET.xc, rfl, fun u r => r, kit_self, true, rfl, iteF ?_⟩
      refine ⟨_, rfl, rfl, rfl, dd, _, _, rfl, hd, bad_line ln why, _, rfl, rfl, rfl, dd, _, _, rfl, hd, bad_reason ln why, (by show 3 ≤ sizeLine; decide), fun l nl => q _ l (s1.trans (Same.new nl _)) ?_⟩
      rw [e]
      exact upd_same
    · refine ⟨(by show 1 ≤ sizeLine; decide), fun l nl => q _ l (s1.trans (Same.new nl _)) ?_⟩
      rw [e]
      exact ⟨v, upd_same, t1.mono (Same.tups (Same.new nl _))⟩
end
end FB

set_option Elab.async false
set_option linter.all false
set_option maxRecDepth 100000
set_option maxHeartbeats 8000000
/-! text.replace(old, new, 1) of written texts; a comprehension behind a token. -/
namespace FB
open PySem L2 Builtin Builtin.Str
section
variable {M : Model} {A : Around} {E : Value → Shared → Prop} {s : Shared} {α : Type}
/-- a token that is out stays out -/
theorem tk {t : Sem α} {Q Q' : α → Shared → Prop} (h0 : 1 ≤ s.toks) (h : wpAny M A t Q E s) (k : ∀ a s', 1 ≤ s'.toks → Q a s' → Q' a s') : wpAny M A t Q' E s :=
  wpAny_mono (wpAny_toks_of h0 h) (fun a s' q => k a s' q.1 q.2) fun _ _ z => z.2
theorem tkF {t : Sem α} {Q Q' : α → Shared → Prop} (h0 : 1 ≤ s.toks) (h : wpAny M A t Q (fun _ _ => False) s) (k : ∀ a s', 1 ≤ s'.toks → Q a s' → Q' a s') : wpAny M A t Q' E s :=
  wpAny_mono (wpAny_toks_of h0 h) (fun a s' q => k a s' q.1 q.2) fun _ _ z => z.2.elim
end
/-- where the old text stands first, or not at all -/
def once (x y : Str) : List Nat := occurrences x y 0 x.length 1
theorem glue_len (x y z : Str) : (glued z (partsBetween x (once x y) y.length)).length ≤ x.length + z.length := by
  have h1 : (once x y).length ≤ 1 := StrLaws.occ_length_le x y 0 x.length 1
  have h2 : (glued y (partsBetween x (once x y) y.length)).length = x.length := congrArg Str.length (StrLaws.glued_between_self x y 1)
  rw [size_glued, length_partsBetween, Nat.add_sub_cancel] at h2
  rw [size_glued, length_partsBetween, Nat.add_sub_cancel]
  have h3 : (once x y).length * z.length ≤ 1 * z.length := Nat.mul_le_mul_right _ h1
  omega
theorem gives_once (x y z : Str) (t u v k : Tok) (hu : u ≠ 0) (hv : v ≠ 0) (huv : u ≠ v) (hyz : (y == z) = false) (hb : x.length + z.length ≤ 16777216) :
    Gives (Builtin.«str.replace» ⟨[.str x t, .str y u, .str z v, .int 1 k], []⟩)
      (if ((once x y).isEmpty || (y.length == 0 && z.length == 0)) = true then .val (.str x t) else .str (glued z (partsBetween x (once x y) y.length))) := by
  show Gives (do let limit ← countLimit "str.replace" (some (.int 1 k)) (x.length + 1); _) _
  rw [countLimit_int "str.replace" 1 k (x.length + 1) (by decide)]
  show Gives (if ((once x y).isEmpty || (y.length == 0 && z.length == 0)) = true then (do rule "str.replace.nothing"; ret (.str x t)) else
    (do let same ← isSame (.str y u) (.str z v)
        if same = true then (do rule "str.replace.old-is-new"; ret (.str x t))
        else if tooLong (x.length + (once x y).length * z.length) = true then unsupported "str.replace:memory" else retStr (glued z (partsBetween x (once x y) y.length)))) _
  cases c : ((once x y).isEmpty || (y.length == 0 && z.length == 0)) with
  | true => exact .rule (.of_eq rfl)
  | false =>
    have h1 : (once x y).length * z.length ≤ 1 * z.length := Nat.mul_le_mul_right _ (StrLaws.occ_length_le x y 0 x.length 1)
    have e : tooLong (x.length + (once x y).length * z.length) = false := by
      unfold tooLong
      rw [sizeLine_eq]
      exact decide_eq_false (by omega)
    rw [isSame_str_other y z u v (by simp [hu, hv]) (by simp [huv]) hyz, e]
    exact .of_eq rfl
theorem call_once {prog : Program} {w : World} {A : Around} {E : Value → Shared → Prop} {s : Shared} {x y z : Str} {t u v k : Tok} {Q : Value → Shared → Prop} (hu : u ≠ 0) (hv : v ≠ 0) (huv : u ≠ v) (hyz : (y == z) = false) (hb : x.length + z.length ≤ 16777216)
    (q : ∀ o t' j, o.length ≤ x.length + z.length → Q (.str o t') { s with toks := j }) : wpAny (model prog w) A (call (.builtin "str.replace") [.str x t, .str y u, .str z v, .int 1 k]) Q E s := by
  refine call_gives F.slot_str_replace (typeIs_str _ _ _) F.entry_str_replace (F.args_str_replace_4 _ _ _ _) (gives_once x y z t u v k hu hv huv hyz hb) ?_
  cases c : ((once x y).isEmpty || (y.length == 0 && z.length == 0)) with
  | true =>
    rw [if_pos rfl]
    exact q x t s.toks (Nat.le_add_right _ _)
  | false =>
    rw [if_neg Bool.false_ne_true]
    exact ⟨by have := glue_len x y z; rw [sizeLine_eq]; omega, q _ _ _ (glue_len x y z)⟩
/-- e.replace(y, z, 1): some text, not much longer -/
def tOnce (z : Str) (to : TE) : TE := fun σ H Q => to σ H fun v H1 => ∃ x, v = .str x ∧ x.length + z.length ≤ 16777216 ∧ ∀ o : Str, o.length ≤ x.length + z.length → Q (.str o) H1
section
variable {X : Cx} {o : Expr} {to : TE} {y z : Str} {i j k : Nat} {c0 c1 c2 apos pos : Pos}
theorem pet_once (ho : PE X o to) (hyz : (y == z) = false := by decide)
    (hst : starEach [.Constant (.str y) i c0, .Constant (.str z) j c1, .Constant (.int 1) k c2] X.env = [(false, eval (.Constant (.str y) i c0) X.env), (false, eval (.Constant (.str z) j c1) X.env), (false, eval (.Constant (.int 1) k c2) X.env)] := by rfl)
    (hbase : attributeBase o "replace" X.env (eval o X.env) = eval o X.env := by rfl) (hline : (apos.endLine == pos.line) = true := by rfl) :
    PET X (.Call (.Attribute o "replace" apos) [.Constant (.str y) i c0, .Constant (.str z) j c1, .Constant (.int 1) k c2] [] pos) (tOnce z to) := by
  intro pins s σ H Q h0 I h
  refine wpAny_Call_method_lateS hbase (by rw [hst]; rfl) hline ?_
  rw [hst]
  refine tk h0 (ho.run pins s σ H _ I h) fun v s1 h1 q => ?_
  obtain ⟨v', H1, I1, r1, x, e1, hb, q⟩ := q
  subst e1
  obtain ⟨tx, e2⟩ := r1
  subst e2
  refine ⟨"str", _, F.plainAttrs_str, F.slot_str_replace, F.type_str_replace, typeIs_str _ _ _, (fun _ e => nomatch e), Calls.callWith_builtin rfl (Calls.evalArgs_plain ?_)⟩
  show wpAny _ _ (spliced ((false, eval (.Constant (.str y) i c0) X.env) :: (false, eval (.Constant (.str z) j c1) X.env) :: (false, eval (.Constant (.int 1) k c2) X.env) :: [])) _ _ s1
  refine Calls.spliced_cons (Calls.Constant_str (Calls.spliced_cons (Calls.Constant_str (Calls.spliced_cons (wpAny_Constant_int (Calls.spliced_nil ?_))))))
  exact call_once (by show s1.toks ≠ 0; omega) (by show s1.toks + 1 ≠ 0; omega) (by show s1.toks ≠ s1.toks + 1; omega) hyz hb fun p t' n hp => ⟨.str p, H1, I1.tok n, ⟨t', rfl⟩, q p hp⟩
end
section
variable {X : Cx}
/-- a list whose first item is a written text, stored under a name: behind it a token is out -/
theorem pss_lstT {i j : Nat} {x c : Str} {cp lp pos pos' : Pos} {es : List Expr} {ta : TA} {rest : List Stmt} {u : TS} (hN : X.N.Nodup) (hi : X.N[i]? = some x) (hx : Loc X.env.scope x) (ha : PA X es ta) (h2 : PSsT X rest u)
    (hs : swapsWith (.List (.Constant (.str c) j cp :: es) lp) (some (.Name x pos')) pos.line X.env = pure false := by rfl) (hf : X.fn x = true ∨ X.env.scope.names.lookup x = some .local := by first | exact .inl rfl | exact .inr rfl | assumption) :
    PSs X (.Assign [.Name x pos'] (.List (.Constant (.str c) j cp :: es) lp) pos :: rest) (tSeq (tAsg (tLst (tCons (tC (.str c)) ta)) (gName i)) u) := by
  refine ⟨fun pins s σ H D I h => ?_⟩
  refine wpAny_execs_cons (wpAny_Assign_Name (wpAny_List_spliced ?_) hs)
  show wpAny _ _ (spliced ((false, eval (.Constant (.str c) j cp) X.env) :: backTo lp (starEach es X.env))) _ _ s
  refine Calls.spliced_cons (Calls.Constant_str ?_)
  refine tk (s := { s with toks := s.toks + 1 }) (by show 1 ≤ s.toks + 1; omega) (ha.run lp pins _ σ H _ (I.tok _) h) fun us s1 h1 ⟨xs, H1, I1, r, z, q⟩ => ?_
  have r2 : Vals (V.str c :: xs) (Value.str c s.toks :: us) := .cons ⟨_, rfl⟩ r
  refine ⟨by rw [← r2.length]; exact z, ?_⟩
  have hn : H1 s1.heap.objs.size = none := I1.hok.fresh (Nat.le_refl _)
  have I2 : Inv X pins σ (upd H1 s1.heap.objs.size (.lst (V.str c :: xs))) { s1 with heap := s1.heap.push { cls := .type "list", data := .seq (Value.str c s.toks :: us).toArray } } :=
    I1.laid (t' := s1.toks) (fun b u e => Heap.get?_push_of_some _ e) (Nat.le_refl _) ⟨z, _, 0, r2, Heap.get?_push_size _ rfl⟩
  refine tk (by show 1 ≤ s1.toks; exact h1) (store_ok (v := V.ref s1.heap.objs.size) (u := Value.ref s1.heap.objs.size) (Q := fun _ s2 => Inv X pins (σ.set i (some (V.ref s1.heap.objs.size))) _ s2) I2 hN hi hx rfl (fun _ I3 => I3) hf) fun _ s2 h3 I3 => ?_
  exact h2 pins s2 _ _ D h3 I3 (q _ hn)
end
end FB

set_option Elab.async false
set_option linter.all false
set_option maxRecDepth 100000
set_option maxHeartbeats 8000000
/-! A list comprehension (one clause, no test) whose element wants a token. -/
namespace FB
open PySem L2
section
variable {X : Cx}
theorem pet_lc {elt tg iter : Expr} {scope : Scope} {own : List (Str × Nat)} {pos : Pos} {wi : TI} {g : TG} {te : TE} (hc : X.calm = true) (hN : X.N.Nodup) (hi : PI X tg iter wi) (bk : BlkOk X.N X.env.scope scope own)
    (hg : ∀ (s : Shared) (H : Hp) (C : Addr) (cl : List (Str × Addr)) (fp : List Addr), PG (X.blk s H scope (compEnvC scope cl C X.env) fp) tg g)
    (he : ∀ (s : Shared) (H : Hp) (C : Addr) (cl : List (Str × Addr)) (fp : List Addr), PET (X.blk s H scope (compEnvC scope cl C X.env) fp) elt te) (hs : ∀ x, foldedSetIterable iter X.env x = pure x := by intro _; rfl) :
    PET X (.ListComp elt [⟨tg, iter, [], 0⟩] scope pos) (tLc wi g tYes te (own.map (·.2))) := by
  intro pins s σ H Q t0 I h
  rw [eval_ListComp]
  have caught : ∀ y ∈ scope.names, y.2 = .free → ∃ c, X.env.cells.lookup y.1 = some c := fun y hy e => (bk.free y hy e).elim (fun k => I.ok.has _ (.inl k)) (fun k => I.ok.has _ (.inr k))
  refine wpAny_comprehension_free (use := none) rfl hs (closure_ok caught) bk.kind (fun y hy e => by rw [bk.uniq y hy, e]) ?_
  refine tk t0 (hi.run pins s σ H _ I h) fun src sA tA hA => tk tA hA fun itr sB tB hB => ?_
  obtain ⟨it, fp, tn, J, HB, rfl, IB, T, stB, frB, rd⟩ := hB
  refine wpAny_newObj_type (newEnv_comp ?_) (by show 0 ≤ sizeLine; decide)
  -- the list that is filled, at the first free address
  obtain ⟨D, eD⟩ : ∃ D, D = sB.heap.objs.size := ⟨_, rfl⟩
  have nD : HB D = none := IB.hok.fresh (Nat.le_of_eq eD.symm)
  obtain ⟨W, ⟨m0, w0⟩, turn⟩ := rd D nD
  obtain ⟨sC, eC⟩ : ∃ sC : Shared, sC = { sB with heap := sB.heap.push { cls := .type "list", data := .seq ([] : List Value).toArray } } := ⟨_, rfl⟩
  obtain ⟨HC, eH⟩ : ∃ HC, HC = upd HB D (.lst []) := ⟨_, rfl⟩
  have hpC : sC.heap = sB.heap.push { cls := .type "list", data := .seq ([] : List Value).toArray } := by rw [eC]
  have tC : 1 ≤ sC.toks := by rw [eC]; exact tB
  have IC : Inv X pins σ HC sC := by
    rw [eC, eH]
    refine IB.laid (t' := sB.toks) (fun b o e => Heap.get?_push_of_some _ e) (Nat.le_of_eq eD.symm) ⟨Nat.zero_le _, [], 0, .nil, ?_⟩
    rw [eD]
    exact Heap.get?_push_size _ rfl
  have small : ∀ b ∈ fp, b < sB.heap.objs.size := fun b hb => (T.obj _ _ stB b hb).elim fun o e => Heap.lt_size e.1
  have frC : ∀ b ∈ fp, FpOk X pins HC b ∧ b < sC.heap.objs.size := fun b hb => by
    have lt := small b hb
    have ne : b ≠ D := by
      rw [eD]
      exact Nat.ne_of_lt lt
    exact ⟨⟨by rw [eH, upd_ne ne]; exact (frB b hb).1, (frB b hb).2⟩, by rw [hpC, Heap.size_push]; exact Nat.lt_succ_of_lt lt⟩
  have stC : tn 0 sC.heap := T.keep _ _ _ stB fun b _ o e => by
    rw [hpC]
    exact Heap.get?_push_of_some _ e
  have fpn : ∀ b ∈ fp, HC b = none := fun b hb => (frC b hb).1.1
  have ID := block_start IC bk hN frC
  have g1 := hg sC HC sC.heap.objs.size (cellsFrom (sC.heap.objs.size + 1) scope.names (cloFrom X.env.cells scope.names [])) fp
  have e1 := he sC HC sC.heap.objs.size (cellsFrom (sC.heap.objs.size + 1) scope.names (cloFrom X.env.cells scope.names [])) fp
  rw [← eC, ← eD]
  rw [← eH] at w0
  show codeAny _ _ (.compStart (.ListComp elt [⟨tg, iter, [], 0⟩] scope pos) 0 (.ref it) (.ref D) (compEnvC scope (cellsFrom (sC.heap.objs.size + 1) scope.names (cloFrom X.env.cells scope.names [])) sC.heap.objs.size X.env))
    (compPost (model X.prog X.w) X.A X.xe none (EP X pins σ Q) (.ref D) sC.heap.objs.size) { sC with heap := pushCells (sC.heap.push { cls := .type "dict", data := .dict #[] }) scope.names }
  obtain ⟨ce, ece⟩ : ∃ ce, ce = compEnvC scope (cellsFrom (sC.heap.objs.size + 1) scope.names (cloFrom X.env.cells scope.names [])) sC.heap.objs.size X.env := ⟨_, rfl⟩
  have cL : ce.locals = sC.heap.objs.size := by rw [ece]; rfl
  rw [← ece] at ID g1 e1 ⊢
  obtain ⟨sD, eS⟩ : ∃ sD : Shared, sD = { sC with heap := pushCells (sC.heap.push { cls := .type "dict", data := .dict #[] }) scope.names } := ⟨_, rfl⟩
  have tD : 1 ≤ sD.toks := by rw [eS]; exact tC
  have stD : tn 0 sD.heap := T.keep _ _ _ stC fun b _ o e => by
    rw [eS]
    exact pushCells_keeps _ _ _ _ (Heap.get?_push_of_some _ e)
  rw [← eS] at ID ⊢
  have stay : ∀ {σ' : St} {H' : Hp} {s' : Shared}, Inv (X.blk sC HC scope ce fp) [] σ' H' s' → (∀ b ∈ fp, H' b = none) → ∀ b ∈ fp, FpOk (X.blk sC HC scope ce fp) [] H' b := fun {σ' H' s'} I' hn b hb =>
    ⟨hn b hb, (I'.ok.exf b hb).1, I'.ok.exfs b hb, .inl hb, fun x c e => (I'.ok.exf b hb).2 x c e, fun p hp => nomatch (show p ∈ ([] : List (Addr × Obj)) from hp)⟩
  have loop : codeAny (model X.prog X.w) X.A (.compLoop (.ListComp elt [⟨tg, iter, [], 0⟩] scope pos) 0 (.ref it) (.ref D) ce) (compPost (model X.prog X.w) X.A X.xe none (EP X pins σ Q) (.ref D) sC.heap.objs.size) sD := by
    refine compLoop_any (fun n s' => ∃ i H', 1 ≤ s'.toks ∧ Inv (X.blk sC HC scope ce fp) [] (wipe σ (own.map (·.2))) H' s' ∧ tn i s'.heap ∧ (∀ b ∈ fp, H' b = none) ∧ W i n H') ?_ m0 ⟨0, HC, tD, ID, stD, fpn, w0⟩
    rintro n s5 ⟨i, H5, t5, I5, st5, n5, w5⟩
    rcases turn i n H5 w5 with ⟨stop, fin⟩ | ⟨go, Nx, less, step⟩
    · refine thnF (T.done (X.blk sC HC scope ce fp) rfl rfl rfl hc i [] s5 _ H5 (fun _ _ => False) I5 (stay I5 n5) st5 stop) fun r s6 ⟨hr, I6⟩ => ?_
      subst hr
      have I7 : Inv X pins σ H5 s6 := IC.call' (ch := fp) I6.os I6.base I6.hok I6.bare fun b hb => ⟨(frC b hb).1.2.2.2.1, (frC b hb).1.2.1, (frC b hb).1.2.2.2.2.1, (frC b hb).1.2.2.2.2.2⟩
      have nC : H5 sC.heap.objs.size = none := by
        rw [← cL]
        exact I6.free
      obtain ⟨m, hn, _⟩ := I6.loc
      have hn' : s6.heap.Ns sC.heap.objs.size m := by
        rw [← cL]
        exact hn
      obtain ⟨f0, f1, f2, f3, f4, f5⟩ := IC.fpOk (Nat.le_refl _) nC
      exact ⟨m, hn', fun h'' sb => ⟨.ref D, H5, I7.turned (t' := s6.toks) (fun b o hb e => (sb.2 b hb).trans e) f0 f1 f3 f4 f5, rfl, fin⟩⟩
    · refine tkF t5 (T.item (X.blk sC HC scope ce fp) rfl rfl rfl hc i [] s5 _ H5 (fun _ _ => False) I5 (stay I5 n5) st5 go) fun r s6 t6 ⟨u, hr, h6⟩ => ?_
      subst hr
      refine tkF t6 h6 fun _ s7 t7 ⟨x, H7, I7, r7, y7, st7, n7⟩ => ?_
      have pinned := I7.pinned (stay I7 n7) (T.obj _ _ st7)
      refine tkF t7 (g1.run _ s7 _ H7 x u _ pinned r7 (step x H7 y7)) fun _ s8 t8 ⟨σ8, H8, I8, wp8, q8⟩ => ?_
      refine wpAny_tests_nil ?_
      rw [if_pos rfl]
      refine tkF t8 (e1 _ s8 σ8 H8 _ t8 I8 q8) fun z s10 t10 ⟨yv, H10, I10, r10, acc, d10, z10, nx⟩ => ?_
      refine tkF t10 (app_ok (X := X.blk sC HC scope ce fp) (E := fun _ _ => False) (Q := fun _ s11 => Inv (X.blk sC HC scope ce fp) ([] ++ pinsAt fp s7.heap) σ8 (upd H10 D (.lst (acc ++ [yv]))) s11) I10 d10 z10 r10 fun s11 I11 => I11) fun _ s11 t11 I11 => ?_
      obtain ⟨m', hm, w'⟩ := less _ nx
      have held : ∀ b ∈ fp, ∀ o, s7.heap.get? b = some o → s11.heap.get? b = some o ∧ upd H10 D (.lst (acc ++ [yv])) b = none := fun b hb o e =>
        have p := I11.pin (b, o) (List.mem_append_right _ (List.mem_append_right _ (mem_pinsAt hb e)))
        ⟨p.1, p.2.1⟩
      have len : (wipe σ (own.map (·.2))).length = σ8.length := by rw [← wp8, wipe_length]
      refine ⟨m', hm, i + 1, _, t11, (I11.unpinned (pins := [])).weak len (fun j v e => ?_), T.keep _ _ _ st7 fun b hb o e => (held b hb o e).1, fun b hb => ?_, w'⟩
      · rw [← wp8] at e
        exact (wipe_some e).1
      · obtain ⟨o, e, _⟩ := T.obj _ _ st7 b hb
        exact (held b hb o e).2
  exact codeAny_compStart_list loop (T.self X.A 0 _ _ _ stD loop)
end
end FB

set_option Elab.async false
set_option linter.all false
set_option maxRecDepth 100000
set_option maxHeartbeats 8000000
/-! How long texts and lists of texts grow. -/
namespace FB
open PySem L2
/-- the signs of all lines, a newline for each -/
def tot (ls : List Str) : Nat := (ls.map (·.length)).sum + ls.length
theorem tot_app (as bs : List Str) : tot (as ++ bs) = tot as + tot bs := by
  unfold tot
  rw [List.map_append, List.sum_append, List.length_append]
  omega
theorem tot_cons (x : Str) (r : List Str) : tot (x :: r) = x.length + 1 + tot r := by
  unfold tot
  rw [List.map_cons, List.sum_cons, List.length_cons]
  omega
theorem tot_sub {as bs : List Str} (h : as.Sublist bs) : tot as ≤ tot bs := by
  induction h with
  | slnil => exact Nat.le_refl _
  | cons x _ ih =>
    rw [tot_cons]
    omega
  | cons_cons x _ ih =>
    rw [tot_cons, tot_cons]
    omega
theorem tot_len (ls : List Str) : ls.length ≤ tot ls := Nat.le_add_left _ _
theorem tot_mem {y : Str} : ∀ {ls : List Str}, y ∈ ls → y.length ≤ tot ls
  | x :: r, h => by
    rw [tot_cons]
    rcases List.mem_cons.mp h with e | h
    · rw [e]
      omega
    · have := tot_mem h
      omega
theorem tot_glued : ∀ ls : List Str, (gluedL ls).length = tot ls
  | [] => rfl
  | x :: r => by
    show (x ++ nl ++ gluedL r).length = _
    rw [len_app, len_app, tot_glued r, tot_cons]
    rfl
theorem nl_len : nl.length = 1 := rfl
theorem tot_split (x : Str) : tot (Txt.split x nl) ≤ x.length + 1 := by
  have one : tot [x] = x.length + 1 := by
    rw [tot_cons]
    rfl
  unfold Txt.split
  split
  · exact Nat.le_of_eq one
  · split
    · exact Nat.le_of_eq one
    · show tot (Builtin.Str.partsBetween x (Builtin.Str.occurrences x nl 0 x.length (x.length + 1)) 1) ≤ _
      have h := congrArg Str.length (StrLaws.glued_between_self x nl (x.length + 1))
      rw [size_glued, length_partsBetween, Nat.add_sub_cancel, nl_len] at h
      unfold tot
      rw [length_partsBetween]
      omega
def cutL (ls : List Str) (lo hi : Option Int) : List Str := (ls.drop (HT.sIx ls.length 0 lo)).take (HT.sIx ls.length ls.length hi - HT.sIx ls.length 0 lo)
theorem cutV_map (ls : List Str) (lo hi : Option Int) : cutV (ls.map V.str) lo hi = (cutL ls lo hi).map V.str := by
  unfold cutV cutL
  rw [List.map_take, List.map_drop, List.length_map]
theorem tot_cut (ls : List Str) (lo hi : Option Int) : tot (cutL ls lo hi) ≤ tot ls := tot_sub ((List.take_sublist _ _).trans (List.drop_sublist _ _))
theorem Drew.ne {b D : Addr} {H : Hp} (hb : Box H b) (n : H D = none) : D ≠ b := fun e => by
  obtain ⟨_, _, _, q, _⟩ := hb
  rw [← e, n] at q
  cases q
/-- texts to texts, the box drawn from meanwhile -/
theorem lc_strs {K : PySem.W.Frag} {a D b : Addr} {ys : List Str} {te : TE} {σ : St} {H1 : Hp} {i c : Nat} {Qd : Hp → Prop} (hi : i < σ.length) (hb : Box H1 b) (ha : H1 a = some (.lst (ys.map V.str))) (nab : a ≠ b) (hD : H1 D = none) (hn : tot ys ≤ 1000000)
    (he : ∀ (y : Str) (σ2 : St) (H2 : Hp) (Q : VK), y ∈ ys → Drew b H1 H2 → (∀ j, j ≠ i → σ2[j]? = σ[j]?) → σ2[i]? = some (some (.str y)) → (∀ (o : Str) (H3 : Hp), o.length ≤ y.length + c → Drew b H2 H3 → Q (.str o) H3) → te σ2 H2 Q)
    (hd : ∀ (H' : Hp) (zs : List Str), Drew b H1 H' → H' D = some (.lst (zs.map V.str)) → tot zs ≤ tot ys + c * ys.length → Qd H') : LcAsk (Itl K a) (gName i) tYes te [i] σ H1 D Qd := by
  have nDb := Drew.ne hb hD
  have len := tot_len ys
  refine lc_list (K := K) (a := a) (xs := ys.map V.str) (fun j H => ∃ zs : List Str, Drew b H1 H ∧ H D = some (.lst (zs.map V.str)) ∧ zs.length = j ∧ tot zs ≤ tot (ys.take j) + c * j) ⟨[], (Drew.refl hb).wrote hb hD _, upd_same, rfl, Nat.le_refl _⟩
    (fun j H _ ⟨zs, d, _⟩ => SqL.of (d.but _ _ nab ha)) (fun j x H hx ⟨zs, d, hz, lz, tz⟩ => ?_) (fun H ⟨zs, d, hz, lz, tz⟩ => ?_)
  · rw [List.getElem?_map] at hx
    have hj : j < ys.length := by
      cases e : ys[j]? with
      | none =>
        rw [e] at hx
        cases hx
      | some y => exact (List.getElem?_eq_some_iff.mp e).1
    rw [List.getElem?_eq_getElem hj] at hx
    have ex : V.str ys[j] = x := Option.some.inj hx
    subst ex
    refine ⟨wipe_set, ?_⟩
    unfold tYes
    dsimp only
    rw [if_pos rfl]
    refine he ys[j] _ _ _ (List.getElem_mem hj) d (fun m hm => ?_) (wipe_get hi) fun o H3 ho d3 => ⟨zs.map V.str, d3.but _ _ nDb hz, by rw [List.length_map, lz, sizeLine_eq]; omega, zs ++ [o], (d.trans d3).wrote hb hD _, by rw [upd_same, List.map_append]; rfl, by rw [List.length_append, lz]; rfl, ?_⟩
    · show ((σ.set i none).set i _)[m]? = _
      rw [List.getElem?_set_ne (Ne.symm hm), List.getElem?_set_ne (Ne.symm hm)]
    · rw [tot_app, List.take_add_one, List.getElem?_eq_getElem hj, tot_app]
      show _ + tot [o] ≤ _ + tot [ys[j]] + _
      rw [tot_cons, tot_cons, Nat.mul_add]
      omega
  · rw [List.length_map, List.take_length] at tz
    exact hd H zs d hz tz
end FB

set_option Elab.async false
set_option linter.all false
set_option maxRecDepth 100000
set_option maxHeartbeats 16000000
/-! Other texts: only their length matters. -/
namespace FB
open PySem L2
section
variable {X : Cx} {rest : List Stmt} {st : Stmt} {t u : TS}
theorem psst_cut (h1 : PST X st t) (h2 : PSsT X rest u) : PSsT X (st :: rest) (C8.tCut t u) := by
  intro pins s σ H D h0 I h
  obtain ⟨Mid, q1, q2⟩ := h
  refine wpAny_execs_cons (tk h0 (h1 pins s σ H { D with nx := Mid } h0 I q1) fun f s1 t1 q => ?_)
  cases f with
  | next =>
    obtain ⟨σ1, H1, I1, q⟩ := q
    exact h2 pins s1 σ1 H1 D t1 I1 (q2 σ1 H1 q)
  | ret v => exact q
  | brk => exact q
  | cont => exact q
theorem pst_set {i : Nat} {x : Str} {e : Expr} {te : TE} {pos pos' : Pos} (hN : X.N.Nodup) (hi : X.N[i]? = some x) (hx : Loc X.env.scope x) (he : PET X e te) (hs : swapsWith e (some (.Name x pos')) pos.line X.env = pure false := by rfl)
    (hf : X.fn x = true ∨ X.env.scope.names.lookup x = some .local := by first | exact .inl rfl | exact .inr rfl | assumption) : PST X (.Assign [.Name x pos'] e pos) (tAsg te (gName i)) := by
  intro pins s σ H D h0 I h
  refine wpAny_Assign_Name (tk h0 (he pins s σ H _ h0 I h) fun v s1 _ q => ?_) hs
  obtain ⟨y, H1, I1, r1, q1⟩ := q
  exact store_ok I1 hN hi hx r1 (fun s2 I2 => ⟨_, H1, I2, q1⟩) hf
end
/-- some text of a moderate length -/
def spOther : Sp := fun vs H Q _ => ∃ (b : Addr) (x : Str), vs = [.ref b, .str x] ∧ Box H b ∧ x.length ≤ 160000 ∧ ∀ (H' : Hp) (y : Str), Drew b H H' → y.length ≤ 5 * x.length + 200 → Q (.str y) H'
/-- texts, each at most ten signs -/
def ten : V → Bool
  | .str z => decide (z.length ≤ 10)
  | _ => false
theorem ten_of {xs : List V} (h : xs.all ten = true) {v : V} (hv : v ∈ xs) : ∃ z : Str, v = .str z ∧ z.length ≤ 10 := by
  have q := List.all_eq_true.mp h v hv
  cases v with
  | str z => exact ⟨z, rfl, of_decide_eq_true q⟩
  | _ => cases q
def oddA : List V := ["", "nobody", "ask va", "ask zz", "  found 0", "found 00", "found 1000", "found -1", "found", "ask", "ask va va", "Ask va", "nobody 0", "found x", "ask  va", " nobody"].map fun z => V.str (S z)
def oddB : List V := ["nobody ", "found 0 ", "found +1", "\tnobody"].map fun z => V.str (S z)
def oddV : List V := oddA ++ oddB
theorem odd_ten : oddV.all ten = true := by decide +kernel
section
variable {P : Program} {w : World} {K : PySem.W.Frag} {mg : Str → Option Value} {base : Heap}
theorem ok_other {f : Addr} {fd : FuncData} (D : DefAt K mg "_law_other" sOther ["_law_box", "_law_text"] f fd) (T : Free mg) (dr : Callee P w K mg base CX0 1 "_law_draw" ["_law_box", "_law_many"] spDraw)
    (pk : Callee P w K mg base CX0 2 "_law_pick" ["_law_box", "_law_things"] (spPick K)) : FnOk P w K mg base CX0 3 f fd ["_law_box", "_law_text"] spOther := by
  obtain ⟨f_draw, fd_draw, G_draw, m_draw, k_draw, b_draw⟩ := dr.ex
  obtain ⟨f_pick, fd_pick, G_pick, m_pick, k_pick, b_pick⟩ := pk.ex
  refine D.fn.ok scOther (fun vs H Q E h => ?_) (fun cdv A outer s H vs Q E hr h => ?_)
  · obtain ⟨b, x, rfl, _⟩ := h
    rfl
  · obtain ⟨b, x, rfl, hb, hx, q⟩ := h
    refine ⟨_, (pss_cons (ps_set (i := 2) scOther.nd rfl (.inl rfl) (pe_slice sl_list (pe_split (pv 1) pe_str) po_none (po_some (pe_un un_neg pe_int))))
  (pss_cons (ps_set (i := 3) scOther.nd rfl (.inl rfl) (pe_call G_draw (hr.mono (by omega)) (by rfl) m_draw k_draw b_draw .nil pass0 (pa_cons (pv 0) (pa_cons (pe_op op_add (pe_callB call_len_seq (by rfl) T.len PySem.boot_len (pa_cons (pv 2) pa_nil)) pe_int) pa_nil))))
  (pss_lstT (i := 4) scOther.nd rfl (.inl rfl) (pa_cons pe_str (pa_cons pe_str (pa_cons pe_str (pa_cons pe_str (pa_cons pe_str (pa_cons pe_str (pa_cons pe_str (pa_cons pe_str (pa_cons pe_str (pa_cons pe_str (pa_cons pe_str (pa_cons pe_str (pa_cons pe_str (pa_cons pe_str (pa_cons pe_str pa_nil)))))))))))))))
  (psst_cons (PST.of (ps_set (i := 4) scOther.nd rfl (.inl rfl) (pe_op op_cat (pv 4) (pe_lst (pa_cons pe_str (pa_cons pe_str (pa_cons pe_str (pa_cons pe_str pa_nil))))))))
  (psst_cons (PST.of (ps_set (i := 5) scOther.nd rfl (.inl rfl) (pe_call G_draw (hr.mono (by omega)) (by rfl) m_draw k_draw b_draw .nil pass0 (pa_cons (pv 0) (pa_cons pe_int pa_nil)))))
  (psst_cut (CwR.pst_if (pt_cmpR op_eq (pv 5) pe_int (nomark _))
  (CwR.psst_one (pst_set (i := 2) scOther.nd rfl (.inl rfl) (CwR.pet_op op_cat (CwR.pet_op op_cat (CwR.PET.of (pe_slice sl_list (pv 2) po_none (po_some (pv 3)))) (pet_lc (own := [("_law_line", 6)]) (g := gName 6) (by rfl) scOther.nd (pi_list (pe_slice sl_list (pv 2) (po_some (pv 3)) (po_some (pe_op op_add (pv 3) pe_int)))) (blkOk_by (own := [("_law_line", 6)]) (N := nOther) (sc := defScope sOther) (by decide +kernel)) (fun _ _ _ _ _ => pg_name (i := 6) scOther.nd rfl (Or.inl rfl)) (fun _ _ _ _ _ => pet_once (pv 6)))) (CwR.PET.of (pe_slice sl_list (pv 2) (po_some (pe_op op_add (pv 3) pe_int)) po_none)))))
  (PSsT.of (pss_one (ps_if (pt_cmpR op_eq (pv 5) pe_int (nomark _))
  (pss_one (ps_set (i := 2) scOther.nd rfl (.inl rfl) (pe_op op_cat (pe_slice sl_list (pv 2) po_none (po_some (pv 3))) (pe_slice sl_list (pv 2) (po_some (pe_op op_add (pv 3) pe_int)) po_none))))
  (pss_one (ps_if (pt_cmpR op_eq (pv 5) pe_int (nomark _))
  (pss_one (ps_set (i := 2) scOther.nd rfl (.inl rfl) (pe_op op_cat (pe_op op_cat (pe_slice sl_list (pv 2) po_none (po_some (pv 3))) (pe_slice sl_list (pv 2) (po_some (pv 3)) (po_some (pe_op op_add (pv 3) pe_int)))) (pe_slice sl_list (pv 2) (po_some (pv 3)) po_none))))
  (pss_one (ps_if (pt_cmpR op_eq (pv 5) pe_int (nomark _))
  (pss_one (ps_set (i := 2) scOther.nd rfl (.inl rfl) (pe_op op_cat (pe_op op_cat (pe_slice sl_list (pv 2) po_none (po_some (pv 3))) (pe_lst (pa_cons (pe_call G_pick (hr.mono (by omega)) (by rfl) m_pick k_pick b_pick .nil pass0 (pa_cons (pv 0) (pa_cons (pv 4) pa_nil))) pa_nil))) (pe_slice sl_list (pv 2) (po_some (pv 3)) po_none))))
  (pss_one (ps_if (pt_cmpR op_eq (pv 5) pe_int (nomark _))
  (pss_one (ps_set (i := 2) scOther.nd rfl (.inl rfl) (pe_op op_cat (pe_op op_cat (pe_slice sl_list (pv 2) po_none (po_some (pv 3))) (pe_lc (own := [("_law_line", 6)]) (g := gName 6) (by rfl) scOther.nd (pi_list (pe_slice sl_list (pv 2) (po_some (pv 3)) (po_some (pe_op op_add (pv 3) pe_int)))) (blkOk_by (own := [("_law_line", 6)]) (N := nOther) (sc := defScope sOther) (by decide +kernel)) (fun _ _ _ _ _ => pg_name (i := 6) scOther.nd rfl (Or.inl rfl)) (fun _ _ _ _ _ => pts_nil) (fun _ _ _ _ _ => (pe_op op_add_str (pe_call G_pick (hr.mono (by omega)) (by rfl) m_pick k_pick b_pick .nil pass0 (pa_cons (pv 0) (pa_cons (pe_lst (pa_cons pe_str (pa_cons pe_str pa_nil))) pa_nil))) (pv 6))))) (pe_slice sl_list (pv 2) (po_some (pe_op op_add (pv 3) pe_int)) po_none))))
  (pss_one (ps_if (pt_cmpR op_eq (pv 5) pe_int (nomark _))
  (pss_one (ps_set (i := 2) scOther.nd rfl (.inl rfl) (pe_op op_cat (pe_op op_cat (pe_slice sl_list (pv 2) po_none (po_some (pv 3))) (pe_lc (own := [("_law_line", 6)]) (g := gName 6) (by rfl) scOther.nd (pi_list (pe_slice sl_list (pv 2) (po_some (pv 3)) (po_some (pe_op op_add (pv 3) pe_int)))) (blkOk_by (own := [("_law_line", 6)]) (N := nOther) (sc := defScope sOther) (by decide +kernel)) (fun _ _ _ _ _ => pg_name (i := 6) scOther.nd rfl (Or.inl rfl)) (fun _ _ _ _ _ => pts_nil) (fun _ _ _ _ _ => (pe_slice sl_str (pv 6) (po_some pe_int) po_none)))) (pe_slice sl_list (pv 2) (po_some (pe_op op_add (pv 3) pe_int)) po_none))))
  (pss_one (ps_set (i := 2) scOther.nd rfl (.inl rfl) (pe_op op_cat (pe_op op_cat (pe_slice sl_list (pv 2) po_none (po_some (pv 3))) (pe_lst (pa_cons (pe_op op_add_str (pe_op op_mulS pe_str (pe_call G_draw (hr.mono (by omega)) (by rfl) m_draw k_draw b_draw .nil pass0 (pa_cons (pv 0) (pa_cons pe_int pa_nil)))) (pe_call G_pick (hr.mono (by omega)) (by rfl) m_pick k_pick b_pick .nil pass0 (pa_cons (pv 0) (pa_cons (pv 4) pa_nil)))) pa_nil))) (pe_slice sl_list (pv 2) (po_some (pe_op op_add (pv 3) pe_int)) po_none))))))))))))))))
  (CwR.psst_one (PST.of (ps_ret (pe_join pe_str (pe_lc (own := [("_law_line", 6)]) (g := gName 6) (by rfl) scOther.nd (pi_list (pv 2)) (blkOk_by (own := [("_law_line", 6)]) (N := nOther) (sc := defScope sOther) (by decide +kernel)) (fun _ _ _ _ _ => pg_name (i := 6) scOther.nd rfl (Or.inl rfl)) (fun _ _ _ _ _ => pts_nil) (fun _ _ _ _ _ => (pe_op op_add_str (pv 6) pe_str))))))))))))), ?_⟩
    have hline : x.length + 2 ≤ sizeLine := by rw [sizeLine_eq]; omega
    refine ⟨_, rfl, ⟨_, rfl⟩, x, _, rfl, rfl, by decide +kernel, hline, fun W nW => ?_⟩
    rw [nl_eq]
    have dW := (Drew.refl hb).same (Same.new nW (.lst ((Txt.split x nl).map V.str)))
    have hW : upd H W (.lst ((Txt.split x nl).map V.str)) W = some (.lst ((Txt.split x nl).map V.str)) := upd_same
    generalize upd H W (.lst ((Txt.split x nl).map V.str)) = H1 at dW hW
    refine ⟨_, rfl, _, rfl, W, _, rfl, SqL.of hW, fun L nL => ?_⟩
    rw [cutV_map]
    obtain ⟨ls, els⟩ : ∃ ls, ls = cutL (Txt.split x nl) none (some (-1)) := ⟨_, rfl⟩
    have tl : tot ls ≤ x.length + 1 := by
      rw [els]
      exact Nat.le_trans (tot_cut _ _ _) (tot_split x)
    show Ends.nx _ _ (upd H1 L (.lst ((cutL (Txt.split x nl) none (some (-1))).map V.str)))
    rw [← els]
    have lenL := tot_len ls
    have dL := dW.same (Same.new nL (.lst (ls.map V.str)))
    have hL : upd H1 L (.lst (ls.map V.str)) L = some (.lst (ls.map V.str)) := upd_same
    have nLb : L ≠ b := Drew.ne dW.box nL
    generalize upd H1 L (.lst (ls.map V.str)) = H2 at dL hL
    refine ⟨_, rfl, _, rfl, L, _, rfl, .inl (SqL.of hL), _, _, rfl, rfl, b, _, rfl, dL.box, by rw [List.length_map]; omega, fun H3 at0 d3 a0 a1 => ?_⟩
    have hL3 := d3.but _ _ nLb hL
    have D3 := dL.trans d3
    refine ⟨(by show 16 ≤ sizeLine; decide), fun O nO => ?_⟩
    have hO1 : ∀ o, upd H3 O o O = some o := fun o => upd_same
    refine ⟨_, rfl, (by show 4 ≤ sizeLine; decide), fun O2 nO2 => ?_⟩
    refine ⟨O, O2, _, _, rfl, rfl, (by rw [upd_ne (ne_of_none upd_same nO2)]; exact upd_same), upd_same, (by rw [sizeLine_eq]; decide +kernel), fun O3 nO3 => ?_⟩
    show Ends.nx _ _ (upd (upd (upd H3 O (.lst oddA)) O2 (.lst oddB)) O3 (.lst oddV))
    have s4 : Same H3 (upd (upd (upd H3 O (.lst oddA)) O2 (.lst oddB)) O3 (.lst oddV)) := ((Same.new nO _).trans (Same.new nO2 _)).trans (Same.new nO3 _)
    have hO : upd (upd (upd H3 O (.lst oddA)) O2 (.lst oddB)) O3 (.lst oddV) O3 = some (.lst oddV) := upd_same
    have nOb : O3 ≠ b := Drew.ne (((D3.same (Same.new nO (.lst oddA))).same (Same.new nO2 (.lst oddB))).box) nO3
    have D4 := D3.same s4
    have hL4 := s4 _ _ hL3
    generalize upd (upd (upd H3 O (.lst oddA)) O2 (.lst oddB)) O3 (.lst oddV) = H4 at s4 hO D4 hL4
    refine ⟨_, rfl, b, 7, rfl, D4.box, by decide, fun H5 kd d5 k0 k1 => ?_⟩
    have D5 := D4.trans d5
    have hL5 := d5.but _ _ nLb hL4
    have hO5 := d5.but _ _ nOb hO
    refine ⟨fun σ2 H6 => ∃ (L2 : Addr) (zs : List Str), σ2.length = 7 ∧ σ2[2]? = some (some (.ref L2)) ∧ Drew b H H6 ∧ H6 L2 = some (.lst (zs.map V.str)) ∧ tot zs ≤ 5 * tot ls + 20, ?_, ?_⟩
    · have bx := D5.box
      have few : ∀ lo hi, (cutV (ls.map V.str) lo hi).length ≤ 200000 := fun lo hi => by
        have := cutV_length (ls.map V.str) lo hi
        rw [List.length_map] at this
        omega
      have small : ∀ {as bs : List V}, as.length ≤ 1000000 → bs.length ≤ 1000000 → as.length + bs.length ≤ sizeLine := fun {as bs} h1 h2 => by
        rw [sizeLine_eq]
        omega
      have cl : ∀ lo hi, tot (cutL ls lo hi) ≤ tot ls := fun lo hi => tot_cut ls lo hi
      have cn : ∀ lo hi, ((cutL ls lo hi).map V.str).length ≤ 200000 := fun lo hi => by
        have h1 := tot_len (cutL ls lo hi)
        have h2 := cl lo hi
        rw [List.length_map]
        omega
      have mp : ∀ {as bs : List Str}, as.map V.str ++ bs.map V.str = (as ++ bs).map V.str := fun {as bs} => List.map_append.symm
      have fin : ∀ {H6 : Hp} {p : Addr} {zs : List Str} {σ2 : St}, σ2.length = 7 → σ2[2]? = some (some (.ref p)) → Drew b H5 H6 → H6 p = some (.lst (zs.map V.str)) → tot zs ≤ 5 * tot ls + 20 →
          ∃ (L2 : Addr) (zs : List Str), σ2.length = 7 ∧ σ2[2]? = some (some (.ref L2)) ∧ Drew b H H6 ∧ H6 L2 = some (.lst (zs.map V.str)) ∧ tot zs ≤ 5 * tot ls + 20 := fun {H6 p zs σ2} e1 e2 d e3 e4 => ⟨p, zs, e1, e2, D5.trans d, e3, e4⟩
      refine ⟨_, rfl, rfl, _, rfl, ite2 (fun _ => ?_) (fun _ => ⟨_, rfl, rfl, _, rfl, ite2 (fun _ => ?_) (fun _ => ⟨_, rfl, rfl, _, rfl, ite2 (fun _ => ?_) (fun _ => ⟨_, rfl, rfl, _, rfl, ite2 (fun _ => ?_) (fun _ =>
        ⟨_, rfl, rfl, _, rfl, ite2 (fun _ => ?_) (fun _ => ⟨_, rfl, rfl, _, rfl, ite2 (fun _ => ?_) (fun _ => ?_)⟩)⟩)⟩)⟩)⟩)⟩
      · refine ⟨_, rfl, _, rfl, _, rfl, L, _, rfl, SqL.of hL5, fun p1 np1 => ?_⟩
        rw [cutV_map]
        have d1 := (Drew.refl bx).same (Same.new np1 (.lst ((cutL ls none (some at0)).map V.str)))
        have h1 : upd H5 p1 (.lst ((cutL ls none (some at0)).map V.str)) p1 = some (.lst ((cutL ls none (some at0)).map V.str)) := upd_same
        have hL6 := (Same.new np1 (.lst ((cutL ls none (some at0)).map V.str))) _ _ hL5
        have hO6 := (Same.new np1 (.lst ((cutL ls none (some at0)).map V.str))) _ _ hO5
        have n1 : p1 ≠ b := Drew.ne bx np1
        have c1 := cl none (some at0)
        have l1 := cn none (some at0)
        generalize upd H5 p1 (.lst ((cutL ls none (some at0)).map V.str)) = H6 at d1 h1 hL6 hO6 ⊢
        refine ⟨_, rfl, _, rfl, _, rfl, _, rfl, _, _, rfl, rfl, _, rfl, L, _, rfl, SqL.of hL6, fun p2 np2 => ?_⟩
        rw [cutV_map]
        have s2 := Same.new np2 (.lst ((cutL ls (some at0) (some (at0 + 1))).map V.str))
        have tb := cl (some at0) (some (at0 + 1))
        have lb := tot_len (cutL ls (some at0) (some (at0 + 1)))
        have d2 := d1.same s2
        have h2 : upd H6 p2 (.lst ((cutL ls (some at0) (some (at0 + 1))).map V.str)) p2 = some (.lst ((cutL ls (some at0) (some (at0 + 1))).map V.str)) := upd_same
        have h12 := s2 _ _ h1
        have n2 : p2 ≠ b := Drew.ne d1.box np2
        generalize upd H6 p2 (.lst ((cutL ls (some at0) (some (at0 + 1))).map V.str)) = H7 at d2 h2 h12 ⊢
        refine ⟨p2, rfl, ⟨_, SqL.of h2⟩, fun Dl nD => lc_strs (c := 2) (b := b) (by show 6 < 7; decide) d2.box h2 n2 nD (by omega) (fun y σ3 H9 Q3 hy d9 hoth hs q3 => ?_) (fun H9 zs d9 hD tz => ?_)⟩
        · refine ⟨_, hs, y, rfl, ?_, fun o ho => q3 o _ ho (Drew.refl d9.box)⟩
          have := tot_mem hy
          show y.length + 2 ≤ _
          omega
        have dd := d2.trans d9
        have h19 := d9.but _ _ n1 h12
        have lz := tot_len zs
        refine ⟨p1, Dl, _, _, rfl, rfl, h19, hD, small (Nat.le_trans l1 (by decide)) (by rw [List.length_map]; omega), fun p3 np3 => ?_⟩
        rw [mp]
        have s3 := Same.new np3 (.lst ((cutL ls none (some at0) ++ zs).map V.str))
        have h3 : upd H9 p3 (.lst ((cutL ls none (some at0) ++ zs).map V.str)) p3 = some (.lst ((cutL ls none (some at0) ++ zs).map V.str)) := upd_same
        have hL8 := s3 _ _ (dd.but _ _ nLb hL5)
        have d3' := dd.same s3
        generalize upd H9 p3 (.lst ((cutL ls none (some at0) ++ zs).map V.str)) = H8 at h3 hL8 d3' ⊢
        refine ⟨_, rfl, _, rfl, _, _, rfl, rfl, _, rfl, L, _, rfl, SqL.of hL8, fun p4 np4 => ?_⟩
        rw [cutV_map]
        have s4' := Same.new np4 (.lst ((cutL ls (some (at0 + 1)) none).map V.str))
        have tc := cl (some (at0 + 1)) none
        have lc := cn (some (at0 + 1)) none
        have l3 := tot_len (cutL ls none (some at0) ++ zs)
        have t3 := tot_app (cutL ls none (some at0)) zs
        refine ⟨p3, p4, _, _, rfl, rfl, s4' _ _ h3, upd_same, small (by rw [List.length_map]; omega) (Nat.le_trans lc (by decide)), fun p5 np5 => ?_⟩
        rw [mp]
        refine fin rfl rfl ((d3'.same s4').same (Same.new np5 _)) upd_same ?_
        rw [tot_app, tot_app]
        omega
      · refine ⟨_, rfl, _, rfl, _, rfl, L, _, rfl, SqL.of hL5, fun p1 np1 => ?_⟩
        rw [cutV_map]
        have d1 := (Drew.refl bx).same (Same.new np1 (.lst ((cutL ls none (some at0)).map V.str)))
        have h1 : upd H5 p1 (.lst ((cutL ls none (some at0)).map V.str)) p1 = some (.lst ((cutL ls none (some at0)).map V.str)) := upd_same
        have hL6 := (Same.new np1 (.lst ((cutL ls none (some at0)).map V.str))) _ _ hL5
        have hO6 := (Same.new np1 (.lst ((cutL ls none (some at0)).map V.str))) _ _ hO5
        have n1 : p1 ≠ b := Drew.ne bx np1
        have c1 := cl none (some at0)
        have l1 := cn none (some at0)
        generalize upd H5 p1 (.lst ((cutL ls none (some at0)).map V.str)) = H6 at d1 h1 hL6 hO6 ⊢
        refine ⟨_, rfl, _, rfl, _, _, rfl, rfl, _, rfl, L, _, rfl, SqL.of hL6, fun p2 np2 => ?_⟩
        rw [cutV_map]
        have s2 := Same.new np2 (.lst ((cutL ls (some (at0 + 1)) none).map V.str))
        refine ⟨p1, p2, _, _, rfl, rfl, s2 _ _ h1, upd_same, small (Nat.le_trans l1 (by decide)) (Nat.le_trans (cn _ _) (by decide)), fun p3 np3 => ?_⟩
        rw [mp]
        refine fin rfl rfl ((d1.same s2).same (Same.new np3 _)) upd_same ?_
        have := cl (some (at0 + 1)) none
        rw [tot_app]
        omega
      · refine ⟨_, rfl, _, rfl, _, rfl, L, _, rfl, SqL.of hL5, fun p1 np1 => ?_⟩
        rw [cutV_map]
        have d1 := (Drew.refl bx).same (Same.new np1 (.lst ((cutL ls none (some at0)).map V.str)))
        have h1 : upd H5 p1 (.lst ((cutL ls none (some at0)).map V.str)) p1 = some (.lst ((cutL ls none (some at0)).map V.str)) := upd_same
        have hL6 := (Same.new np1 (.lst ((cutL ls none (some at0)).map V.str))) _ _ hL5
        have hO6 := (Same.new np1 (.lst ((cutL ls none (some at0)).map V.str))) _ _ hO5
        have n1 : p1 ≠ b := Drew.ne bx np1
        have c1 := cl none (some at0)
        have l1 := cn none (some at0)
        generalize upd H5 p1 (.lst ((cutL ls none (some at0)).map V.str)) = H6 at d1 h1 hL6 hO6 ⊢
        refine ⟨_, rfl, _, rfl, _, rfl, _, rfl, _, _, rfl, rfl, _, rfl, L, _, rfl, SqL.of hL6, fun p2 np2 => ?_⟩
        rw [cutV_map]
        have s2 := Same.new np2 (.lst ((cutL ls (some at0) (some (at0 + 1))).map V.str))
        have tb := cl (some at0) (some (at0 + 1))
        have d2 := d1.same s2
        have h2 : upd H6 p2 (.lst ((cutL ls (some at0) (some (at0 + 1))).map V.str)) p2 = some (.lst ((cutL ls (some at0) (some (at0 + 1))).map V.str)) := upd_same
        have h12 := s2 _ _ h1
        generalize upd H6 p2 (.lst ((cutL ls (some at0) (some (at0 + 1))).map V.str)) = H7 at d2 h2 h12 ⊢
        refine ⟨p1, p2, _, _, rfl, rfl, h12, h2, small (Nat.le_trans l1 (by decide)) (Nat.le_trans (cn _ _) (by decide)), fun p3 np3 => ?_⟩
        rw [mp]
        have s3 := Same.new np3 (.lst ((cutL ls none (some at0) ++ (cutL ls (some at0) (some (at0 + 1)))).map V.str))
        have h3 : upd H7 p3 (.lst ((cutL ls none (some at0) ++ (cutL ls (some at0) (some (at0 + 1)))).map V.str)) p3 = some (.lst ((cutL ls none (some at0) ++ (cutL ls (some at0) (some (at0 + 1)))).map V.str)) := upd_same
        have hL8 := s3 _ _ (d2.but _ _ nLb hL5)
        have d3' := d2.same s3
        generalize upd H7 p3 (.lst ((cutL ls none (some at0) ++ (cutL ls (some at0) (some (at0 + 1)))).map V.str)) = H8 at h3 hL8 d3' ⊢
        refine ⟨_, rfl, _, rfl, _, rfl, L, _, rfl, SqL.of hL8, fun p4 np4 => ?_⟩
        rw [cutV_map]
        have s4' := Same.new np4 (.lst ((cutL ls (some at0) none).map V.str))
        have tc := cl (some at0) none
        have lc := cn (some at0) none
        have l3 := tot_len (cutL ls none (some at0) ++ (cutL ls (some at0) (some (at0 + 1))))
        have t3 := tot_app (cutL ls none (some at0)) (cutL ls (some at0) (some (at0 + 1)))
        refine ⟨p3, p4, _, _, rfl, rfl, s4' _ _ h3, upd_same, small (by rw [List.length_map]; omega) (Nat.le_trans lc (by decide)), fun p5 np5 => ?_⟩
        rw [mp]
        refine fin rfl rfl ((d3'.same s4').same (Same.new np5 _)) upd_same ?_
        rw [tot_app, tot_app]
        omega
      · refine ⟨_, rfl, _, rfl, _, rfl, L, _, rfl, SqL.of hL5, fun p1 np1 => ?_⟩
        rw [cutV_map]
        have d1 := (Drew.refl bx).same (Same.new np1 (.lst ((cutL ls none (some at0)).map V.str)))
        have h1 : upd H5 p1 (.lst ((cutL ls none (some at0)).map V.str)) p1 = some (.lst ((cutL ls none (some at0)).map V.str)) := upd_same
        have hL6 := (Same.new np1 (.lst ((cutL ls none (some at0)).map V.str))) _ _ hL5
        have hO6 := (Same.new np1 (.lst ((cutL ls none (some at0)).map V.str))) _ _ hO5
        have n1 : p1 ≠ b := Drew.ne bx np1
        have c1 := cl none (some at0)
        have l1 := cn none (some at0)
        generalize upd H5 p1 (.lst ((cutL ls none (some at0)).map V.str)) = H6 at d1 h1 hL6 hO6 ⊢
        refine ⟨_, rfl, _, rfl, b, O3, oddV, rfl, d1.box, nOb, hO6, (by decide +kernel), (by decide +kernel), fun H7 v d7 hv => ?_⟩
        obtain ⟨z, rfl, hz⟩ := ten_of odd_ten hv
        refine ⟨(by show 1 ≤ sizeLine; decide), fun p2 np2 => ?_⟩
        have d2 := (d1.trans d7).same (Same.new np2 (.lst ([z].map V.str)))
        have h2 : upd H7 p2 (.lst ([z].map V.str)) p2 = some (.lst ([z].map V.str)) := upd_same
        have h12 := (Same.new np2 (.lst ([z].map V.str))) _ _ (d7.but _ _ n1 h1)
        have tz : tot [z] ≤ 11 := by
          rw [tot_cons]
          show z.length + 1 + 0 ≤ 11
          omega
        generalize e77 : upd H7 p2 (.lst ([z].map V.str)) = H77 at d2 h2 h12
        show rCat (.ref p1) (.ref p2) (upd H7 p2 (.lst ([z].map V.str))) _
        rw [e77]
        refine ⟨p1, p2, _, _, rfl, rfl, h12, h2, small (Nat.le_trans l1 (by decide)) (by show 1 ≤ 1000000; decide), fun p3 np3 => ?_⟩
        rw [mp]
        have s3 := Same.new np3 (.lst ((cutL ls none (some at0) ++ [z]).map V.str))
        have h3 : upd H77 p3 (.lst ((cutL ls none (some at0) ++ [z]).map V.str)) p3 = some (.lst ((cutL ls none (some at0) ++ [z]).map V.str)) := upd_same
        have hL8 := s3 _ _ (d2.but _ _ nLb hL5)
        have d3' := d2.same s3
        generalize upd H77 p3 (.lst ((cutL ls none (some at0) ++ [z]).map V.str)) = H8 at h3 hL8 d3' ⊢
        refine ⟨_, rfl, _, rfl, _, rfl, L, _, rfl, SqL.of hL8, fun p4 np4 => ?_⟩
        rw [cutV_map]
        have s4' := Same.new np4 (.lst ((cutL ls (some at0) none).map V.str))
        have tc := cl (some at0) none
        have lc := cn (some at0) none
        have l3 := tot_len (cutL ls none (some at0) ++ [z])
        have t3 := tot_app (cutL ls none (some at0)) [z]
        refine ⟨p3, p4, _, _, rfl, rfl, s4' _ _ h3, upd_same, small (by rw [List.length_map]; omega) (Nat.le_trans lc (by decide)), fun p5 np5 => ?_⟩
        rw [mp]
        refine fin rfl rfl ((d3'.same s4').same (Same.new np5 _)) upd_same ?_
        rw [tot_app, tot_app]
        omega
      · refine ⟨_, rfl, _, rfl, _, rfl, L, _, rfl, SqL.of hL5, fun p1 np1 => ?_⟩
        rw [cutV_map]
        have d1 := (Drew.refl bx).same (Same.new np1 (.lst ((cutL ls none (some at0)).map V.str)))
        have h1 : upd H5 p1 (.lst ((cutL ls none (some at0)).map V.str)) p1 = some (.lst ((cutL ls none (some at0)).map V.str)) := upd_same
        have hL6 := (Same.new np1 (.lst ((cutL ls none (some at0)).map V.str))) _ _ hL5
        have hO6 := (Same.new np1 (.lst ((cutL ls none (some at0)).map V.str))) _ _ hO5
        have n1 : p1 ≠ b := Drew.ne bx np1
        have c1 := cl none (some at0)
        have l1 := cn none (some at0)
        generalize upd H5 p1 (.lst ((cutL ls none (some at0)).map V.str)) = H6 at d1 h1 hL6 hO6 ⊢
        refine ⟨_, rfl, _, rfl, _, rfl, _, rfl, _, _, rfl, rfl, _, rfl, L, _, rfl, SqL.of hL6, fun p2 np2 => ?_⟩
        rw [cutV_map]
        have s2 := Same.new np2 (.lst ((cutL ls (some at0) (some (at0 + 1))).map V.str))
        have tb := cl (some at0) (some (at0 + 1))
        have lb := tot_len (cutL ls (some at0) (some (at0 + 1)))
        have d2 := d1.same s2
        have h2 : upd H6 p2 (.lst ((cutL ls (some at0) (some (at0 + 1))).map V.str)) p2 = some (.lst ((cutL ls (some at0) (some (at0 + 1))).map V.str)) := upd_same
        have h12 := s2 _ _ h1
        have n2 : p2 ≠ b := Drew.ne d1.box np2
        generalize upd H6 p2 (.lst ((cutL ls (some at0) (some (at0 + 1))).map V.str)) = H7 at d2 h2 h12 ⊢
        refine ⟨p2, rfl, ⟨_, SqL.of h2⟩, fun Dl nD => lc_strs (c := 2) (b := b) (by show 6 < 7; decide) d2.box h2 n2 nD (by omega) (fun y σ3 H9 Q3 hy d9 hoth hs q3 => ?_) (fun H9 zs d9 hD tz => ?_)⟩
        · refine ⟨_, hoth 0 (by decide), (by show 2 ≤ sizeLine; decide), fun r nr => ?_⟩
          have dr2 := (Drew.refl d9.box).same (Same.new nr (.lst [.str (S "  "), .str (S " ")]))
          refine ⟨b, r, _, rfl, dr2.box, Drew.ne d9.box nr, upd_same, (by show 0 < 2; decide), (by show 2 ≤ 1000; decide), fun H10 v d10 hv => ?_⟩
          obtain ⟨z, ez, hz⟩ : ∃ z : Str, v = .str z ∧ z.length ≤ 2 := by
            rcases List.mem_cons.mp hv with e | hv
            · exact ⟨_, e, by decide +kernel⟩
            · exact ⟨_, List.mem_singleton.mp hv, by decide +kernel⟩
          have := tot_mem hy
          refine ⟨_, hs, z, y, ez, rfl, by rw [sizeLine_eq]; omega, q3 _ _ ?_ (dr2.trans d10)⟩
          rw [len_app]
          omega
        have dd := d2.trans d9
        have h19 := d9.but _ _ n1 h12
        have lz := tot_len zs
        refine ⟨p1, Dl, _, _, rfl, rfl, h19, hD, small (Nat.le_trans l1 (by decide)) (by rw [List.length_map]; omega), fun p3 np3 => ?_⟩
        rw [mp]
        have s3 := Same.new np3 (.lst ((cutL ls none (some at0) ++ zs).map V.str))
        have h3 : upd H9 p3 (.lst ((cutL ls none (some at0) ++ zs).map V.str)) p3 = some (.lst ((cutL ls none (some at0) ++ zs).map V.str)) := upd_same
        have hL8 := s3 _ _ (dd.but _ _ nLb hL5)
        have d3' := dd.same s3
        generalize upd H9 p3 (.lst ((cutL ls none (some at0) ++ zs).map V.str)) = H8 at h3 hL8 d3' ⊢
        refine ⟨_, rfl, _, rfl, _, _, rfl, rfl, _, rfl, L, _, rfl, SqL.of hL8, fun p4 np4 => ?_⟩
        rw [cutV_map]
        have s4' := Same.new np4 (.lst ((cutL ls (some (at0 + 1)) none).map V.str))
        have tc := cl (some (at0 + 1)) none
        have lc := cn (some (at0 + 1)) none
        have l3 := tot_len (cutL ls none (some at0) ++ zs)
        have t3 := tot_app (cutL ls none (some at0)) zs
        refine ⟨p3, p4, _, _, rfl, rfl, s4' _ _ h3, upd_same, small (by rw [List.length_map]; omega) (Nat.le_trans lc (by decide)), fun p5 np5 => ?_⟩
        rw [mp]
        refine fin rfl rfl ((d3'.same s4').same (Same.new np5 _)) upd_same ?_
        rw [tot_app, tot_app]
        omega
      · refine ⟨_, rfl, _, rfl, _, rfl, L, _, rfl, SqL.of hL5, fun p1 np1 => ?_⟩
        rw [cutV_map]
        have d1 := (Drew.refl bx).same (Same.new np1 (.lst ((cutL ls none (some at0)).map V.str)))
        have h1 : upd H5 p1 (.lst ((cutL ls none (some at0)).map V.str)) p1 = some (.lst ((cutL ls none (some at0)).map V.str)) := upd_same
        have hL6 := (Same.new np1 (.lst ((cutL ls none (some at0)).map V.str))) _ _ hL5
        have hO6 := (Same.new np1 (.lst ((cutL ls none (some at0)).map V.str))) _ _ hO5
        have n1 : p1 ≠ b := Drew.ne bx np1
        have c1 := cl none (some at0)
        have l1 := cn none (some at0)
        generalize upd H5 p1 (.lst ((cutL ls none (some at0)).map V.str)) = H6 at d1 h1 hL6 hO6 ⊢
        refine ⟨_, rfl, _, rfl, _, rfl, _, rfl, _, _, rfl, rfl, _, rfl, L, _, rfl, SqL.of hL6, fun p2 np2 => ?_⟩
        rw [cutV_map]
        have s2 := Same.new np2 (.lst ((cutL ls (some at0) (some (at0 + 1))).map V.str))
        have tb := cl (some at0) (some (at0 + 1))
        have lb := tot_len (cutL ls (some at0) (some (at0 + 1)))
        have d2 := d1.same s2
        have h2 : upd H6 p2 (.lst ((cutL ls (some at0) (some (at0 + 1))).map V.str)) p2 = some (.lst ((cutL ls (some at0) (some (at0 + 1))).map V.str)) := upd_same
        have h12 := s2 _ _ h1
        have n2 : p2 ≠ b := Drew.ne d1.box np2
        generalize upd H6 p2 (.lst ((cutL ls (some at0) (some (at0 + 1))).map V.str)) = H7 at d2 h2 h12 ⊢
        refine ⟨p2, rfl, ⟨_, SqL.of h2⟩, fun Dl nD => lc_strs (c := 0) (b := b) (by show 6 < 7; decide) d2.box h2 n2 nD (by omega) (fun y σ3 H9 Q3 hy d9 hoth hs q3 => ?_) (fun H9 zs d9 hD tz => ?_)⟩
        · refine ⟨_, hs, _, rfl, y, rfl, ?_, q3 _ _ (cut_len y (some 1) none) (Drew.refl d9.box)⟩
          have := tot_mem hy
          rw [sizeLine_eq]
          omega
        have dd := d2.trans d9
        have h19 := d9.but _ _ n1 h12
        have lz := tot_len zs
        refine ⟨p1, Dl, _, _, rfl, rfl, h19, hD, small (Nat.le_trans l1 (by decide)) (by rw [List.length_map]; omega), fun p3 np3 => ?_⟩
        rw [mp]
        have s3 := Same.new np3 (.lst ((cutL ls none (some at0) ++ zs).map V.str))
        have h3 : upd H9 p3 (.lst ((cutL ls none (some at0) ++ zs).map V.str)) p3 = some (.lst ((cutL ls none (some at0) ++ zs).map V.str)) := upd_same
        have hL8 := s3 _ _ (dd.but _ _ nLb hL5)
        have d3' := dd.same s3
        generalize upd H9 p3 (.lst ((cutL ls none (some at0) ++ zs).map V.str)) = H8 at h3 hL8 d3' ⊢
        refine ⟨_, rfl, _, rfl, _, _, rfl, rfl, _, rfl, L, _, rfl, SqL.of hL8, fun p4 np4 => ?_⟩
        rw [cutV_map]
        have s4' := Same.new np4 (.lst ((cutL ls (some (at0 + 1)) none).map V.str))
        have tc := cl (some (at0 + 1)) none
        have lc := cn (some (at0 + 1)) none
        have l3 := tot_len (cutL ls none (some at0) ++ zs)
        have t3 := tot_app (cutL ls none (some at0)) zs
        refine ⟨p3, p4, _, _, rfl, rfl, s4' _ _ h3, upd_same, small (by rw [List.length_map]; omega) (Nat.le_trans lc (by decide)), fun p5 np5 => ?_⟩
        rw [mp]
        refine fin rfl rfl ((d3'.same s4').same (Same.new np5 _)) upd_same ?_
        rw [tot_app, tot_app]
        omega
      · refine ⟨_, rfl, _, rfl, _, rfl, L, _, rfl, SqL.of hL5, fun p1 np1 => ?_⟩
        rw [cutV_map]
        have d1 := (Drew.refl bx).same (Same.new np1 (.lst ((cutL ls none (some at0)).map V.str)))
        have h1 : upd H5 p1 (.lst ((cutL ls none (some at0)).map V.str)) p1 = some (.lst ((cutL ls none (some at0)).map V.str)) := upd_same
        have hL6 := (Same.new np1 (.lst ((cutL ls none (some at0)).map V.str))) _ _ hL5
        have hO6 := (Same.new np1 (.lst ((cutL ls none (some at0)).map V.str))) _ _ hO5
        have n1 : p1 ≠ b := Drew.ne bx np1
        have c1 := cl none (some at0)
        have l1 := cn none (some at0)
        generalize upd H5 p1 (.lst ((cutL ls none (some at0)).map V.str)) = H6 at d1 h1 hL6 hO6 ⊢
        refine ⟨_, rfl, b, 5, rfl, d1.box, by decide, fun H7 kz d7 z0 z5 => ⟨kz.toNat, rfl, by rw [Int.toNat_of_nonneg z0], by omega, ?_⟩⟩
        have hO7 := d7.but _ _ nOb hO6
        refine ⟨_, rfl, _, rfl, b, O3, oddV, rfl, d7.box, nOb, hO7, (by decide +kernel), (by decide +kernel), fun H8 v d8 hv => ?_⟩
        obtain ⟨z2, rfl, hz2⟩ := ten_of odd_ten hv
        have ls5 := sp_len kz.toNat
        refine ⟨_, z2, rfl, rfl, by rw [sizeLine_eq]; omega, ?_⟩
        obtain ⟨z, ez, hz⟩ : ∃ z : Str, sp kz.toNat ++ z2 = z ∧ z.length ≤ 18 := ⟨_, rfl, by rw [len_app]; omega⟩
        rw [ez]
        have d8' := d7.trans d8
        refine ⟨(by show 1 ≤ sizeLine; decide), fun p2 np2 => ?_⟩
        have d2 := (d1.trans d8').same (Same.new np2 (.lst ([z].map V.str)))
        have h2 : upd H8 p2 (.lst ([z].map V.str)) p2 = some (.lst ([z].map V.str)) := upd_same
        have h12 := (Same.new np2 (.lst ([z].map V.str))) _ _ (d8'.but _ _ n1 h1)
        have tz : tot [z] ≤ 19 := by
          rw [tot_cons]
          show z.length + 1 + 0 ≤ 19
          omega
        generalize e77 : upd H8 p2 (.lst ([z].map V.str)) = H77 at d2 h2 h12
        show rCat (.ref p1) (.ref p2) (upd H8 p2 (.lst ([z].map V.str))) _
        rw [e77]
        refine ⟨p1, p2, _, _, rfl, rfl, h12, h2, small (Nat.le_trans l1 (by decide)) (by show 1 ≤ 1000000; decide), fun p3 np3 => ?_⟩
        rw [mp]
        have s3 := Same.new np3 (.lst ((cutL ls none (some at0) ++ [z]).map V.str))
        have h3 : upd H77 p3 (.lst ((cutL ls none (some at0) ++ [z]).map V.str)) p3 = some (.lst ((cutL ls none (some at0) ++ [z]).map V.str)) := upd_same
        have hL8 := s3 _ _ (d2.but _ _ nLb hL5)
        have d3' := d2.same s3
        generalize upd H77 p3 (.lst ((cutL ls none (some at0) ++ [z]).map V.str)) = H8 at h3 hL8 d3' ⊢
        refine ⟨_, rfl, _, rfl, _, _, rfl, rfl, _, rfl, L, _, rfl, SqL.of hL8, fun p4 np4 => ?_⟩
        rw [cutV_map]
        have s4' := Same.new np4 (.lst ((cutL ls (some (at0 + 1)) none).map V.str))
        have tc := cl (some (at0 + 1)) none
        have lc := cn (some (at0 + 1)) none
        have l3 := tot_len (cutL ls none (some at0) ++ [z])
        have t3 := tot_app (cutL ls none (some at0)) [z]
        refine ⟨p3, p4, _, _, rfl, rfl, s4' _ _ h3, upd_same, small (by rw [List.length_map]; omega) (Nat.le_trans lc (by decide)), fun p5 np5 => ?_⟩
        rw [mp]
        refine fin rfl rfl ((d3'.same s4').same (Same.new np5 _)) upd_same ?_
        rw [tot_app, tot_app]
        omega
    · rintro σ2 H6 ⟨L2, zs, l7, e2, d6, hL2, tz⟩
      have lz := tot_len zs
      refine ⟨⟨_, rfl⟩, _, e2, L2, rfl, ⟨_, SqL.of hL2⟩, fun C nC => lc_nl (by omega) (SqL.of hL2) nC (by omega) (fun y hy => by have := tot_mem hy; omega) ?_⟩
      have gl := tot_glued zs
      have gs := glued_len zs
      refine ⟨_, C, _, rfl, rfl, .inl (SqL.of upd_same), ?_, ?_⟩
      · show _ + _ * 0 ≤ _
        omega
      · have fine := q _ (gluedL zs) (d6.same (Same.new nC (.lst ((zs.map (· ++ nl)).map V.str)))) (by omega)
        rw [show Txt.join (Str.ofString "") (zs.map (· ++ nl)) = gluedL zs from join_empty_nl _]
        exact fine
end
end FB

set_option Elab.async false
set_option linter.all false
set_option maxRecDepth 100000
set_option maxHeartbeats 8000000
/-! Trees as plain data; how deep a reader's tree is; how long a tree's text is. -/
namespace FB
open PySem L2
def dT : Tree → PyData
  | .nobody => .tuple [.str (S "nobody")]
  | .found n => .tuple [.str (S "found"), .int (n : Nat)]
  | .ask m l r => .tuple [.str (S "ask"), .int (m : Nat), dT l, dT r]
theorem dT_at {K : PySem.W.Frag} {H : Hp} {v : V} {T : Tree} (h : TreeAt H v T) : Dp K H v (dT T) := by
  induction h with
  | nobody h => exact .tup (SqT.of h) (.cons (.str _) .nil)
  | found h => exact .tup (SqT.of h) (.cons (.str _) (.cons (.int _) .nil))
  | ask h _ _ ih1 ih2 => exact .tup (SqT.of h) (.cons (.str _) (.cons (.int _) (.cons ih1 (.cons ih2 .nil))))
theorem ok_nobody : PyData.strOk (S "nobody") = true := by decide +kernel
theorem ok_found : PyData.strOk (S "found") = true := by decide +kernel
theorem ok_ask : PyData.strOk (S "ask") = true := by decide +kernel
theorem dT_lay : ∀ T : Tree, (dT T).canLay0 = true
  | .nobody => by
    show (PyData.strOk (S "nobody") && true) = true
    rw [ok_nobody]
    rfl
  | .found n => by
    show (PyData.strOk (S "found") && (true && true)) = true
    rw [ok_found]
    rfl
  | .ask m l r => by
    show (PyData.strOk (S "ask") && (true && ((dT l).canLay0 && ((dT r).canLay0 && true)))) = true
    rw [ok_ask, dT_lay l, dT_lay r]
    rfl
theorem dT_deep : ∀ T : Tree, (dT T).depth ≤ T.deep + 1
  | .nobody => Nat.le_refl _
  | .found n => Nat.le_refl _
  | .ask m l r => by
    show max 0 (max 0 (max (dT l).depth (max (dT r).depth 0))) + 1 ≤ max l.deep r.deep + 1 + 1
    have h1 := dT_deep l
    have h2 := dT_deep r
    omega
theorem one_shaped {T : Tree} (h : T.deep ≤ 50) : SeqAt.shaped (.list [dT T]) = true := by
  unfold SeqAt.shaped
  have h1 := dT_deep T
  rw [Bool.and_eq_true]
  refine ⟨?_, decide_eq_true ?_⟩
  · show ((dT T).canLay0 && true) = true
    rw [dT_lay]
    rfl
  · show max (dT T).depth 0 + 1 ≤ 64
    omega
theorem no_shaped {ln : Nat} {why : Str} (h : PyData.strOk why = true) : SeqAt.shaped (.list [.none, .int (ln : Nat), .str why]) = true := by
  unfold SeqAt.shaped
  rw [Bool.and_eq_true]
  refine ⟨?_, decide_eq_true ?_⟩
  · show (true && (true && (PyData.strOk why && true))) = true
    rw [h]
    rfl
  · show max 0 (max 0 (max 0 0)) + 1 ≤ 64
    decide
theorem eqv_same {d : PyData} (h : SeqAt.shaped d = true) : PyData.eqv d d = true := SeqAt.eqv_refl d (Bool.and_eq_true_iff.mp h).1
/-- what a result is worth: no tree deeper than the asks that were left, a plain reason -/
def Fine (f : Nat) : Res → Prop
  | .ok T _ => T.deep ≤ f
  | .no _ why => PyData.strOk why = true
theorem fine_read (ns ls : List Str) : ∀ f p, Fine f (readF ns ls f p) := by
  intro f
  induction f with
  | zero =>
    intro p
    unfold readF
    split
    · exact (by decide +kernel : PyData.strOk (S "not ended") = true)
    · split
      · exact (by decide +kernel : PyData.strOk (S "unknown line") = true)
      · split
        · exact (by decide +kernel : PyData.strOk (S "unknown line") = true)
        · exact Nat.le_refl _
        · exact Nat.le_refl _
        · split
          · exact (by decide +kernel : PyData.strOk (S "unknown make") = true)
          · exact (by decide +kernel : PyData.strOk (S "too deep") = true)
  | succ g ih =>
    intro p
    unfold readF
    split
    · exact (by decide +kernel : PyData.strOk (S "not ended") = true)
    · split
      · exact (by decide +kernel : PyData.strOk (S "unknown line") = true)
      · split
        · exact (by decide +kernel : PyData.strOk (S "unknown line") = true)
        · exact Nat.zero_le _
        · exact Nat.zero_le _
        · split
          · exact (by decide +kernel : PyData.strOk (S "unknown make") = true)
          · have h1 := ih (p + 1)
            cases e1 : readF ns ls g (p + 1) with
            | no l y =>
              rw [e1] at h1
              simp only [e1]
              exact h1
            | ok T1 p1 =>
              rw [e1] at h1
              have h2 := ih p1
              cases e2 : readF ns ls g p1 with
              | no l y =>
                rw [e2] at h2
                simp only [e1, e2]
                exact h2
              | ok T2 p2 =>
                rw [e2] at h2
                simp only [e1, e2]
                have h1' : T1.deep ≤ g := h1
                have h2' : T2.deep ≤ g := h2
                show max T1.deep T2.deep + 1 ≤ g + 1
                omega
theorem fine_parse (ns : List Str) (x : Str) : Fine 40 (parseF ns x) := by
  have h := fine_read ns (linesOf x) 40 0
  unfold parseF
  cases e : readF ns (linesOf x) 40 0 with
  | no l y =>
    rw [e] at h
    exact h
  | ok T p =>
    rw [e] at h
    dsimp only
    split
    · exact (by decide +kernel : PyData.strOk (S "more lines") = true)
    · exact h
/-! ### lengths -/
theorem size_le : ∀ T : Tree, T.size < 2 ^ (T.deep + 1)
  | .nobody => (by decide : 1 < 2 ^ (0 + 1))
  | .found _ => (by decide : 1 < 2 ^ (0 + 1))
  | .ask m l r => by
    show l.size + r.size + 1 < 2 ^ (max l.deep r.deep + 1 + 1)
    have h1 := Nat.lt_of_lt_of_le (size_le l) (Nat.pow_le_pow_right (by decide) (by omega : l.deep + 1 ≤ max l.deep r.deep + 1))
    have h2 := Nat.lt_of_lt_of_le (size_le r) (Nat.pow_le_pow_right (by decide) (by omega : r.deep + 1 ≤ max l.deep r.deep + 1))
    rw [Nat.pow_succ 2 (max l.deep r.deep + 1)]
    omega
theorem line_le {ns : List Str} (hs : Short ns) : ∀ (T : Tree) (d : Nat), T.Good ns.length → ∀ y ∈ linesF ns d T, y.length ≤ 2 * (d + T.deep) + 104
  | .nobody, d, _, y, hy => by
    rw [show y = sp d ++ S "nobody" from List.mem_singleton.mp hy, len_app, sp_len, show (S "nobody").length = 6 from by decide +kernel]
    omega
  | .found n, d, g, y, hy => by
    have := strN_len g
    rw [show y = sp d ++ S "found " ++ strN n from List.mem_singleton.mp hy, len_app, len_app, sp_len, show (S "found ").length = 6 from by decide +kernel]
    omega
  | .ask m l r, d, g, y, hy => by
    show y.length ≤ 2 * (d + (max l.deep r.deep + 1)) + 104
    rcases List.mem_cons.mp hy with hy | hy
    · have := hs _ (nameAt_mem (ns := ns) g.1)
      rw [hy, len_app, len_app, sp_len, show (S "ask ").length = 4 from by decide +kernel]
      omega
    · rcases List.mem_append.mp hy with hy | hy
      · have := line_le hs l (d + 1) g.2.1 y hy
        omega
      · have := line_le hs r (d + 1) g.2.2 y hy
        omega
theorem tot_le {B : Nat} : ∀ ls : List Str, (∀ y ∈ ls, y.length ≤ B) → tot ls ≤ ls.length * (B + 1)
  | [], _ => Nat.zero_le _
  | x :: r, h => by
    have h1 := h x List.mem_cons_self
    have h2 := tot_le r fun y hy => h y (List.mem_cons_of_mem _ hy)
    rw [tot_cons, List.length_cons, Nat.succ_mul]
    omega
theorem text_le {ns : List Str} (hs : Short ns) {T : Tree} (g : T.Good ns.length) (hd : T.deep ≤ 42) (hz : T.size ≤ 85) : (textOf ns T).length ≤ 20000 := by
  unfold textOf
  rw [tot_glued]
  have h1 := tot_le (B := 188) (linesF ns 0 T) fun y hy => by
    have := line_le hs T 0 g y hy
    omega
  rw [linesF_len] at h1
  omega
end FB

set_option Elab.async false
set_option linter.all false
set_option maxRecDepth 100000
set_option maxHeartbeats 16000000
/-! The law. -/
namespace FB
open PySem L2
def spLaw (K : PySem.W.Frag) : Sp := fun vs H Q _ => ∃ (a : Addr) (ns : List Int), vs = [.ref a] ∧ SqL K H a (ns.map V.int) ∧ ∀ H', Q (.bl true) H'
theorem names_short : ∀ n, n < 7 → Short (namesTo n) := fun n h => by
  have key : ∀ n, n < 7 → ∀ w ∈ namesTo n, w.length ≤ 100 := by decide +kernel
  exact key n h
/-- a tree of the law's kind -/
def Kind (H : Hp) (n : Nat) (v : V) : Prop := ∃ T : Tree, TreeAt H v T ∧ T.deep ≤ 40 ∧ T.Good n ∧ T.size ≤ 85
theorem Kind.mono {H H' : Hp} {n : Nat} {v : V} (h : Kind H n v) (t : Tups H H') : Kind H' n v := by
  obtain ⟨T, a, r⟩ := h
  exact ⟨T, a.mono t, r⟩
section
variable {P : Program} {w : World} {K : PySem.W.Frag} {mg : Str → Option Value} {base : Heap}
theorem ok_law {f : Addr} {fd : FuncData} (F : Fun K "law" "law" sLaw f fd) (T : Free mg) (dg : Callee P w K mg base CX0 2 "_law_digits" ["_law_script", "_law_first", "_law_last"] (spDigits K))
    (dr : Callee P w K mg base CX0 1 "_law_draw" ["_law_box", "_law_many"] spDraw) (hi : Callee P w K mg base CX0 3 "_law_history" ["_law_box", "_law_most"] spHistory)
    (tr : Callee P w K mg base CX0 7 "_law_tree" ["_law_box", "_law_many", "_law_deep_here"] (spTree 5)) (de : Callee P w K mg base CX0 1 "_law_deep" ["_law_many"] spDeep)
    (ln : Callee P w K mg base CX0 50 "_law_lines" ["_law_history_here", "_law_tree_here", "_law_depth"] (spLines 50)) (sh : Callee P w K mg base CX0 51 "shown_tree" ["history", "tree"] spShown)
    (to : Callee P w K mg base CX0 46 "_law_told" ["_law_history_here", "_law_text"] spTold) (ot : Callee P w K mg base CX0 3 "_law_other" ["_law_box", "_law_text"] spOther)
    (du : Callee P w K mg base CX0 43 "_law_due" ["_law_history_here", "_law_text"] spDue) : FnOk P w K mg base CX0 52 f fd ["_law_script"] (spLaw K) := by
  obtain ⟨f_digits, fd_digits, G_digits, m_digits, k_digits, b_digits⟩ := dg.ex
  obtain ⟨f_draw, fd_draw, G_draw, m_draw, k_draw, b_draw⟩ := dr.ex
  obtain ⟨f_history, fd_history, G_history, m_history, k_history, b_history⟩ := hi.ex
  obtain ⟨f_tree, fd_tree, G_tree, m_tree, k_tree, b_tree⟩ := tr.ex
  obtain ⟨f_deep, fd_deep, G_deep, m_deep, k_deep, b_deep⟩ := de.ex
  obtain ⟨f_lines, fd_lines, G_lines, m_lines, k_lines, b_lines⟩ := ln.ex
  obtain ⟨f_shown_tree, fd_shown_tree, G_shown_tree, m_shown_tree, k_shown_tree, b_shown_tree⟩ := sh.ex
  obtain ⟨f_told, fd_told, G_told, m_told, k_told, b_told⟩ := to.ex
  obtain ⟨f_other, fd_other, G_other, m_other, k_other, b_other⟩ := ot.ex
  obtain ⟨f_due, fd_due, G_due, m_due, k_due, b_due⟩ := du.ex
  refine F.ok scLaw (fun vs H Q E h => ?_) (fun cdv A outer s H vs Q E hr h => ?_)
  · obtain ⟨_, _, rfl, _⟩ := h
    rfl
  · obtain ⟨a, is, rfl, hS, q⟩ := h
    refine ⟨_, (pss_cons (ps_set (i := 1) scLaw.nd rfl (.inl rfl) (pe_lst (pa_cons (pe_call G_digits (hr.mono (by omega)) (by rfl) m_digits k_digits b_digits .nil pass0 (pa_cons (pv 0) (pa_cons pe_int (pa_cons pe_int pa_nil)))) (pa_cons pe_int pa_nil))))
  (pss_cons (ps_set (i := 2) scLaw.nd rfl (.inl rfl) (pe_call G_history (hr.mono (by omega)) (by rfl) m_history k_history b_history .nil pass0 (pa_cons (pv 1) (pa_cons pe_int pa_nil))))
  (pss_cons (ps_set (i := 3) scLaw.nd rfl (.inl rfl) (pe_callB call_len_seq (by rfl) T.len PySem.boot_len (pa_cons (pe_ix ix_tup (pv 2) pe_int (fun _ _ => rfl)) pa_nil)))
  (pss_cons (ps_for PassesOwn.never rfl (pi_list (pe_lst (pa_cons (pe_call G_tree (hr.mono (by omega)) (by rfl) m_tree k_tree b_tree .nil pass0 (pa_cons (pv 1) (pa_cons (pv 3) (pa_cons pe_int pa_nil)))) (pa_cons (pe_call G_tree (hr.mono (by omega)) (by rfl) m_tree k_tree b_tree .nil pass0 (pa_cons (pv 1) (pa_cons (pv 3) (pa_cons pe_int pa_nil)))) (pa_cons (pe_call G_deep (hr.mono (by omega)) (by rfl) m_deep k_deep b_deep .nil pass0 (pa_cons (pe_op op_add pe_int (pe_call G_draw (hr.mono (by omega)) (by rfl) m_draw k_draw b_draw .nil pass0 (pa_cons (pv 1) (pa_cons pe_int pa_nil)))) pa_nil)) pa_nil))))) (pg_name (i := 4) scLaw.nd rfl (.inl rfl))
  (pss_cons (ps_set (i := 5) scLaw.nd rfl (.inl rfl) (pe_join pe_str (pe_lc (own := [("_law_line", 9)]) (g := gName 9) (by rfl) scLaw.nd (pi_list (pe_call G_lines (hr.mono (by omega)) (by rfl) m_lines k_lines b_lines .nil pass0 (pa_cons (pv 2) (pa_cons (pv 4) (pa_cons pe_int pa_nil))))) (blkOk_by (own := [("_law_line", 9)]) (N := nLaw) (sc := defScope sLaw) (by decide +kernel)) (fun _ _ _ _ _ => pg_name (i := 9) scLaw.nd rfl (Or.inl rfl)) (fun _ _ _ _ _ => pts_nil) (fun _ _ _ _ _ => (pe_op op_add_str (pv 9) pe_str)))))
  (pss_cons (ps_if (PW.pt (pw_or (pt_cmpR op_ne (pe_call G_shown_tree (hr.mono (by omega)) (by rfl) m_shown_tree k_shown_tree b_shown_tree .nil pass0 (pa_cons (pv 2) (pa_cons (pv 4) pa_nil))) (pv 5) (nomark _)) (pw_or1 (pt_cmpR (op_neD hr.units) (pe_call G_told (hr.mono (by omega)) (by rfl) m_told k_told b_told .nil pass0 (pa_cons (pv 2) (pa_cons (pv 5) pa_nil))) (pe_lst (pa_cons (pv 4) pa_nil)) (nomark _)))))
  (pss_one (ps_ret pe_bl))
  pss_nil)
  (pss_one (ps_for PassesOwn.never rfl (pi_range1 (by rfl) T.range (pa_cons pe_int pa_nil)) (pg_name (i := 6) scLaw.nd rfl (.inl rfl))
  (pss_cons (ps_set (i := 7) scLaw.nd rfl (.inl rfl) (pe_call G_other (hr.mono (by omega)) (by rfl) m_other k_other b_other .nil pass0 (pa_cons (pv 1) (pa_cons (pv 5) pa_nil))))
  (C8.pss_cut (ps_if (pt_cmpR op_eq (pe_call G_draw (hr.mono (by omega)) (by rfl) m_draw k_draw b_draw .nil pass0 (pa_cons (pv 1) (pa_cons pe_int pa_nil))) pe_int (nomark _))
  (pss_one (ps_set (i := 7) scLaw.nd rfl (.inl rfl) (pe_slice sl_str (pe_call G_other (hr.mono (by omega)) (by rfl) m_other k_other b_other .nil pass0 (pa_cons (pv 1) (pa_cons (pe_op op_add_str (pv 7) pe_str) pa_nil))) po_none (po_some (pe_un un_neg pe_int)))))
  pss_nil)
  (pss_cons (ps_set (i := 8) scLaw.nd rfl (.inl rfl) (pe_call G_due (hr.mono (by omega)) (by rfl) m_due k_due b_due .nil pass0 (pa_cons (pv 2) (pa_cons (pv 7) pa_nil))))
  (pss_one (ps_if (pt_cmpR (op_neD hr.units) (pe_call G_told (hr.mono (by omega)) (by rfl) m_told k_told b_told .nil pass0 (pa_cons (pv 2) (pa_cons (pv 7) pa_nil))) (pe_ix ix_list (pe_lst (pa_cons (pv 8) (pa_cons (pe_slice sl_list (pv 8) po_none (po_some pe_int)) pa_nil))) (pe_callTy call_int1 (by rfl) T.int (by decide +kernel) (pa_cons (pe_cmpR op_notN (pe_ix ix_list (pv 8) pe_int (fun _ _ => rfl)) pe_non (nomark _)) pa_nil)) (fun _ _ => rfl)) (nomark _))
  (pss_one (ps_ret pe_bl))
  pss_nil))))))))))
  (pss_cons (ps_set (i := 5) scLaw.nd rfl (.inl rfl) (pe_join pe_str (pe_lc (own := [("_law_line", 9)]) (g := gName 9) (by rfl) scLaw.nd (pi_list (pe_call G_lines (hr.mono (by omega)) (by rfl) m_lines k_lines b_lines .nil pass0 (pa_cons (pv 2) (pa_cons (pe_call G_deep (hr.mono (by omega)) (by rfl) m_deep k_deep b_deep .nil pass0 (pa_cons (pe_op op_add pe_int (pe_call G_draw (hr.mono (by omega)) (by rfl) m_draw k_draw b_draw .nil pass0 (pa_cons (pv 1) (pa_cons pe_int pa_nil)))) pa_nil)) (pa_cons pe_int pa_nil))))) (blkOk_by (own := [("_law_line", 9)]) (N := nLaw) (sc := defScope sLaw) (by decide +kernel)) (fun _ _ _ _ _ => pg_name (i := 9) scLaw.nd rfl (Or.inl rfl)) (fun _ _ _ _ _ => pts_nil) (fun _ _ _ _ _ => (pe_op op_add_str (pv 9) pe_str)))))
  (pss_one (ps_ret (pe_cmpR (op_eqD hr.units) (pe_call G_told (hr.mono (by omega)) (by rfl) m_told k_told b_told .nil pass0 (pa_cons (pv 2) (pa_cons (pv 5) pa_nil))) (pe_lst (pa_cons pe_non (pa_cons pe_int (pa_cons pe_str pa_nil)))) (nomark _))))))))), ?_⟩
    refine ⟨_, rfl, a, is, rfl, hS, fun H1 p ds s1 np hp => ⟨(by show 2 ≤ sizeLine; decide), fun b nb => ?_⟩⟩
    have hb : Box (upd H1 b (.lst [.ref p, .int 0])) b := ⟨p, ds, 0, upd_same, by rw [upd_ne (ne_of_none hp nb)]; exact hp, Int.le_refl _⟩
    generalize upd H1 b (.lst [.ref p, .int 0]) = H2 at hb
    refine ⟨_, rfl, b, rfl, hb, fun H3 h n d3 n1 n6 hh => ?_⟩
    have N := namesTo_ok n (by omega)
    have sn := names_short n (by omega)
    have nlen := namesTo_len n
    generalize hns : namesTo n = ns at hh N sn nlen
    have ns100 : ns.length ≤ 100 := by omega
    obtain ⟨mt, ms, g1, g2, M⟩ := id hh
    refine ⟨_, rfl, h, _, 1, _, rfl, rfl, SqT.of g1, rfl, mt, _, rfl, .inr (SqT.of g2), ?_⟩
    rw [M.length, nlen]
    refine ⟨_, rfl, _, rfl, b, n, 4, rfl, d3.box, n1, by decide, fun H4 v1 T1 d4 t1 dp1 gd1 => ?_⟩
    refine ⟨_, rfl, _, rfl, b, n, 3, rfl, d4.box, n1, by decide, fun H5 v2 T2 d5 t2 dp2 gd2 => ?_⟩
    refine ⟨_, rfl, b, 3, rfl, d5.box, by decide, fun H6 z d6 z0 z3 => ⟨_, _, rfl, rfl, ?_⟩⟩
    refine ⟨38 + z.toNat, by rw [Int.natCast_add, Int.toNat_of_nonneg z0]; rfl, by omega, fun H7 v3 s7 t3 => ⟨(by show 3 ≤ sizeLine; decide), fun LT nLT => ?_⟩⟩
    have nL : n = ns.length := nlen.symm
    have hb7 : Box H7 b := d6.box.same s7
    have d37 : Drew b H3 H7 := ((d4.trans d5).trans d6).same s7
    have kinds : ∀ v ∈ [v1, v2, v3], Kind H7 n v := fun v hv => by
      have u5 := d5.tups d4.box
      have u6 := d6.tups d5.box
      have u7 := Same.tups s7
      rcases List.mem_cons.mp hv with e | hv
      · subst e
        have z := size_le T1
        have z2 : 2 ^ (T1.deep + 1) ≤ 2 ^ 5 := Nat.pow_le_pow_right (by decide) (by omega)
        exact ⟨T1, ((t1.mono u5).mono u6).mono u7, by omega, gd1, by omega⟩
      · rcases List.mem_cons.mp hv with e | hv
        · subst e
          have z := size_le T2
          have z2 : 2 ^ (T2.deep + 1) ≤ 2 ^ 5 := Nat.pow_le_pow_right (by decide) (by omega)
          exact ⟨T2, (t2.mono u6).mono u7, by omega, gd2, by omega⟩
        · have e := List.mem_singleton.mp hv
          subst e
          exact ⟨_, t3, by rw [chain_deep]; omega, chain_good n1 _, by rw [chain_size]; omega⟩
    have hh7 := hh.mono (d37.tups d3.box)
    have sL := Same.new nLT (.lst [v1, v2, v3])
    have hLT : upd H7 LT (.lst [v1, v2, v3]) LT = some (.lst [v1, v2, v3]) := upd_same
    have nLTb : LT ≠ b := Drew.ne hb7 nLT
    have hb8 := hb7.same sL
    have kinds8 : ∀ v ∈ [v1, v2, v3], Kind (upd H7 LT (.lst [v1, v2, v3])) n v := fun v hv => (kinds v hv).mono (Same.tups sL)
    have hh8 := hh7.mono (Same.tups sL)
    generalize upd H7 LT (.lst [v1, v2, v3]) = H8 at hLT hb8 kinds8 hh8
    refine ⟨LT, rfl, ⟨_, SqL.of hLT⟩, for_list (K := K) (a := LT) (xs := [v1, v2, v3]) (fun i σ H' => ∃ w4 w5 w6 w7 w8 : Option V, σ = [some (.ref a), some (.ref b), some (.ref h), some (.int (n : Nat)), w4, w5, w6, w7, w8, none] ∧ Drew b H8 H')
      ⟨none, none, none, none, none, rfl, Drew.refl hb8⟩ (fun i σ H' _ ⟨_, _, _, _, _, _, d⟩ => SqL.of (d.but _ _ nLTb hLT)) ?_ ?_⟩
    · rintro i v σ H9 hi ⟨w4, w5, w6, w7, w8, rfl, d9⟩
      have hu := d9.tups hb8
      obtain ⟨Tr, tt, td, tg, tz⟩ := (kinds8 v (List.mem_of_getElem? hi)).mono hu
      rw [nL] at tg
      have hh9 := hh8.mono hu
      have dL : 0 + Tr.deep ≤ 900 := by omega
      have sm := linesF_small sn Tr 0 tg dL
      have ll := linesF_len ns Tr 0
      have tl := text_le sn tg (by omega) tz
      refine ⟨⟨_, rfl⟩, _, rfl, _, rfl, h, v, 0, ns, Tr, rfl, hh9, tt, tg, sn, by omega, by omega, dL, fun H10 l s10 hl => ?_⟩
      refine ⟨l, rfl, ⟨_, SqL.of hl⟩, fun C nC => lc_nl (by show 9 < 10; decide) (SqL.of hl) nC (by omega) (fun y hy => by have := sm y hy; omega) ?_⟩
      refine ⟨_, C, _, rfl, rfl, .inl (SqL.of upd_same), ?_, ?_⟩
      · have := sum_small _ sm
        show _ + _ * 0 ≤ _
        omega
      rw [show Txt.join (Str.ofString "") ((linesF ns 0 Tr).map (· ++ nl)) = textOf ns Tr from join_empty_nl _]
      have d10 := (d9.same s10).same (Same.new nC (.lst (((linesF ns 0 Tr).map (· ++ nl)).map V.str)))
      have tt11 := (tt.mono (Same.tups s10)).mono (Same.tups (Same.new nC (.lst (((linesF ns 0 Tr).map (· ++ nl)).map V.str))))
      generalize upd H10 C (.lst (((linesF ns 0 Tr).map (· ++ nl)).map V.str)) = H11 at d10 tt11
      have hu11 := d10.tups hb8
      have hh11 := hh8.mono hu11
      refine ⟨_, rfl, _, rfl, h, v, ns, Tr, rfl, hh11, tt11, tg, sn, by omega, by omega, fun H12 s12 => ⟨_, rfl, rfl, false, nbl_f rfl, iteF ?_⟩⟩
      have hh12 := hh11.mono (Same.tups s12)
      have tt12 := tt11.mono (Same.tups s12)
      refine ⟨_, rfl, _, rfl, h, textOf ns Tr, ns, rfl, hh12, ns100, by omega, fun H13 l13 s13 ta => ⟨_, rfl, (by show 1 ≤ sizeLine; decide), fun l2 nl2 => ?_⟩⟩
      have ps : parseF ns (textOf ns Tr) = .ok Tr Tr.size := parse_shown N td tg
      rw [ps] at ta
      obtain ⟨v', ha, ta'⟩ := ta
      have s14 := Same.new nl2 (.lst [v])
      have sh := one_shaped (T := Tr) (by omega)
      refine ⟨.list [dT Tr], .list [dT Tr], .lst (SqL.of (s14 _ _ ha)) (.cons (dT_at (ta'.mono (Same.tups s14))) .nil), .lst (SqL.of upd_same) (.cons (dT_at ((tt12.mono (Same.tups s13)).mono (Same.tups s14))) .nil), sh, sh, false, ?_, iteF ?_⟩
      · rw [eqv_same sh]
        rfl
      have d14 := ((d10.same s12).same s13).same s14
      generalize upd H13 l2 (.lst [v]) = H14 at d14
      refine ⟨3, rfl, by decide, by decide, for_range (lo := 0) (n := 3) (fun j σ H' => ∃ (w6 w7 w8 : Option V), σ = [some (.ref a), some (.ref b), some (.ref h), some (.int (n : Nat)), some v, some (.str (textOf ns Tr)), w6, w7, w8, none] ∧ Drew b H8 H')
        ⟨_, _, _, rfl, d14⟩ ?_ ?_⟩
      · rintro j σ H15 hj ⟨x6, x7, x8, rfl, d15⟩
        refine ⟨_, rfl, _, rfl, b, textOf ns Tr, rfl, d15.box, by omega, fun H16 y d16 hy => ?_⟩
        have D16 := d15.trans d16
        refine ⟨fun σ2 H' => ∃ (y2 : Str), σ2 = [some (.ref a), some (.ref b), some (.ref h), some (.int (n : Nat)), some v, some (.str (textOf ns Tr)), some (.int (0 + (j : Int))), some (.str y2), x8, none] ∧ Drew b H8 H' ∧ y2.length ≤ 900000, ?_, ?_⟩
        · refine ⟨_, rfl, b, 3, rfl, d16.box, by decide, fun H17 z d17 z0 z3 => ⟨rfl, _, rfl, ite2 (fun _ => ?_) (fun _ => ?_)⟩⟩
          · refine ⟨_, rfl, _, rfl, y, S "\n", rfl, rfl, ?_, b, y ++ S "\n", rfl, d17.box, ?_, fun H18 y2 d18 hy2 => ⟨_, rfl, _, rfl, y2, rfl, ?_, ?_⟩⟩
            · rw [show (S "\n").length = 1 from by decide +kernel, sizeLine_eq]
              omega
            · rw [len_app, show (S "\n").length = 1 from by decide +kernel]
              omega
            · rw [len_app, show (S "\n").length = 1 from by decide +kernel] at hy2
              rw [sizeLine_eq]
              omega
            · rw [len_app, show (S "\n").length = 1 from by decide +kernel] at hy2
              have := cut_len y2 none (some (-1))
              exact ⟨_, rfl, (D16.trans d17).trans d18, by omega⟩
          · exact ⟨y, rfl, D16.trans d17, by omega⟩
        · rintro σ2 H17 ⟨y2, rfl, d17, hy2⟩
          have hh17 := hh8.mono (d17.tups hb8)
          refine ⟨_, rfl, _, rfl, h, y2, ns, rfl, hh17, ns100, hy2, fun H18 l18 s18 ra => ?_⟩
          have hh18 := hh17.mono (Same.tups s18)
          refine ⟨_, rfl, _, rfl, h, y2, ns, rfl, hh18, ns100, hy2, fun H19 l19 s19 ta => ?_⟩
          have fp := fine_parse ns y2
          cases e : parseF ns y2 with
          | no lno why =>
            rw [e] at ra ta fp
            have ra19 := s19 _ _ (show H18 l18 = some (.lst [.non, .int (lno : Nat), .str why]) from ra)
            have ta' : H19 l19 = some (.lst [.non, .int (lno : Nat), .str why]) := ta
            refine ⟨_, rfl, _, rfl, _, rfl, l18, _, rfl, SqL.of ra19, fun p1 np1 => ⟨(by show 2 ≤ sizeLine; decide), fun q1 nq1 => ?_⟩⟩
            have sp1 := Same.new np1 (.lst (cutV [.non, .int (lno : Nat), .str why] none (some 1)))
            have sq1 := Same.new nq1 (.lst [.ref l18, .ref p1])
            have d20 := ((d17.same s18).same s19).same (sp1.trans sq1)
            have ra20 := (sp1.trans sq1) _ _ ra19
            have ta20 := (sp1.trans sq1) _ _ ta'
            refine ⟨_, rfl, l18, _, 0, _, rfl, rfl, SqL.of ra20, rfl, rfl, .inr ⟨_, rfl, ?_⟩⟩
            have sh := no_shaped (ln := lno) (why := why) fp
            have dn : ∀ {l : Addr}, upd (upd H19 p1 (.lst (cutV [.non, .int (lno : Nat), .str why] none (some 1)))) q1 (.lst [.ref l18, .ref p1]) l = some (.lst [.non, .int (lno : Nat), .str why]) →
                Dp K (upd (upd H19 p1 (.lst (cutV [.non, .int (lno : Nat), .str why] none (some 1)))) q1 (.lst [.ref l18, .ref p1])) (.ref l) (.list [.none, .int (lno : Nat), .str why]) := fun {l} hl => .lst (SqL.of hl) (.cons .non (.cons (.int _) (.cons (.str _) .nil)))
            refine ⟨q1, [.ref l18, .ref p1], 0, .ref l18, rfl, ?_, SqL.of upd_same, rfl, .list [.none, .int (lno : Nat), .str why], .list [.none, .int (lno : Nat), .str why], dn ta20, dn ra20, sh, sh, false, ?_, iteF ⟨_, _, _, rfl, d20⟩⟩
            · rfl
            · rw [eqv_same sh]
              rfl
          | ok T2 p2 =>
            rw [e] at ra ta fp
            obtain ⟨u1, ra', u1t⟩ := ra
            obtain ⟨u2, ta', u2t⟩ := ta
            have ra19 := s19 _ _ ra'
            refine ⟨_, rfl, _, rfl, _, rfl, l18, _, rfl, SqL.of ra19, fun p1 np1 => ⟨(by show 2 ≤ sizeLine; decide), fun q1 nq1 => ?_⟩⟩
            have ecut : cutV [u1, .int (p2 : Nat)] none (some 1) = [u1] := rfl
            rw [ecut]
            have sp1 := Same.new np1 (.lst [u1])
            have sq1 := Same.new nq1 (.lst [.ref l18, .ref p1])
            have d20 := ((d17.same s18).same s19).same (sp1.trans sq1)
            have ra20 := (sp1.trans sq1) _ _ ra19
            have ta20 := (sp1.trans sq1) _ _ ta'
            have hp20 := sq1 _ _ (show upd H19 p1 (.lst [u1]) p1 = some (.lst [u1]) from upd_same)
            have u1s := (u1t.mono (Same.tups s19)).mono (Same.tups (sp1.trans sq1))
            have u2s := u2t.mono (Same.tups (sp1.trans sq1))
            refine ⟨_, rfl, l18, _, 0, _, rfl, rfl, SqL.of ra20, rfl, rfl, .inr ⟨_, rfl, ?_⟩⟩
            have fp' : T2.deep ≤ 40 := fp
            have sh := one_shaped (T := T2) (by omega)
            refine ⟨q1, [.ref l18, .ref p1], 1, .ref p1, rfl, ?_, SqL.of upd_same, rfl, .list [dT T2], .list [dT T2], .lst (SqL.of ta20) (.cons (dT_at u2s) .nil), .lst (SqL.of hp20) (.cons (dT_at u1s) .nil), sh, sh, false, ?_, iteF ⟨_, _, _, rfl, d20⟩⟩
            · rw [decide_eq_false (tree_ref u1t)]
              rfl
            · rw [eqv_same sh]
              rfl
      · rintro σ H15 ⟨x6, x7, x8, rfl, d15⟩
        exact ⟨_, _, _, _, _, rfl, d15⟩
    · rintro σ H9 ⟨w4, w5, w6, w7, w8, rfl, d9⟩
      have hu := d9.tups hb8
      have hh9 := hh8.mono hu
      refine ⟨⟨_, rfl⟩, _, rfl, _, rfl, b, 2, rfl, d9.box, by decide, fun H10 z d10 z0 z2 => ⟨_, _, rfl, rfl, ?_⟩⟩
      refine ⟨41 + z.toNat, by rw [Int.natCast_add, Int.toNat_of_nonneg z0]; rfl, by omega, fun H11 v s11 tt => ?_⟩
      have hh11 := (hh9.mono (d10.tups d9.box)).mono (Same.tups s11)
      have n0 : 0 < ns.length := by omega
      have tg := chain_good n0 (41 + z.toNat)
      have td := chain_deep (41 + z.toNat)
      have tz := chain_size (41 + z.toNat)
      have dL : 0 + (chain (41 + z.toNat)).deep ≤ 900 := by omega
      have sm := linesF_small sn (chain (41 + z.toNat)) 0 tg dL
      have ll := linesF_len ns (chain (41 + z.toNat)) 0
      have tl := text_le sn tg (by omega) (by omega)
      refine ⟨h, v, 0, ns, chain (41 + z.toNat), rfl, hh11, tt, tg, sn, by omega, by omega, dL, fun H12 l s12 hl => ?_⟩
      refine ⟨l, rfl, ⟨_, SqL.of hl⟩, fun C nC => lc_nl (by show 9 < 10; decide) (SqL.of hl) nC (by omega) (fun y hy => by have := sm y hy; omega) ?_⟩
      refine ⟨_, C, _, rfl, rfl, .inl (SqL.of upd_same), ?_, ?_⟩
      · have := sum_small _ sm
        show _ + _ * 0 ≤ _
        omega
      rw [show Txt.join (Str.ofString "") ((linesF ns 0 (chain (41 + z.toNat))).map (· ++ nl)) = textOf ns (chain (41 + z.toNat)) from join_empty_nl _]
      have hh12 := (hh11.mono (Same.tups s12)).mono (Same.tups (Same.new nC (.lst (((linesF ns 0 (chain (41 + z.toNat))).map (· ++ nl)).map V.str))))
      refine ⟨_, rfl, _, rfl, h, textOf ns (chain (41 + z.toNat)), ns, rfl, hh12, ns100, by omega, fun H13 l13 s13 ta => ⟨(by show 3 ≤ sizeLine; decide), fun l2 nl2 => ?_⟩⟩
      have ps : parseF ns (textOf ns (chain (41 + z.toNat))) = .no 41 (S "too deep") := parse_chain N n0 (by omega)
      rw [ps] at ta
      have ta' : H13 l13 = some (.lst [.non, .int (41 : Nat), .str (S "too deep")]) := ta
      have sh := no_shaped (ln := 41) (why := S "too deep") (by decide +kernel)
      refine ⟨.list [.none, .int (41 : Nat), .str (S "too deep")], .list [.none, .int (41 : Nat), .str (S "too deep")], .lst (SqL.of (Same.new nl2 _ _ _ ta')) (.cons .non (.cons (.int _) (.cons (.str _) .nil))), .lst (SqL.of upd_same) (.cons .non (.cons (.int _) (.cons (.str _) .nil))), sh, sh, ?_⟩
      rw [eqv_same sh]
      exact q _
end
end FB

set_option Elab.async false
set_option linter.all false
set_option maxRecDepth 100000
set_option maxHeartbeats 16000000
/-! The join: what the top has written, all walks. -/
namespace FB
open PySem L2
theorem kit_no {K : PySem.W.Frag} {B C : Addr} (hd : PySem.W.hasDictIn K C = true) (ht : PySem.W.typeIn K (.ref C) = some (.type "type")) (h : PySem.W.subIn K (.ref B) (.ref C) = some false) (hs : PySem.W.subIn K (.ref B) (.ref B) = some true) :
    PySem.W.kitOne K (.ref B) (.ref C) = some false := by
  obtain ⟨cd, hc, _⟩ := PySem.W.any_some hd
  have ne : ¬ ((Value.ref B == Value.ref C) = true) := fun e => by
    have e' : B = C := Value.ref.inj (beq_iff_eq.mp e)
    rw [← e', hs] at h
    cases h
  have c : ((PySem.W.clsIn K C).isSome && PySem.W.typeIn K (.ref C) == some (.type "type")) = true := by rw [hc, ht] <;> rfl
  unfold PySem.W.kitOne
  rw [if_neg ne]
  show (if ((PySem.W.clsIn K C).isSome && PySem.W.typeIn K (.ref C) == some (.type "type")) = true then PySem.W.subIn K (.ref B) (.ref C) else none) = _
  rw [if_pos c]
  exact h
theorem all_mk {P : Program} {w : World} {K : PySem.W.Frag} {h : Heap} {mg : Str → Option Value} {fa : Addr} (X : K.In h) (G : h.Ns mainGlobals mg) (hfa : mg "law" = some (.ref fa))
    {C CB CK CA CS CT fB cda cc bN : Addr} {tM tf : Tok} {bnm bq fl : Str} {bbs bsub : List Value} {bsn : List Str} {bab : Bool} {bcol : Option Bool} {bdd odB anB cdd xcd : Option Addr} {b0 b1 b2 b3 b5 : Option Value} {ocB kVB dcB pmB ctB ccl xcl : Value} {slB ccs xsl : Array (Option Value)}
    {knm kq : Str} {kN : Addr} {kbs ksub : List Value} {ksn : List Str} {kab : Bool} {kcol : Option Bool} {kdd : Option Addr} {m0 m1 m2 m3 m5 : Option Value} {cvs : Array Value}
    {f0 f1 f2 f3 f4 f5 f6 f7 f8 f9 f10 f11 f12 f13 f14 f15 f16 f17 f18 f50 f51 f52 : Addr} {od0 an0 od1 an1 od2 an2 od3 an3 od4 an4 od5 an5 od6 an6 od7 an7 od8 an8 od9 an9 od10 an10 od11 an11 od12 an12 od13 an13 od14 an14 od15 an15 od16 an16 od17 an17 od18 an18 od50 an50 od51 an51 od52 an52 : Option Addr} {sl0 sl1 sl2 sl3 sl4 sl5 sl6 sl7 sl8 sl9 sl10 sl11 sl12 sl13 sl14 sl15 sl16 sl17 sl18 sl50 sl51 sl52 : Array (Option Value)} {oc0 kV0 dc0 pm0 cd0 ct0 oc1 kV1 dc1 pm1 cd1 ct1 oc2 kV2 dc2 pm2 cd2 ct2 oc3 kV3 dc3 pm3 cd3 ct3 oc4 kV4 dc4 pm4 cd4 ct4 oc5 kV5 dc5 pm5 cd5 ct5 oc6 kV6 dc6 pm6 cd6 ct6 oc7 kV7 dc7 pm7 cd7 ct7 oc8 kV8 dc8 pm8 cd8 ct8 oc9 kV9 dc9 pm9 cd9 ct9 oc10 kV10 dc10 pm10 cd10 ct10 oc11 kV11 dc11 pm11 cd11 ct11 oc12 kV12 dc12 pm12 cd12 ct12 oc13 kV13 dc13 pm13 cd13 ct13 oc14 kV14 dc14 pm14 cd14 ct14 oc15 kV15 dc15 pm15 cd15 ct15 oc16 kV16 dc16 pm16 cd16 ct16 oc17 kV17 dc17 pm17 cd17 ct17 oc18 kV18 dc18 pm18 cd18 ct18 oc50 kV50 dc50 pm50 cd50 ct50 oc51 kV51 dc51 pm51 cd51 ct51 oc52 kV52 dc52 pm52 cd52 ct52 : Value}
    (a0 : PySem.W.nsIn K mainGlobals "number_in" = some (some (.ref f0)))
    (l0 : K.lookup f0 = some ⟨oc0, od0, .func (PySem.W.fnOf "number_in" "number_in" (defArgs sNumIn) (defBody sNumIn) (defScope sNumIn) .none kV0 dc0 pm0 an0 cd0 ct0), sl0⟩)
    (c0 : PySem.W.codeIn K cd0 "number_in" = true)
    (k0 : PySem.W.keepIn K (.ref f0) = true)
    (a1 : PySem.W.nsIn K mainGlobals "lines_of" = some (some (.ref f1)))
    (l1 : K.lookup f1 = some ⟨oc1, od1, .func (PySem.W.fnOf "lines_of" "lines_of" (defArgs sLinesOf) (defBody sLinesOf) (defScope sLinesOf) .none kV1 dc1 pm1 an1 cd1 ct1), sl1⟩)
    (c1 : PySem.W.codeIn K cd1 "lines_of" = true)
    (k1 : PySem.W.keepIn K (.ref f1) = true)
    (a2 : PySem.W.nsIn K mainGlobals "shown_tree" = some (some (.ref f2)))
    (l2 : K.lookup f2 = some ⟨oc2, od2, .func (PySem.W.fnOf "shown_tree" "shown_tree" (defArgs sShown) (defBody sShown) (defScope sShown) .none kV2 dc2 pm2 an2 cd2 ct2), sl2⟩)
    (c2 : PySem.W.codeIn K cd2 "shown_tree" = true)
    (k2 : PySem.W.keepIn K (.ref f2) = true)
    (a3 : PySem.W.nsIn K mainGlobals "parse_tree" = some (some (.ref f3)))
    (l3 : K.lookup f3 = some ⟨oc3, od3, .func (PySem.W.fnOf "parse_tree" "parse_tree" (defArgs sParse) (defBody sParse) (defScope sParse) .none kV3 dc3 pm3 an3 cd3 ct3), sl3⟩)
    (c3 : PySem.W.codeIn K cd3 "parse_tree" = true)
    (k3 : PySem.W.keepIn K (.ref f3) = true)
    (a4 : PySem.W.nsIn K mainGlobals "_law_cell" = some (some (.ref f4)))
    (l4 : K.lookup f4 = some ⟨oc4, od4, .func (PySem.W.fnOf "_law_cell" "_law_cell" (defArgs sCell) (defBody sCell) (defScope sCell) .none kV4 dc4 pm4 an4 cd4 ct4), sl4⟩)
    (c4 : PySem.W.codeIn K cd4 "_law_cell" = true)
    (k4 : PySem.W.keepIn K (.ref f4) = true)
    (a5 : PySem.W.nsIn K mainGlobals "_law_digits" = some (some (.ref f5)))
    (l5 : K.lookup f5 = some ⟨oc5, od5, .func (PySem.W.fnOf "_law_digits" "_law_digits" (defArgs sDigits) (defBody sDigits) (defScope sDigits) .none kV5 dc5 pm5 an5 cd5 ct5), sl5⟩)
    (c5 : PySem.W.codeIn K cd5 "_law_digits" = true)
    (k5 : PySem.W.keepIn K (.ref f5) = true)
    (a6 : PySem.W.nsIn K mainGlobals "_law_draw" = some (some (.ref f6)))
    (l6 : K.lookup f6 = some ⟨oc6, od6, .func (PySem.W.fnOf "_law_draw" "_law_draw" (defArgs sDraw) (defBody sDraw) (defScope sDraw) .none kV6 dc6 pm6 an6 cd6 ct6), sl6⟩)
    (c6 : PySem.W.codeIn K cd6 "_law_draw" = true)
    (k6 : PySem.W.keepIn K (.ref f6) = true)
    (a7 : PySem.W.nsIn K mainGlobals "_law_pick" = some (some (.ref f7)))
    (l7 : K.lookup f7 = some ⟨oc7, od7, .func (PySem.W.fnOf "_law_pick" "_law_pick" (defArgs sPick) (defBody sPick) (defScope sPick) .none kV7 dc7 pm7 an7 cd7 ct7), sl7⟩)
    (c7 : PySem.W.codeIn K cd7 "_law_pick" = true)
    (k7 : PySem.W.keepIn K (.ref f7) = true)
    (a8 : PySem.W.nsIn K mainGlobals "_law_parents" = some (some (.ref f8)))
    (l8 : K.lookup f8 = some ⟨oc8, od8, .func (PySem.W.fnOf "_law_parents" "_law_parents" (defArgs sParents) (defBody sParents) (defScope sParents) .none kV8 dc8 pm8 an8 cd8 ct8), sl8⟩)
    (c8 : PySem.W.codeIn K cd8 "_law_parents" = true)
    (k8 : PySem.W.keepIn K (.ref f8) = true)
    (a9 : PySem.W.nsIn K mainGlobals "_law_history" = some (some (.ref f9)))
    (l9 : K.lookup f9 = some ⟨oc9, od9, .func (PySem.W.fnOf "_law_history" "_law_history" (defArgs sHistory) (defBody sHistory) (defScope sHistory) .none kV9 dc9 pm9 an9 cd9 ct9), sl9⟩)
    (c9 : PySem.W.codeIn K cd9 "_law_history" = true)
    (k9 : PySem.W.keepIn K (.ref f9) = true)
    (a10 : PySem.W.nsIn K mainGlobals "_law_tree" = some (some (.ref f10)))
    (l10 : K.lookup f10 = some ⟨oc10, od10, .func (PySem.W.fnOf "_law_tree" "_law_tree" (defArgs sTree) (defBody sTree) (defScope sTree) .none kV10 dc10 pm10 an10 cd10 ct10), sl10⟩)
    (c10 : PySem.W.codeIn K cd10 "_law_tree" = true)
    (k10 : PySem.W.keepIn K (.ref f10) = true)
    (a11 : PySem.W.nsIn K mainGlobals "_law_deep" = some (some (.ref f11)))
    (l11 : K.lookup f11 = some ⟨oc11, od11, .func (PySem.W.fnOf "_law_deep" "_law_deep" (defArgs sDeep) (defBody sDeep) (defScope sDeep) .none kV11 dc11 pm11 an11 cd11 ct11), sl11⟩)
    (c11 : PySem.W.codeIn K cd11 "_law_deep" = true)
    (k11 : PySem.W.keepIn K (.ref f11) = true)
    (a12 : PySem.W.nsIn K mainGlobals "_law_lines" = some (some (.ref f12)))
    (l12 : K.lookup f12 = some ⟨oc12, od12, .func (PySem.W.fnOf "_law_lines" "_law_lines" (defArgs sLines) (defBody sLines) (defScope sLines) .none kV12 dc12 pm12 an12 cd12 ct12), sl12⟩)
    (c12 : PySem.W.codeIn K cd12 "_law_lines" = true)
    (k12 : PySem.W.keepIn K (.ref f12) = true)
    (a13 : PySem.W.nsIn K mainGlobals "_law_is_number" = some (some (.ref f13)))
    (l13 : K.lookup f13 = some ⟨oc13, od13, .func (PySem.W.fnOf "_law_is_number" "_law_is_number" (defArgs sIsNum) (defBody sIsNum) (defScope sIsNum) .none kV13 dc13 pm13 an13 cd13 ct13), sl13⟩)
    (c13 : PySem.W.codeIn K cd13 "_law_is_number" = true)
    (k13 : PySem.W.keepIn K (.ref f13) = true)
    (a14 : PySem.W.nsIn K mainGlobals "_law_read" = some (some (.ref f14)))
    (l14 : K.lookup f14 = some ⟨oc14, od14, .func (PySem.W.fnOf "_law_read" "_law_read" (defArgs sRead) (defBody sRead) (defScope sRead) .none kV14 dc14 pm14 an14 cd14 ct14), sl14⟩)
    (c14 : PySem.W.codeIn K cd14 "_law_read" = true)
    (k14 : PySem.W.keepIn K (.ref f14) = true)
    (a15 : PySem.W.nsIn K mainGlobals "_law_due" = some (some (.ref f15)))
    (l15 : K.lookup f15 = some ⟨oc15, od15, .func (PySem.W.fnOf "_law_due" "_law_due" (defArgs sDue) (defBody sDue) (defScope sDue) .none kV15 dc15 pm15 an15 cd15 ct15), sl15⟩)
    (c15 : PySem.W.codeIn K cd15 "_law_due" = true)
    (k15 : PySem.W.keepIn K (.ref f15) = true)
    (a16 : PySem.W.nsIn K mainGlobals "_law_told" = some (some (.ref f16)))
    (l16 : K.lookup f16 = some ⟨oc16, od16, .func (PySem.W.fnOf "_law_told" "_law_told" (defArgs sTold) (defBody sTold) (defScope sTold) .none kV16 dc16 pm16 an16 cd16 ct16), sl16⟩)
    (c16 : PySem.W.codeIn K cd16 "_law_told" = true)
    (k16 : PySem.W.keepIn K (.ref f16) = true)
    (a17 : PySem.W.nsIn K mainGlobals "_law_other" = some (some (.ref f17)))
    (l17 : K.lookup f17 = some ⟨oc17, od17, .func (PySem.W.fnOf "_law_other" "_law_other" (defArgs sOther) (defBody sOther) (defScope sOther) .none kV17 dc17 pm17 an17 cd17 ct17), sl17⟩)
    (c17 : PySem.W.codeIn K cd17 "_law_other" = true)
    (k17 : PySem.W.keepIn K (.ref f17) = true)
    (a18 : PySem.W.nsIn K mainGlobals "law" = some (some (.ref f18)))
    (l18 : K.lookup f18 = some ⟨oc18, od18, .func (PySem.W.fnOf "law" "law" (defArgs sLaw) (defBody sLaw) (defScope sLaw) .none kV18 dc18 pm18 an18 cd18 ct18), sl18⟩)
    (c18 : PySem.W.codeIn K cd18 "law" = true)
    (k18 : PySem.W.keepIn K (.ref f18) = true)
    (aC : PySem.W.nsIn K mainGlobals "Reader" = some (some (.ref C)))
    (a50 : PySem.W.findIn K (.ref C) "__init__" = some (some (.ref f50)))
    (i50 : PySem.W.isFn K (.ref f50) = true)
    (l50 : K.lookup f50 = some ⟨oc50, od50, .func (PySem.W.fnOf "__init__" "Reader.__init__" (defArgs sRdInit) (defBody sRdInit) (defScope sRdInit) .none kV50 dc50 pm50 an50 cd50 ct50), sl50⟩)
    (c50 : PySem.W.codeIn K cd50 "Reader.__init__" = true)
    (k50 : PySem.W.keepIn K (.ref f50) = true)
    (a51 : PySem.W.findIn K (.ref C) "words" = some (some (.ref f51)))
    (i51 : PySem.W.isFn K (.ref f51) = true)
    (l51 : K.lookup f51 = some ⟨oc51, od51, .func (PySem.W.fnOf "words" "Reader.words" (defArgs sRdWords) (defBody sRdWords) (defScope sRdWords) .none kV51 dc51 pm51 an51 cd51 ct51), sl51⟩)
    (c51 : PySem.W.codeIn K cd51 "Reader.words" = true)
    (k51 : PySem.W.keepIn K (.ref f51) = true)
    (a52 : PySem.W.findIn K (.ref C) "tree" = some (some (.ref f52)))
    (i52 : PySem.W.isFn K (.ref f52) = true)
    (l52 : K.lookup f52 = some ⟨oc52, od52, .func (PySem.W.fnOf "tree" "Reader.tree" (defArgs sRdTree) (defBody sRdTree) (defScope sRdTree) .none kV52 dc52 pm52 an52 cd52 ct52), sl52⟩)
    (c52 : PySem.W.codeIn K cd52 "Reader.tree" = true)
    (k52 : PySem.W.keepIn K (.ref f52) = true)
    (pg : PySem.W.plainGet K C Str.empty = true)
    (hd : PySem.W.hasDictIn K C = true)
    (po : PySem.W.plainOver K C = true)
    (sa : PySem.W.findIn K (.ref C) "__setattr__" = some (some (.builtin "object.__setattr__")))
    (mk : PySem.W.makesIn K C = true)
    (kc : PySem.W.keepIn K (.ref C) = true)
    (nN : PySem.W.findIn K (.ref C) "names" = some none)
    (nL : PySem.W.findIn K (.ref C) "lines" = some none)
    (nP : PySem.W.findIn K (.ref C) "place" = some none)
    (gM : PySem.W.nsIn K mainGlobals "MOST_ASKS" = some (some (.int 40 tM)))
    (z_len : PySem.W.nsIn K mainGlobals "len" = some none)
    (z_int : PySem.W.nsIn K mainGlobals "int" = some none)
    (z_str : PySem.W.nsIn K mainGlobals "str" = some none)
    (z_range : PySem.W.nsIn K mainGlobals "range" = some none)
    (z_tuple : PySem.W.nsIn K mainGlobals "tuple" = some none)
    (z_sorted : PySem.W.nsIn K mainGlobals "sorted" = some none)
    (z_set : PySem.W.nsIn K mainGlobals "set" = some none)
    (z_isi : PySem.W.nsIn K mainGlobals "isinstance" = some none)
    (z_sup : PySem.W.nsIn K mainGlobals "super" = some none)
    (gBx : PySem.W.nsIn K mainGlobals "BadHistory" = some (some (.ref CB)))
    (gKx : PySem.W.nsIn K mainGlobals "BreakError" = some (some (.ref CK)))
    (gAx : PySem.W.nsIn K mainGlobals "BadAnswer" = some (some (.ref CA)))
    (gSx : PySem.W.nsIn K mainGlobals "BadState" = some (some (.ref CS)))
    (gTx : PySem.W.nsIn K mainGlobals "TooGreat" = some (some (.ref CT)))
    (bL : K.lookup CB = some (excClassObj bnm bq CB bN bbs [.ref CK, .type "ValueError", .type "Exception", .type "BaseException", .type "object"] true bsn bsub bab bcol bdd b0 b1 b2 b3 b5 "ValueError.__new__"))
    (kL : K.lookup CK = some (excClassObj knm kq CK kN kbs [.type "ValueError", .type "Exception", .type "BaseException", .type "object"] true ksn ksub kab kcol kdd m0 m1 m2 m3 m5 "ValueError.__new__"))
    (kI : PySem.W.findIn K (.ref CK) "__init__" = some (some (.builtin "ValueError.__init__")))
    (bsa : PySem.W.findIn K (.ref CB) "__setattr__" = some (some (.builtin "object.__setattr__")))
    (bex : PySem.W.subIn K (.ref CB) (.type "BaseException") = some true)
    (bty : PySem.W.typeIn K (.ref CB) = some (.type "type"))
    (bkc : PySem.W.keepIn K (.ref CB) = true)
    (bi : PySem.W.findIn K (.ref CB) "__init__" = some (some (.ref fB)))
    (bti : PySem.W.typeIn K (.ref fB) = some (.type "function"))
    (bl : K.lookup fB = some ⟨ocB, odB, .func (PySem.W.ksFn "__init__" "BadHistory.__init__" (defArgs sBadInit) (defBody sBadInit) (defScope sBadInit) .none kVB dcB pmB anB (.ref cda) ctB cc), slB⟩)
    (bc : PySem.W.codeIn K (.ref cda) "BadHistory.__init__" = true)
    (bcd : K.lookup cda = some ⟨ccl, cdd, .fields cvs, ccs⟩)
    (bv2 : cvs[2]? = some (.str fl tf))
    (bcc : K.lookup cc = some ⟨xcl, xcd, .cell (some (.ref CB)), xsl⟩)
    (bop : PySem.W.nsIn K cStatics "thirdparty.any" = some none)
    (bms : PySem.W.mroIn K CB (.ref CB) = some true)
    (bsv : PySem.W.subIn K (.ref CB) (.type "ValueError") = some true)
    (bnl : PySem.W.findIn K (.ref CB) "line" = some none)
    (bnr : PySem.W.findIn K (.ref CB) "reason" = some none)
    (bga : PySem.W.findIn K (.ref CB) "__getattribute__" = some (some (.builtin "BaseException.__getattribute__")))
    (bgg : PySem.W.findIn K (.ref CB) "__getattr__" = some none)
    (bhd : PySem.W.hasDictIn K CB = true)
    (bca : PySem.W.findIn K (.ref CB) "__class__" = some (some (.builtin "object.__class__")))
    (bsp : PySem.W.specialIn K (.builtin "object.__class__") "__get__" = some (some (.builtin "getset_descriptor.__get__")))
    (btk : PySem.W.takesIn K (.builtin "object.__class__") = some true)
    (bmo : PySem.W.mroIn K CB (.type "object") = some true)
    (kex : PySem.W.subIn K (.ref CK) (.type "BaseException") = some true)
    (khd : PySem.W.hasDictIn K CK = true)
    (kty : PySem.W.typeIn K (.ref CK) = some (.type "type"))
    (ksb : PySem.W.subIn K (.ref CB) (.ref CK) = some true)
    (bsb : PySem.W.subIn K (.ref CB) (.ref CB) = some true)
    (hdA : PySem.W.hasDictIn K CA = true)
    (tyA : PySem.W.typeIn K (.ref CA) = some (.type "type"))
    (sbA : PySem.W.subIn K (.ref CB) (.ref CA) = some false)
    (hdS : PySem.W.hasDictIn K CS = true)
    (tyS : PySem.W.typeIn K (.ref CS) = some (.type "type"))
    (sbS : PySem.W.subIn K (.ref CB) (.ref CS) = some false)
    (hdT : PySem.W.hasDictIn K CT = true)
    (tyT : PySem.W.typeIn K (.ref CT) = some (.type "type"))
    (sbT : PySem.W.subIn K (.ref CB) (.ref CT) = some false)
    (btop : (P.main.scope.names.lookup ("super" : Str)).isSome = false)
    (bfile : (P.main.file == fl) = true)
    : ∃ fd : FuncData, (∀ (s : Shared) (v : Value), BindsTo s fd ⟨[v], []⟩ [("_law_script", v)]) ∧ ∀ base : Heap, K.In base → base.Ns mainGlobals mg → FnOk P w K mg base CX0 52 fa fd ["_law_script"] (spLaw K) := by
  have e := hfa.symm.trans (PySem.W.mg_of X G a18)
  cases e
  have T : Free mg := ⟨PySem.W.mg_none_of X G z_len, PySem.W.mg_none_of X G z_int, PySem.W.mg_none_of X G z_str, PySem.W.mg_none_of X G z_range, PySem.W.mg_none_of X G z_tuple, PySem.W.mg_none_of X G z_sorted, PySem.W.mg_none_of X G z_set, PySem.W.mg_none_of X G z_isi⟩
  have F0 := fun_mk (st := sNumIn) l0 c0 k0
  have D0 : DefAt K mg "number_in" sNumIn ["word"] f0 _ := ⟨F0, PySem.W.mg_of X G a0, F0.binds (ps := ["word"]) fun _ _ _ _ _ _ us hl => match us, hl with | [_], _ => rfl⟩
  have F1 := fun_mk (st := sLinesOf) l1 c1 k1
  have D1 : DefAt K mg "lines_of" sLinesOf ["history", "tree", "depth"] f1 _ := ⟨F1, PySem.W.mg_of X G a1, F1.binds (ps := ["history", "tree", "depth"]) fun _ _ _ _ _ _ us hl => match us, hl with | [_, _, _], _ => rfl⟩
  have F2 := fun_mk (st := sShown) l2 c2 k2
  have D2 : DefAt K mg "shown_tree" sShown ["history", "tree"] f2 _ := ⟨F2, PySem.W.mg_of X G a2, F2.binds (ps := ["history", "tree"]) fun _ _ _ _ _ _ us hl => match us, hl with | [_, _], _ => rfl⟩
  have F3 := fun_mk (st := sParse) l3 c3 k3
  have D3 : DefAt K mg "parse_tree" sParse ["history", "text"] f3 _ := ⟨F3, PySem.W.mg_of X G a3, F3.binds (ps := ["history", "text"]) fun _ _ _ _ _ _ us hl => match us, hl with | [_, _], _ => rfl⟩
  have F4 := fun_mk (st := sCell) l4 c4 k4
  have D4 : DefAt K mg "_law_cell" sCell ["_law_script", "_law_k"] f4 _ := ⟨F4, PySem.W.mg_of X G a4, F4.binds (ps := ["_law_script", "_law_k"]) fun _ _ _ _ _ _ us hl => match us, hl with | [_, _], _ => rfl⟩
  have F5 := fun_mk (st := sDigits) l5 c5 k5
  have D5 : DefAt K mg "_law_digits" sDigits ["_law_script", "_law_first", "_law_last"] f5 _ := ⟨F5, PySem.W.mg_of X G a5, F5.binds (ps := ["_law_script", "_law_first", "_law_last"]) fun _ _ _ _ _ _ us hl => match us, hl with | [_, _, _], _ => rfl⟩
  have F6 := fun_mk (st := sDraw) l6 c6 k6
  have D6 : DefAt K mg "_law_draw" sDraw ["_law_box", "_law_many"] f6 _ := ⟨F6, PySem.W.mg_of X G a6, F6.binds (ps := ["_law_box", "_law_many"]) fun _ _ _ _ _ _ us hl => match us, hl with | [_, _], _ => rfl⟩
  have F7 := fun_mk (st := sPick) l7 c7 k7
  have D7 : DefAt K mg "_law_pick" sPick ["_law_box", "_law_things"] f7 _ := ⟨F7, PySem.W.mg_of X G a7, F7.binds (ps := ["_law_box", "_law_things"]) fun _ _ _ _ _ _ us hl => match us, hl with | [_, _], _ => rfl⟩
  have F8 := fun_mk (st := sParents) l8 c8 k8
  have D8 : DefAt K mg "_law_parents" sParents ["_law_box", "_law_k", "_law_ends"] f8 _ := ⟨F8, PySem.W.mg_of X G a8, F8.binds (ps := ["_law_box", "_law_k", "_law_ends"]) fun _ _ _ _ _ _ us hl => match us, hl with | [_, _, _], _ => rfl⟩
  have F9 := fun_mk (st := sHistory) l9 c9 k9
  have D9 : DefAt K mg "_law_history" sHistory ["_law_box", "_law_most"] f9 _ := ⟨F9, PySem.W.mg_of X G a9, F9.binds (ps := ["_law_box", "_law_most"]) fun _ _ _ _ _ _ us hl => match us, hl with | [_, _], _ => rfl⟩
  have F10 := fun_mk (st := sTree) l10 c10 k10
  have D10 : DefAt K mg "_law_tree" sTree ["_law_box", "_law_many", "_law_deep_here"] f10 _ := ⟨F10, PySem.W.mg_of X G a10, F10.binds (ps := ["_law_box", "_law_many", "_law_deep_here"]) fun _ _ _ _ _ _ us hl => match us, hl with | [_, _, _], _ => rfl⟩
  have F11 := fun_mk (st := sDeep) l11 c11 k11
  have D11 : DefAt K mg "_law_deep" sDeep ["_law_many"] f11 _ := ⟨F11, PySem.W.mg_of X G a11, F11.binds (ps := ["_law_many"]) fun _ _ _ _ _ _ us hl => match us, hl with | [_], _ => rfl⟩
  have F12 := fun_mk (st := sLines) l12 c12 k12
  have D12 : DefAt K mg "_law_lines" sLines ["_law_history_here", "_law_tree_here", "_law_depth"] f12 _ := ⟨F12, PySem.W.mg_of X G a12, F12.binds (ps := ["_law_history_here", "_law_tree_here", "_law_depth"]) fun _ _ _ _ _ _ us hl => match us, hl with | [_, _, _], _ => rfl⟩
  have F13 := fun_mk (st := sIsNum) l13 c13 k13
  have D13 : DefAt K mg "_law_is_number" sIsNum ["_law_word"] f13 _ := ⟨F13, PySem.W.mg_of X G a13, F13.binds (ps := ["_law_word"]) fun _ _ _ _ _ _ us hl => match us, hl with | [_], _ => rfl⟩
  have F14 := fun_mk (st := sRead) l14 c14 k14
  have D14 : DefAt K mg "_law_read" sRead ["_law_names", "_law_lines_here", "_law_at", "_law_depth"] f14 _ := ⟨F14, PySem.W.mg_of X G a14, F14.binds (ps := ["_law_names", "_law_lines_here", "_law_at", "_law_depth"]) fun _ _ _ _ _ _ us hl => match us, hl with | [_, _, _, _], _ => rfl⟩
  have F15 := fun_mk (st := sDue) l15 c15 k15
  have D15 : DefAt K mg "_law_due" sDue ["_law_history_here", "_law_text"] f15 _ := ⟨F15, PySem.W.mg_of X G a15, F15.binds (ps := ["_law_history_here", "_law_text"]) fun _ _ _ _ _ _ us hl => match us, hl with | [_, _], _ => rfl⟩
  have F16 := fun_mk (st := sTold) l16 c16 k16
  have D16 : DefAt K mg "_law_told" sTold ["_law_history_here", "_law_text"] f16 _ := ⟨F16, PySem.W.mg_of X G a16, F16.binds (ps := ["_law_history_here", "_law_text"]) fun _ _ _ _ _ _ us hl => match us, hl with | [_, _], _ => rfl⟩
  have F17 := fun_mk (st := sOther) l17 c17 k17
  have D17 : DefAt K mg "_law_other" sOther ["_law_box", "_law_text"] f17 _ := ⟨F17, PySem.W.mg_of X G a17, F17.binds (ps := ["_law_box", "_law_text"]) fun _ _ _ _ _ _ us hl => match us, hl with | [_, _], _ => rfl⟩
  have F50 := fun_mk (st := sRdInit) l50 c50 k50
  have B50 := F50.binds (ps := ["self", "history", "text"]) fun _ _ _ _ _ _ us hl => match us, hl with | [_, _, _], _ => rfl
  have F51 := fun_mk (st := sRdWords) l51 c51 k51
  have B51 := F51.binds (ps := ["self", "depth"]) fun _ _ _ _ _ _ us hl => match us, hl with | [_, _], _ => rfl
  have F52 := fun_mk (st := sRdTree) l52 c52 k52
  have B52 := F52.binds (ps := ["self", "depth"]) fun _ _ _ _ _ _ us hl => match us, hl with | [_, _], _ => rfl
  have bAl : PySem.W.alongIn K "__init__" [.ref CK, .type "ValueError", .type "Exception", .type "BaseException", .type "object"] = some (some (.builtin "ValueError.__init__")) := by
    have z : (match K.lookup CK with
        | some ⟨_, _, .cls cd, _⟩ => PySem.W.alongIn K "__init__" cd.mro
        | _ => none) = some (some (.builtin "ValueError.__init__")) := kI
    rw [kL] at z
    exact z
  have oex : OexC K CB := ⟨⟨bnm, bq, bN, bbs, _, bsn, bsub, bab, bcol, bdd, b0, b1, b2, b3, b5, bL, rfl⟩, bsa, bex, bty, bkc⟩
  have BT : BadTxt K P CB fB cc cda (PySem.W.ksFn "__init__" "BadHistory.__init__" (defArgs sBadInit) (defBody sBadInit) (defScope sBadInit) .none kVB dcB pmB anB (.ref cda) ctB cc) :=
    ⟨oex, ⟨bnm, bq, bN, bbs, _, bsn, bsub, bab, bcol, bdd, b0, b1, b2, b3, b5, bL, rfl, bAl⟩, ⟨ocB, odB, kVB, dcB, pmB, ctB, anB, slB, rfl, bl⟩, bc, ⟨ccl, cdd, _, ccs, fl, tf, bcd, bv2, bfile⟩, ⟨xcl, xcd, xsl, bcc⟩, bop, btop, bms, bsv, bnl, bnr⟩
  have bB : Binds K (PySem.W.ksFn "__init__" "BadHistory.__init__" (defArgs sBadInit) (defBody sBadInit) (defScope sBadInit) .none kVB dcB pmB anB (.ref cda) ctB cc) nBad [] := .all fun us hl => match us, hl with | [_, _, _], _ => rfl
  have R : RdC K C := ⟨⟨pg, hd, po, sa⟩, nN, nL, nP⟩
  have ET : ErrTxt K mg CB := ⟨⟨bga, bgg, bex, bhd, bca, bsp, btk, bmo⟩, ⟨bga, bgg, bex, bhd⟩, bnl, bnr, PySem.W.mg_of X G gBx, ⟨CK, CA, CS, CT, PySem.W.mg_of X G gKx, PySem.W.mg_of X G gAx, PySem.W.mg_of X G gSx, PySem.W.mg_of X G gTx, PySem.W.exm_ref kex khd kty ksb, kit_no hdA tyA sbA bsb, kit_no hdS tyS sbS bsb, kit_no hdT tyT sbT bsb⟩⟩
  refine ⟨PySem.W.fnOf "law" "law" (defArgs sLaw) (defBody sLaw) (defScope sLaw) .none kV18 dc18 pm18 an18 cd18 ct18, fun s v => .of_eq rfl, fun base _ _ => ?_⟩
  · have c_cell := D4.callee (ok_cell (P := P) (w := w) (base := base) D4 T)
    have c_digits := D5.callee (ok_digits (P := P) (w := w) (base := base) D5 T c_cell)
    have c_draw := D6.callee (ok_draw (P := P) (w := w) (base := base) D6 T)
    have c_pick := D7.callee (ok_pick (P := P) (w := w) (base := base) D7 T c_draw)
    have c_parents := D8.callee (ok_parents (P := P) (w := w) (base := base) D8 T c_draw)
    have c_history := D9.callee (ok_history (P := P) (w := w) (base := base) D9 T c_draw c_parents)
    have c_tree := D10.callee (ok_tree (P := P) (w := w) (base := base) D10 T c_draw c_pick 5)
    have c_deep := D11.callee (ok_deep (P := P) (w := w) (base := base) D11 T)
    have c_lines := D12.callee (ok_lines (P := P) (w := w) (base := base) D12 T 50)
    have c_linesof := D1.callee (ok_linesOf (P := P) (w := w) (base := base) D1 T 50)
    have c_shown := D2.callee (ok_shown (P := P) (w := w) (base := base) D2 T c_linesof)
    have c_num := D0.callee (ok_num (P := P) (w := w) (base := base) D0 T)
    have c_isnum := D13.callee (ok_isNum (P := P) (w := w) (base := base) D13 T)
    have c_read := D14.callee (ok_read (P := P) (w := w) (base := base) D14 T c_isnum 41)
    have c_due := D15.callee (ok_due (P := P) (w := w) (base := base) D15 T c_read)
    have c_other := D17.callee (ok_other (P := P) (w := w) (base := base) D17 T c_draw c_pick)
    have BU : BadUse P w K mg base CB := ⟨oex, PySem.W.mg_of X G gBx, ⟨fB, _, bi, bti, ok_bad (PySem.W.mg_none_of X G z_sup) T BT, bB⟩⟩
    have MU : MakeUse P w K mg base C := ⟨R, PySem.W.mg_of X G aC, ⟨f50, _, ⟨mk, a50, i50, kc⟩, ok_rdInit F50 T R, B50⟩⟩
    have mw : MethUse P w K mg base (L2.CX P w) 3 C "words" ["self", "depth"] (spWords C CB) := ⟨f51, _, ⟨a51, i51, k51⟩, ok_words F51 T R BU, B51⟩
    have mt : MethUse P w K mg base (L2.CX P w) 44 C "tree" ["self", "depth"] (spRdTree C CB 41) := ⟨f52, _, ⟨a52, i52, k52⟩, ok_rdTree F52 T R BU ⟨tM, PySem.W.mg_of X G gM⟩ ⟨a52, i52, k52⟩ B52 mw c_num 41, B52⟩
    have c_parse := D3.callee (ok_parse (P := P) (w := w) (base := base) D3 T MU BU mt)
    have c_told := D16.callee (ok_told (P := P) (w := w) (base := base) D16 T ET c_parse)
    exact ok_law (fun_mk (st := sLaw) l18 c18 k18) T c_digits c_draw c_history c_tree c_deep c_lines c_shown c_told c_other c_due
theorem walk {l : PySem.W.OpenLaw} {q : Program} {loose : List Str} {XP : (Str → Option Value) → Heap → Prop} {YP : World → Heap → Prop} {d : DefRec} {K : Params → PySem.W.Frag} (hn : l.most = some 63) (hdf : d.params.defaults = [])
    (hY : ∀ (w : World) (h : Heap), YP w h → (K w.params).In h)
    (F : ∀ (w : World) (mg : Str → Option Value) (fa : Addr) (h : Heap), (K w.params).In h → h.Ns mainGlobals mg → mg d.name = some (.ref fa) →
      ∃ fd : FuncData, (∀ (s : Shared) (u : Value), BindsTo s fd ⟨[u], []⟩ [("_law_script", u)]) ∧ ∀ base : Heap, (K w.params).In base → base.Ns mainGlobals mg → FnOk l.prog w (K w.params) mg base CX0 52 fa fd ["_law_script"] (spLaw (K w.params))) :
    PySem.W.WalkO q loose XP YP l.row.toRowW d [] (fun f vs => PySem.call f vs) :=
  L2.walk_of (n := 63) (k := 52) (x := "_law_script") (CX := fun _ => CX0) (sp := fun w => spLaw (K w.params)) hn (by decide) hdf ⟨rfl, by decide, by decide⟩ hY F (fun _ _ a ns _ _ hS => ⟨a, ns, rfl, hS, fun _ => rfl⟩) fun _ _ _ _ _ z => z
end FB


open PySem PySem.W PyProof.Rows in
set_option maxRecDepth 100000 in
set_option maxHeartbeats 0 in
theorem PySem.Challenge.cw_firstbreak_k35_trees_are_read_holds : PySem.Challenge.rw_firstbreak_k35_trees_are_read.Holds := by
  w_on; o_law; k_head; (case hw => w_witness2)
  k_fill
  refine FB.walk (l := PySem.Challenge.rw_firstbreak_k35_trees_are_read) rfl rfl (fun w h Y => PySem.W.kIn_of Y) ?F
  case F =>
    intro w mg fa h KX G hmg
    refine' FB.all_mk KX G hmg ?a0 ?l0 ?c0 ?k0 ?a1 ?l1 ?c1 ?k1 ?a2 ?l2 ?c2 ?k2 ?a3 ?l3 ?c3 ?k3 ?a4 ?l4 ?c4 ?k4 ?a5 ?l5 ?c5 ?k5 ?a6 ?l6 ?c6 ?k6 ?a7 ?l7 ?c7 ?k7 ?a8 ?l8 ?c8 ?k8 ?a9 ?l9 ?c9 ?k9 ?a10 ?l10 ?c10 ?k10 ?a11 ?l11 ?c11 ?k11 ?a12 ?l12 ?c12 ?k12 ?a13 ?l13 ?c13 ?k13 ?a14 ?l14 ?c14 ?k14 ?a15 ?l15 ?c15 ?k15 ?a16 ?l16 ?c16 ?k16 ?a17 ?l17 ?c17 ?k17 ?a18 ?l18 ?c18 ?k18 ?aC ?a50 ?i50 ?l50 ?c50 ?k50 ?a51 ?i51 ?l51 ?c51 ?k51 ?a52 ?i52 ?l52 ?c52 ?k52 ?pg ?hd ?po ?sa ?mk ?kc ?nN ?nL ?nP ?gM ?z_len ?z_int ?z_str ?z_range ?z_tuple ?z_sorted ?z_set ?z_isi ?z_sup ?gBx ?gKx ?gAx ?gSx ?gTx ?bL ?kL ?kI ?bsa ?bex ?bty ?bkc ?bi ?bti ?bl ?bc ?bcd ?bv2 ?bcc ?bop ?bms ?bsv ?bnl ?bnr ?bga ?bgg ?bhd ?bca ?bsp ?btk ?bmo ?kex ?khd ?kty ?ksb ?bsb ?hdA ?tyA ?sbA ?hdS ?tyS ?sbS ?hdT ?tyT ?sbT ?btop ?bfile
    (case a0 => k_is)
    (case l0 => k_is)
    (case c0 => k_is)
    (case k0 => k_is)
    (case a1 => k_is)
    (case l1 => k_is)
    (case c1 => k_is)
    (case k1 => k_is)
    (case a2 => k_is)
    (case l2 => k_is)
    (case c2 => k_is)
    (case k2 => k_is)
    (case a3 => k_is)
    (case l3 => k_is)
    (case c3 => k_is)
    (case k3 => k_is)
    (case a4 => k_is)
    (case l4 => k_is)
    (case c4 => k_is)
    (case k4 => k_is)
    (case a5 => k_is)
    (case l5 => k_is)
    (case c5 => k_is)
    (case k5 => k_is)
    (case a6 => k_is)
    (case l6 => k_is)
    (case c6 => k_is)
    (case k6 => k_is)
    (case a7 => k_is)
    (case l7 => k_is)
    (case c7 => k_is)
    (case k7 => k_is)
    (case a8 => k_is)
    (case l8 => k_is)
    (case c8 => k_is)
    (case k8 => k_is)
    (case a9 => k_is)
    (case l9 => k_is)
    (case c9 => k_is)
    (case k9 => k_is)
    (case a10 => k_is)
    (case l10 => k_is)
    (case c10 => k_is)
    (case k10 => k_is)
    (case a11 => k_is)
    (case l11 => k_is)
    (case c11 => k_is)
    (case k11 => k_is)
    (case a12 => k_is)
    (case l12 => k_is)
    (case c12 => k_is)
    (case k12 => k_is)
    (case a13 => k_is)
    (case l13 => k_is)
    (case c13 => k_is)
    (case k13 => k_is)
    (case a14 => k_is)
    (case l14 => k_is)
    (case c14 => k_is)
    (case k14 => k_is)
    (case a15 => k_is)
    (case l15 => k_is)
    (case c15 => k_is)
    (case k15 => k_is)
    (case a16 => k_is)
    (case l16 => k_is)
    (case c16 => k_is)
    (case k16 => k_is)
    (case a17 => k_is)
    (case l17 => k_is)
    (case c17 => k_is)
    (case k17 => k_is)
    (case a18 => k_is)
    (case l18 => k_is)
    (case c18 => k_is)
    (case k18 => k_is)
    (case aC => k_is)
    (case a50 => k_is)
    (case i50 => k_is)
    (case l50 => k_is)
    (case c50 => k_is)
    (case k50 => k_is)
    (case a51 => k_is)
    (case i51 => k_is)
    (case l51 => k_is)
    (case c51 => k_is)
    (case k51 => k_is)
    (case a52 => k_is)
    (case i52 => k_is)
    (case l52 => k_is)
    (case c52 => k_is)
    (case k52 => k_is)
    (case pg => k_is)
    (case hd => k_is)
    (case po => k_is)
    (case sa => k_is)
    (case mk => k_is)
    (case kc => k_is)
    (case nN => k_is)
    (case nL => k_is)
    (case nP => k_is)
    (case gM => k_is)
    (case z_len => k_is)
    (case z_int => k_is)
    (case z_str => k_is)
    (case z_range => k_is)
    (case z_tuple => k_is)
    (case z_sorted => k_is)
    (case z_set => k_is)
    (case z_isi => k_is)
    (case z_sup => k_is)
    (case gBx => k_is)
    (case gKx => k_is)
    (case gAx => k_is)
    (case gSx => k_is)
    (case gTx => k_is)
    (case bL => k_is)
    (case kL => k_is)
    (case kI => k_is)
    (case bsa => k_is)
    (case bex => k_is)
    (case bty => k_is)
    (case bkc => k_is)
    (case bi => k_is)
    (case bti => k_is)
    (case bl => k_is)
    (case bc => k_is)
    (case bcd => k_is)
    (case bv2 => rfl)
    (case bcc => k_is)
    (case bop => k_is)
    (case bms => k_is)
    (case bsv => k_is)
    (case bnl => k_is)
    (case bnr => k_is)
    (case bga => k_is)
    (case bgg => k_is)
    (case bhd => k_is)
    (case bca => k_is)
    (case bsp => k_is)
    (case btk => k_is)
    (case bmo => k_is)
    (case kex => k_is)
    (case khd => k_is)
    (case kty => k_is)
    (case ksb => first | k_is | rfl)
    (case bsb => first | k_is | rfl)
    (case hdA => k_is)
    (case tyA => k_is)
    (case sbA => first | k_is | rfl)
    (case hdS => k_is)
    (case tyS => k_is)
    (case sbS => first | k_is | rfl)
    (case hdT => k_is)
    (case tyT => k_is)
    (case sbT => first | k_is | rfl)
    (case btop => first | decide +kernel | rfl)
    (case bfile => first | decide +kernel | rfl | k_is)
#print axioms PySem.Challenge.cw_firstbreak_k35_trees_are_read_holds
