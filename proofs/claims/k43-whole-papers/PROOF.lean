import PyProof.Rows.All
import Wide.All
import OpenK.AllK
import Wide.FinOn
import HandS.ForMost
import KE.KStateDown
import KE.RegKSuper
import KE.KExcSuper
import HandS.Exc
import HandS.ExcCtx
import HandS.RaiseFrom
import HandS.ForExc
import HandS.ExcIs
import HandS.SuiteRaise
import HandS.IsInst
import HandS.ExcField
import HandS.Defaults
import HandS.Evl
import HandS.Zip
import HandS.More
import HandS.OwnEq
import HandS.Conv
import HandS.Star
import HandS.WideBits
import HandS.Style
import HandS.Head0
import HandS.Head1
import HandS.Head2
import HandS.HeadEnd
import HandS.HeadHook1
import HandS.HeadHook2
import PySem.Challenge.RW_sparecells_k43_whole_papers
set_option Elab.async false
set_option linter.all false
set_option maxRecDepth 100000
set_option maxHeartbeats 4000000
/-! The plain law: texts are lists of code points. The program's reader and the law's own reader agree where no run of digits is longer than 30. -/
namespace Pap
open PySem TL

abbrev Tx := List Nat

/-! ### digits -/
def isD (c : Nat) : Bool := decide (48 ≤ c) && decide (c ≤ 57)
theorem isD_iff {c : Nat} : isD c = true ↔ 48 ≤ c ∧ c ≤ 57 := by
  unfold isD
  rw [Bool.and_eq_true, decide_eq_true_eq, decide_eq_true_eq]
theorem isD_no {c : Nat} (h : c < 48 ∨ 57 < c) : isD c = false := by
  cases e : isD c with
  | false => rfl
  | true =>
    have := isD_iff.mp e
    omega
def numP (p : Tx) : Bool := !p.isEmpty && p.all isD
theorem numP_iff {p : Tx} : numP p = true ↔ p ≠ [] ∧ NumText.AllDigits p := by
  unfold numP
  rw [Bool.and_eq_true, List.all_eq_true]
  constructor
  · rintro ⟨h1, h2⟩
    refine ⟨fun e => (by rw [e] at h1; cases h1), fun c hc => isD_iff.mp (h2 c hc)⟩
  · rintro ⟨h1, h2⟩
    refine ⟨?_, fun c hc => isD_iff.mpr (h2 c hc)⟩
    cases p with
    | nil => exact absurd rfl h1
    | cons a r => rfl
theorem numP_numL (n : Nat) : numP (numL n) = true := numP_iff.mpr ⟨numL_ne n, numL_digits n⟩
abbrev val (p : Tx) : Nat := NumText.digitsVal p
theorem val_snoc (q : Tx) (d : Nat) : val (q ++ [d]) = val q * 10 + (d - 48) := by
  show (q ++ [d]).foldl _ 0 = _
  rw [List.foldl_append]
  rfl
/-- no nought ahead -/
def noLead (p : Tx) : Bool := decide (p = [48]) || !(p.head? == some 48)
theorem head_app {q r : Tx} (h : q ≠ []) : (q ++ r).head? = q.head? := by
  cases q with
  | nil => exact absurd rfl h
  | cons a q => rfl
theorem val_pos : ∀ (p : Tx), NumText.AllDigits p → p ≠ [] → p.head? ≠ some 48 → 1 ≤ val p := by
  intro p
  induction h : p.length generalizing p with
  | zero =>
    intro _ hn _
    exact absurd (List.length_eq_zero_iff.mp h) hn
  | succ k ih =>
    intro hd hn hh
    obtain ⟨q, d, rfl⟩ : ∃ q d, p = q ++ [d] := ⟨p.dropLast, p.getLast hn, (List.dropLast_concat_getLast hn).symm⟩
    have hq : NumText.AllDigits q := fun c hc => hd c (List.mem_append_left _ hc)
    have hdd := hd d (List.mem_append_right _ (List.mem_singleton.mpr rfl))
    rw [val_snoc]
    by_cases e : q = []
    · subst e
      have : d ≠ 48 := fun z => hh (by rw [z]; rfl)
      omega
    · have l : q.length = k := by
        rw [List.length_append] at h
        simpa using h
      have hh' : q.head? ≠ some 48 := by
        rw [head_app e] at hh
        exact hh
      have := ih q l hq e hh'
      omega
theorem numL_of : ∀ (p : Tx), NumText.AllDigits p → p ≠ [] → noLead p = true → numL (val p) = p := by
  intro p
  induction h : p.length generalizing p with
  | zero =>
    intro _ hn _
    exact absurd (List.length_eq_zero_iff.mp h) hn
  | succ k ih =>
    intro hd hn hl
    obtain ⟨q, d, rfl⟩ : ∃ q d, p = q ++ [d] := ⟨p.dropLast, p.getLast hn, (List.dropLast_concat_getLast hn).symm⟩
    have hq : NumText.AllDigits q := fun c hc => hd c (List.mem_append_left _ hc)
    have hdd := hd d (List.mem_append_right _ (List.mem_singleton.mpr rfl))
    rw [val_snoc]
    by_cases e : q = []
    · subst e
      have e2 : val [] * 10 + (d - 48) = d - 48 := by
        show 0 * 10 + (d - 48) = d - 48
        omega
      rw [e2, numL_lt (by omega)]
      show [48 + (d - 48)] = [d]
      rw [show 48 + (d - 48) = d by omega]
    · have l : q.length = k := by
        rw [List.length_append] at h
        simpa using h
      have hh' : q.head? ≠ some 48 := by
        intro z
        unfold noLead at hl
        rw [head_app e, z] at hl
        have hne : ¬ (q ++ [d] = [48]) := by
          intro y
          have z2 := congrArg List.length y
          rw [List.length_append] at z2
          have : q.length ≠ 0 := fun w => e (List.length_eq_zero_iff.mp w)
          have z3 : q.length + 1 = 1 := z2
          omega
        rw [decide_eq_false hne] at hl
        simp at hl
      have hp := val_pos q hq e hh'
      have hl' : noLead q = true := by
        unfold noLead
        rw [Bool.or_eq_true]
        refine .inr ?_
        cases y : q.head? == some 48 with
        | false => rfl
        | true => exact absurd (eq_of_beq y) hh'
      have ihq := ih q l hq e hl'
      generalize val q = v at hp ihq
      have h10 : 10 ≤ v * 10 + (d - 48) := by omega
      have hm : (v * 10 + (d - 48)) / 10 = v := by omega
      have hr : (v * 10 + (d - 48)) % 10 = d - 48 := by omega
      rw [numL_step h10, hm, hr, ihq, show 48 + (d - 48) = d by omega]
theorem noLead_numL (n : Nat) : noLead (numL n) = true := by
  induction n using Nat.strongRecOn with
  | _ n ih =>
    by_cases h : n < 10
    · rw [numL_lt h]
      unfold noLead
      by_cases h0 : n = 0
      · subst h0
        rfl
      · have : ¬ ([48 + n].head? == some 48) = true := by
          intro z
          have z2 : 48 + n = 48 := by
            have := eq_of_beq z
            exact Option.some.inj this
          omega
        rw [Bool.or_eq_true]
        exact .inr (by rw [Bool.not_eq_true'] ; exact Bool.eq_false_iff.mpr this)
    · have hd := ih (n / 10) (by omega)
      have ne := numL_ne (n / 10)
      have h1 : (numL (n / 10)).head? ≠ some 48 := by
        intro z
        unfold noLead at hd
        rw [z] at hd
        have e : numL (n / 10) = [48] := by simpa using hd
        have e2 : numL (n / 10) = numL 0 := by rw [e]; rfl
        have := numL_inj e2
        omega
      rw [numL_step (by omega)]
      unfold noLead
      rw [head_app ne, Bool.or_eq_true]
      refine .inr ?_
      cases y : (numL (n / 10)).head? == some 48 with
      | false => rfl
      | true => exact absurd (eq_of_beq y) h1

/-! ### cutting and joining -/
def cut (s : Nat) (t : Tx) : List Tx := spl [s] 0 [] t
theorem pre_one (s c : Nat) (r : Tx) : pre [s] (c :: r) = (c == s) := by
  unfold pre
  show ((c :: r).take 1 == [s]) = (c == s)
  show ([c] == [s]) = (c == s)
  simp
theorem spl_hd (s : Nat) : ∀ (t acc : Tx), ∃ p ps, spl [s] 0 acc t = p :: ps
  | [], acc => ⟨acc, [], spl_nil _ _ _⟩
  | c :: r, acc => by
    cases e : pre [s] (c :: r) with
    | true => exact ⟨_, _, spl_hit e⟩
    | false =>
      rw [spl_miss e]
      exact spl_hd s r _
theorem cut_ne (s : Nat) (t : Tx) : cut s t ≠ [] := by
  obtain ⟨p, ps, e⟩ := spl_hd s t []
  unfold cut
  rw [e]
  simp
theorem join_spl (s : Nat) : ∀ (t acc : Tx), joinL [s] (spl [s] 0 acc t) = acc ++ t
  | [], acc => by rw [spl_nil]; simp [joinL]
  | c :: r, acc => by
    cases e : pre [s] (c :: r) with
    | true =>
      rw [spl_hit e]
      show joinL [s] (acc :: spl [s] 0 [] r) = _
      have hc : c = s := by
        rw [pre_one] at e
        exact eq_of_beq e
      obtain ⟨p, ps, q⟩ := spl_hd s r []
      have ih := join_spl s r []
      rw [q] at ih ⊢
      show acc ++ ([s] ++ joinL [s] (p :: ps)) = _
      rw [ih, hc]
      simp
    | false =>
      rw [spl_miss e, join_spl s r]
      simp
theorem join_cut (s : Nat) (t : Tx) : joinL [s] (cut s t) = t := by
  unfold cut
  rw [join_spl]
  rfl
theorem cut_join {s : Nat} {parts : List Tx} (hne : parts ≠ []) (h : ∀ p ∈ parts, s ∉ p) : cut s (joinL [s] parts) = parts := spl_join hne h
theorem spl_free (s : Nat) : ∀ (t acc : Tx), s ∉ acc → ∀ p ∈ spl [s] 0 acc t, s ∉ p
  | [], acc, h, p, hp => by
    rw [spl_nil] at hp
    rw [List.mem_singleton.mp hp]
    exact h
  | c :: r, acc, h, p, hp => by
    cases e : pre [s] (c :: r) with
    | true =>
      rw [spl_hit e] at hp
      rcases List.mem_cons.mp hp with rfl | hp
      · exact h
      · exact spl_free s r [] (by simp) p hp
    | false =>
      rw [spl_miss e] at hp
      refine spl_free s r _ ?_ p hp
      intro hm
      rcases List.mem_append.mp hm with hm | hm
      · exact h hm
      · rw [pre_one] at e
        rw [List.mem_singleton.mp hm] at e
        simp at e
theorem cut_free {s : Nat} {t p : Tx} (h : p ∈ cut s t) : s ∉ p := spl_free s t [] (by simp) p h
theorem joinL_cons {S p : Tx} {ps : List Tx} (h : ps ≠ []) : joinL S (p :: ps) = p ++ (S ++ joinL S ps) := by
  cases ps with
  | nil => exact absurd rfl h
  | cons q r => rfl

/-! ### rising -/
def rising : List Nat → Bool
  | [] => true
  | [_] => true
  | a :: b :: r => decide (a < b) && rising (b :: r)
theorem rising_tail {a : Nat} {r : List Nat} (h : rising (a :: r) = true) : rising r = true := by
  cases r with
  | nil => rfl
  | cons b r =>
    have : (decide (a < b) && rising (b :: r)) = true := h
    exact (Bool.and_eq_true_iff.mp this).2
theorem rising_head {a b : Nat} {r : List Nat} (h : rising (a :: b :: r) = true) : a < b := by
  have : (decide (a < b) && rising (b :: r)) = true := h
  exact of_decide_eq_true (Bool.and_eq_true_iff.mp this).1
theorem rising_lt : ∀ {r : List Nat} {a : Nat}, rising (a :: r) = true → ∀ x ∈ r, a < x
  | [], _, _, x, hx => by simp at hx
  | b :: r, a, h, x, hx => by
    have h1 := rising_head h
    rcases List.mem_cons.mp hx with rfl | hx
    · exact h1
    · exact Nat.lt_trans h1 (rising_lt (rising_tail h) x hx)
/-- the program's and the law's test, place by place -/
theorem rising_at : ∀ ns : List Nat, rising ns = (List.range (ns.length - 1)).all fun i => decide (ns.getD i 0 < ns.getD (i + 1) 0)
  | [] => rfl
  | [_] => rfl
  | a :: b :: r => by
    have ih := rising_at (b :: r)
    show (decide (a < b) && rising (b :: r)) = _
    rw [ih]
    show _ = (List.range ((b :: r).length - 1 + 1)).all _
    rw [List.range_succ_eq_map, List.all_cons, List.all_map]
    rfl
theorem last_lt {m : Nat} : ∀ {r : List Nat}, rising r = true → (r = [] ∨ r.getLastD 0 < m) → r.all (fun x => decide (x < m)) = true
  | [], _, _ => rfl
  | [a], _, h => by
    rcases h with h | h
    · cases h
    · simpa using h
  | a :: b :: r, hr, h => by
    have h2 : (b :: r).getLastD 0 < m := by
      rcases h with h | h
      · cases h
      · simpa using h
    have ih := last_lt (rising_tail hr) (.inr h2)
    rw [List.all_cons, ih, Bool.and_true]
    have hb : b < m := by
      have := List.all_eq_true.mp ih b (List.mem_cons_self ..)
      exact of_decide_eq_true this
    have := rising_head hr
    exact decide_eq_true (by omega)
theorem lt_last {m : Nat} : ∀ {r : List Nat}, r.all (fun x => decide (x < m)) = true → r = [] ∨ r.getLastD 0 < m
  | [], _ => .inl rfl
  | a :: r, h => by
    refine .inr ?_
    have : (a :: r).getLastD 0 ∈ a :: r := by
      rw [List.getLastD_cons]
      cases r with
      | nil => simp
      | cons b r =>
        simp only [List.getLastD_cons]
        exact List.mem_cons_of_mem _ (by
          rw [← List.getLastD_cons (a := 0)]
          rw [List.getLastD_eq_getLast?, List.getLast?_eq_getLast (by simp)]
          exact List.getLast_mem _)
    exact of_decide_eq_true (List.all_eq_true.mp h _ this)

def allSome {α : Type} : List (Option α) → Option (List α)
  | [] => some []
  | none :: _ => none
  | some a :: r => (allSome r).map (a :: ·)
theorem allSome_some {α : Type} : ∀ {l : List (Option α)} {r : List α}, allSome l = some r → l = r.map some
  | [], r, h => by cases h; rfl
  | none :: _, _, h => by cases h
  | some a :: l, r, h => by
    have h1 : (allSome l).map (a :: ·) = some r := h
    cases e : allSome l with
    | none => rw [e] at h1; cases h1
    | some q =>
      rw [e] at h1
      have e2 : a :: q = r := Option.some.inj h1
      rw [← e2, allSome_some e]
      rfl
theorem allSome_map {α : Type} : ∀ r : List α, allSome (r.map some) = some r
  | [] => rfl
  | a :: r => by
    show (allSome (r.map some)).map (a :: ·) = _
    rw [allSome_map r]
    rfl
theorem allSome_none {α : Type} {l : List (Option α)} : allSome l = none ↔ none ∈ l := by
  induction l with
  | nil => simp [allSome]
  | cons a l ih =>
    cases a with
    | none => simp [allSome]
    | some a =>
      show (allSome l).map (a :: ·) = none ↔ _
      rw [Option.map_eq_none_iff, ih]
      simp

/-! ### the writers -/
def cNeeds : Tx := [110, 101, 101, 100, 115]
def cOld : Tx := [111, 108, 100]
def needLine (r : List Nat) : Tx := joinL [32] (cNeeds :: r.map numL)
def recLines (m : Nat) (rows : List (List Nat)) : List Tx := (cOld ++ 32 :: numL m) :: rows.map needLine
def recText (m : Nat) (rows : List (List Nat)) : Tx := joinL [10] (recLines m rows)
def lineOf (r : List Nat) : Tx := if r = [] then [45] else joinL [32] (r.map numL)
def lotsText (rs : List (List Nat)) : Tx := joinL [10] (rs.map lineOf)
def okRec (m : Nat) (rows : List (List Nat)) : Bool := !rows.isEmpty && rows.all fun r => rising r && r.all fun x => decide (x < m)

/-! ### the program's readers -/
def pNums (l : Tx) : Option (List Nat) := if (cut 32 l).all numP = true then some ((cut 32 l).map val) else none
def pRow (l : Tx) : Option (List Nat) := if l = cNeeds then some [] else if l.take 6 = cNeeds ++ [32] then pNums (l.drop 6) else none
def pRecipe (t : Tx) : Option (Nat × List (List Nat)) :=
  if t.take 4 = cOld ++ [32] then
    match pNums (((cut 10 t).headD []).drop 4) with
    | some (m :: _) => (match allSome ((cut 10 t).tail.map pRow) with
      | some rows => if okRec m rows = true ∧ recText m rows = t then some (m, rows) else none
      | none => none)
    | _ => none
  else none
def linesOf (t : Tx) : List Tx := if t = [] then [] else cut 10 t
def pLot (l : Tx) : Option (List Nat) := if l = [45] then some [] else pNums l
def pLots (t : Tx) : Option (List (List Nat)) :=
  match allSome ((linesOf t).map pLot) with
  | some rs => if rs.all rising = true ∧ lotsText rs = t then some rs else none
  | none => none

/-! ### the law's readers -/
def lNum (p : Tx) : Option Nat := if numP p = true ∧ p.length ≤ 30 then (if noLead p = true then some (val p) else none) else none
def lNums (ps : List Tx) : Option (List Nat) := match allSome (ps.map lNum) with
  | some ns => if rising ns = true then some ns else none
  | none => none
def lRow (ps : List Tx) : Option (List Nat) := if ps.headD [] = cNeeds then lNums ps.tail else none
def lRecipe (t : Tx) : Option (Nat × List (List Nat)) :=
  let ls := (cut 10 t).map (cut 32)
  if 2 ≤ ls.length ∧ (ls.headD []).length = 2 ∧ (ls.headD []).headD [] = cOld then
    match lNum ((ls.headD []).getD 1 []) with
    | some m => (match allSome (ls.tail.map lRow) with
      | some rows => if rows.all (fun r => decide (r = []) || decide (r.getLastD 0 < m)) = true then some (m, rows) else none
      | none => none)
    | none => none
  else none
def lLot (l : Tx) : Option (List Nat) := if l = [45] then some [] else lNums (cut 32 l)
def lLots (t : Tx) : Option (List (List Nat)) := allSome ((linesOf t).map lLot)

/-! ### what is read was written -/
theorem lNum_some {p : Tx} {n : Nat} (h : lNum p = some n) : p = numL n := by
  unfold lNum at h
  split at h
  · rename_i c
    split at h
    · rename_i l
      obtain ⟨h1, h2⟩ := numP_iff.mp c.1
      rw [← Option.some.inj h, numL_of p h2 h1 l]
    · cases h
  · cases h
theorem lNum_numL {n : Nat} (h : (numL n).length ≤ 30) : lNum (numL n) = some n := by
  unfold lNum
  rw [if_pos ⟨numP_numL n, h⟩, if_pos (noLead_numL n), show val (numL n) = n from numL_val n]
theorem map_some_of {α β : Type} {f : α → Option β} {g : β → α} (hf : ∀ a b, f a = some b → a = g b) : ∀ {l : List α} {r : List β}, l.map f = r.map some → l = r.map g
  | [], [], _ => rfl
  | [], _ :: _, h => by simp at h
  | _ :: _, [], h => by simp at h
  | a :: l, b :: r, h => by
    rw [List.map_cons, List.map_cons] at h
    injection h with h1 h2
    rw [List.map_cons, ← hf a b h1, ← map_some_of hf h2]
theorem lNums_some {ps : List Tx} {ns : List Nat} (h : lNums ps = some ns) : ps = ns.map numL ∧ rising ns = true := by
  unfold lNums at h
  cases e : allSome (ps.map lNum) with
  | none => rw [e] at h; cases h
  | some q =>
    rw [e] at h
    dsimp only at h
    split at h
    · rename_i hr
      have e2 := Option.some.inj h
      subst e2
      exact ⟨map_some_of (fun a b h => lNum_some h) (allSome_some e), hr⟩
    · cases h
theorem lNums_numL {ns : List Nat} (hr : rising ns = true) (h : ∀ n ∈ ns, (numL n).length ≤ 30) : lNums (ns.map numL) = some ns := by
  unfold lNums
  have e : (ns.map numL).map lNum = ns.map some := by
    rw [List.map_map]
    exact List.map_congr_left fun n hn => lNum_numL (h n hn)
  rw [e, allSome_map]
  dsimp only
  rw [if_pos hr]
theorem needLine_eq {l : Tx} {r : List Nat} (h : cut 32 l = cNeeds :: r.map numL) : l = needLine r := by
  rw [← join_cut 32 l, h]
  rfl
theorem lRow_some {l : Tx} {r : List Nat} (h : lRow (cut 32 l) = some r) : l = needLine r ∧ rising r = true := by
  unfold lRow at h
  split at h
  · rename_i c
    obtain ⟨h1, h2⟩ := lNums_some h
    refine ⟨needLine_eq ?_, h2⟩
    cases e : cut 32 l with
    | nil => exact absurd e (cut_ne 32 l)
    | cons p ps =>
      rw [e] at c h1
      have c' : p = cNeeds := c
      have h1' : ps = r.map numL := h1
      rw [c', h1']
  · cases h
theorem lRecipe_some {t : Tx} {m : Nat} {rows : List (List Nat)} (h : lRecipe t = some (m, rows)) : t = recText m rows ∧ okRec m rows = true := by
  unfold lRecipe at h
  dsimp only at h
  split at h
  · rename_i c
    obtain ⟨c1, c2, c3⟩ := c
    cases em : lNum (((List.map (cut 32) (cut 10 t)).headD []).getD 1 []) with
    | none => rw [em] at h; cases h
    | some m' =>
      rw [em] at h
      dsimp only at h
      cases er : allSome ((List.map (cut 32) (cut 10 t)).tail.map lRow) with
      | none => rw [er] at h; cases h
      | some rows' =>
        rw [er] at h
        dsimp only at h
        split at h
        · rename_i hl
          have e2 := Option.some.inj h
          obtain ⟨rfl, rfl⟩ := Prod.mk.inj e2
          cases ec : cut 10 t with
          | nil => exact absurd ec (cut_ne 10 t)
          | cons l ls =>
            rw [ec] at c1 c2 c3 em er
            have c2' : (cut 32 l).length = 2 := c2
            obtain ⟨a, b, eab⟩ : ∃ a b, cut 32 l = [a, b] := by
              cases x : cut 32 l with
              | nil => rw [x] at c2'; cases c2'
              | cons a r =>
                cases r with
                | nil => rw [x] at c2'; cases c2'
                | cons b r =>
                  cases r with
                  | nil => exact ⟨a, b, rfl⟩
                  | cons _ _ => rw [x] at c2'; simp at c2'
            have ea : a = cOld := by
              have z : (cut 32 l).headD [] = cOld := c3
              rw [eab] at z
              exact z
            have eb : lNum b = some m' := by
              have z : lNum ((cut 32 l).getD 1 []) = some m' := em
              rw [eab] at z
              exact z
            have el : l = cOld ++ 32 :: numL m' := by
              rw [← join_cut 32 l, eab, ea, lNum_some eb]
              rfl
            have els := allSome_some er
            have rowsEq : ∀ {ls : List Tx} {rows : List (List Nat)}, (ls.map (cut 32)).map lRow = rows.map some → ls = rows.map needLine ∧ rows.all rising = true := by
              intro ls
              induction ls with
              | nil =>
                intro rows h
                cases rows with
                | nil => exact ⟨rfl, rfl⟩
                | cons _ _ => simp at h
              | cons x xs ih =>
                intro rows h
                cases rows with
                | nil => simp at h
                | cons r rs =>
                  rw [List.map_cons, List.map_cons, List.map_cons] at h
                  injection h with h1 h2
                  obtain ⟨i1, i2⟩ := ih h2
                  obtain ⟨j1, j2⟩ := lRow_some h1
                  exact ⟨by rw [List.map_cons, ← i1, ← j1], by rw [List.all_cons, j2, i2] <;> rfl⟩
            obtain ⟨k1, k2⟩ := rowsEq (show (ls.map (cut 32)).map lRow = rows'.map some from els)
            refine ⟨?_, ?_⟩
            · rw [← join_cut 10 t, ec, el, k1]
              rfl
            · unfold okRec
              rw [Bool.and_eq_true]
              refine ⟨?_, ?_⟩
              · cases rows' with
                | nil =>
                  have : ls = [] := k1
                  rw [this] at c1
                  have c1' : 2 ≤ 1 := c1
                  omega
                | cons _ _ => rfl
              · rw [List.all_eq_true] at hl k2 ⊢
                intro r hr
                have a1 := k2 r hr
                have a2 := hl r hr
                rw [Bool.or_eq_true, decide_eq_true_eq, decide_eq_true_eq] at a2
                rw [a1, last_lt a1 a2] <;> rfl
        · cases h
  · cases h
theorem pRecipe_some {t : Tx} {m : Nat} {rows : List (List Nat)} (h : pRecipe t = some (m, rows)) : t = recText m rows ∧ okRec m rows = true := by
  unfold pRecipe at h
  split at h
  · split at h
    · split at h
      · split at h
        · rename_i c
          have e := Option.some.inj h
          obtain ⟨rfl, rfl⟩ := Prod.mk.inj e
          exact ⟨c.2.symm, c.1⟩
        · cases h
      · cases h
    · cases h
  · cases h
/-! ### what is written is read -/
theorem numL_no {n s : Nat} (h : s < 48 ∨ 57 < s) : s ∉ numL n := numL_free h
theorem joinL_no {s : Nat} {S : Tx} : ∀ {ps : List Tx}, s ∉ S → (∀ p ∈ ps, s ∉ p) → s ∉ joinL S ps
  | [], _, _ => by simp [joinL]
  | [p], _, h => h p (List.mem_singleton.mpr rfl)
  | p :: q :: r, hS, h => by
    show s ∉ p ++ (S ++ joinL S (q :: r))
    intro hm
    rcases List.mem_append.mp hm with hm | hm
    · exact h p (List.mem_cons_self ..) hm
    · rcases List.mem_append.mp hm with hm | hm
      · exact hS hm
      · exact joinL_no hS (fun z hz => h z (List.mem_cons_of_mem _ hz)) hm
theorem needLine_no {r : List Nat} : 10 ∉ needLine r := joinL_no (by decide) fun p hp => by
  rcases List.mem_cons.mp hp with rfl | hp
  · decide
  · obtain ⟨n, _, rfl⟩ := List.mem_map.mp hp
    exact numL_no (by omega)
theorem old_no {m : Nat} : 10 ∉ cOld ++ 32 :: numL m := by
  intro h
  rcases List.mem_append.mp h with h | h
  · revert h
    decide
  · rcases List.mem_cons.mp h with h | h
    · cases h
    · exact numL_no (by omega) h
theorem cut_rec (m : Nat) (rows : List (List Nat)) : cut 10 (recText m rows) = recLines m rows := cut_join (by simp [recLines]) fun p hp => by
  rcases List.mem_cons.mp hp with rfl | hp
  · exact old_no
  · obtain ⟨r, _, rfl⟩ := List.mem_map.mp hp
    exact needLine_no
theorem cut_nums {r : List Nat} (h : r ≠ []) : cut 32 (joinL [32] (r.map numL)) = r.map numL := cut_join (by simpa using h) fun p hp => by
  obtain ⟨n, _, rfl⟩ := List.mem_map.mp hp
  exact numL_no (by omega)
theorem cut_need (r : List Nat) : cut 32 (needLine r) = cNeeds :: r.map numL := cut_join (by simp) fun p hp => by
  rcases List.mem_cons.mp hp with rfl | hp
  · decide
  · obtain ⟨n, _, rfl⟩ := List.mem_map.mp hp
    exact numL_no (by omega)
theorem cut_old (m : Nat) : cut 32 (cOld ++ 32 :: numL m) = [cOld, numL m] := by
  have e : cOld ++ 32 :: numL m = joinL [32] [cOld, numL m] := rfl
  rw [e]
  refine cut_join (by simp) fun p hp => ?_
  rcases List.mem_cons.mp hp with rfl | hp
  · decide
  · rw [List.mem_singleton.mp hp]
    exact numL_no (by omega)
theorem vals_numL (r : List Nat) : (r.map numL).map val = r := by
  rw [List.map_map]
  have : r.map (val ∘ numL) = r.map id := List.map_congr_left fun n _ => numL_val n
  rw [this, List.map_id]
theorem all_numP (r : List Nat) : (r.map numL).all numP = true := by
  rw [List.all_map, List.all_eq_true]
  exact fun n _ => numP_numL n
theorem pNums_join {r : List Nat} (h : r ≠ []) : pNums (joinL [32] (r.map numL)) = some r := by
  unfold pNums
  rw [cut_nums h, if_pos (all_numP r), vals_numL]
theorem pRow_need (r : List Nat) : pRow (needLine r) = some r := by
  cases r with
  | nil => rfl
  | cons n r =>
    have e : needLine (n :: r) = cNeeds ++ ([32] ++ joinL [32] ((n :: r).map numL)) := joinL_cons (by simp)
    unfold pRow
    have h1 : needLine (n :: r) ≠ cNeeds := by
      intro z
      have z2 := congrArg List.length z
      rw [e, List.length_append, List.length_append] at z2
      simp [cNeeds] at z2
    rw [if_neg h1]
    have h2 : (needLine (n :: r)).take 6 = cNeeds ++ [32] := by
      rw [e]
      rfl
    have h3 : (needLine (n :: r)).drop 6 = joinL [32] ((n :: r).map numL) := by
      rw [e]
      rfl
    rw [if_pos h2, h3, pNums_join (by simp)]
theorem pRecipe_rec {m : Nat} {rows : List (List Nat)} (h : okRec m rows = true) : pRecipe (recText m rows) = some (m, rows) := by
  have hne : rows.map needLine ≠ [] := by
    unfold okRec at h
    cases rows with
    | nil => cases h
    | cons _ _ => simp
  have e : recText m rows = (cOld ++ 32 :: numL m) ++ ([10] ++ joinL [10] (rows.map needLine)) := joinL_cons hne
  have h1 : (recText m rows).take 4 = cOld ++ [32] := by
    rw [e]
    rfl
  unfold pRecipe
  rw [if_pos h1, cut_rec]
  have h2 : ((recLines m rows).headD []).drop 4 = numL m := rfl
  have h3 : pNums (numL m) = some [m] := pNums_join (r := [m]) (by simp)
  have h4 : ((recLines m rows).tail.map pRow) = rows.map some := by
    show (rows.map needLine).map pRow = _
    rw [List.map_map]
    exact List.map_congr_left fun r _ => pRow_need r
  rw [h2, h3, h4, allSome_map]
  dsimp only
  rw [if_pos ⟨h, rfl⟩]
/-- each number has few digits -/
def small (m : Nat) (rows : List (List Nat)) : Prop := (numL m).length ≤ 30 ∧ ∀ r ∈ rows, ∀ n ∈ r, (numL n).length ≤ 30
theorem lRow_need {r : List Nat} (hr : rising r = true) (h : ∀ n ∈ r, (numL n).length ≤ 30) : lRow (cut 32 (needLine r)) = some r := by
  rw [cut_need]
  show (if cNeeds = cNeeds then lNums (r.map numL) else none) = some r
  rw [if_pos rfl]
  exact lNums_numL hr h
theorem lRecipe_rec {m : Nat} {rows : List (List Nat)} (h : okRec m rows = true) (hs : small m rows) : lRecipe (recText m rows) = some (m, rows) := by
  have h' := h
  unfold okRec at h'
  obtain ⟨h1, h2⟩ := Bool.and_eq_true_iff.mp h'
  rw [List.all_eq_true] at h2
  unfold lRecipe
  dsimp only
  rw [cut_rec]
  have hls : (recLines m rows).map (cut 32) = [cOld, numL m] :: rows.map fun r => cut 32 (needLine r) := by
    show cut 32 (cOld ++ 32 :: numL m) :: (rows.map needLine).map (cut 32) = _
    rw [cut_old, List.map_map]
    rfl
  rw [hls]
  have c : 2 ≤ ([cOld, numL m] :: rows.map fun r => cut 32 (needLine r)).length := by
    rw [List.length_cons, List.length_map]
    cases rows with
    | nil => cases h1
    | cons _ _ => simp
  rw [if_pos ⟨c, rfl, rfl⟩]
  have e1 : lNum (([cOld, numL m] :: rows.map fun r => cut 32 (needLine r)).headD [] |>.getD 1 []) = some m := lNum_numL hs.1
  have e2 : ([cOld, numL m] :: rows.map fun r => cut 32 (needLine r)).tail.map lRow = rows.map some := by
    show (rows.map fun r => cut 32 (needLine r)).map lRow = _
    rw [List.map_map]
    exact List.map_congr_left fun r hr => lRow_need (Bool.and_eq_true_iff.mp (h2 r hr)).1 (hs.2 r hr)
  rw [e1, e2, allSome_map]
  dsimp only
  rw [if_pos]
  rw [List.all_eq_true]
  intro r hr
  have := lt_last (Bool.and_eq_true_iff.mp (h2 r hr)).2
  rw [Bool.or_eq_true, decide_eq_true_eq, decide_eq_true_eq]
  exact this

/-! ### runs of digits -/
/-- no run of more than k digits, b digits standing ahead -/
def rk (k : Nat) : Nat → Tx → Bool
  | b, [] => decide (b ≤ k)
  | b, c :: r => decide (b ≤ k) && (if isD c = true then rk k (b + 1) r else rk k 0 r)
/-- the run at the end -/
def fin : Nat → Tx → Nat
  | b, [] => b
  | b, c :: r => if isD c = true then fin (b + 1) r else fin 0 r
theorem rk_le {k b : Nat} {t : Tx} (h : rk k b t = true) : b ≤ k := by
  cases t with
  | nil => exact of_decide_eq_true h
  | cons c r => exact of_decide_eq_true (Bool.and_eq_true_iff.mp h).1
theorem rk_app {k : Nat} : ∀ {a : Tx} {b : Nat} {r : Tx}, rk k b (a ++ r) = true → rk k (fin b a) r = true
  | [], _, _, h => h
  | c :: a, b, r, h => by
    obtain ⟨_, h2⟩ := Bool.and_eq_true_iff.mp (show (decide (b ≤ k) && (if isD c = true then rk k (b + 1) (a ++ r) else rk k 0 (a ++ r))) = true from h)
    show rk k (if isD c = true then fin (b + 1) a else fin 0 a) r = true
    by_cases hc : isD c = true
    · rw [if_pos hc] at h2 ⊢
      exact rk_app h2
    · rw [if_neg hc] at h2 ⊢
      exact rk_app h2
theorem app_rk {k : Nat} : ∀ {a : Tx} {b : Nat} {r : Tx}, rk k b a = true → rk k (fin b a) r = true → rk k b (a ++ r) = true
  | [], _, _, _, h => h
  | c :: a, b, r, h1, h => by
    obtain ⟨g1, g2⟩ := Bool.and_eq_true_iff.mp (show (decide (b ≤ k) && (if isD c = true then rk k (b + 1) a else rk k 0 a)) = true from h1)
    have h' : rk k (if isD c = true then fin (b + 1) a else fin 0 a) r = true := h
    show (decide (b ≤ k) && (if isD c = true then rk k (b + 1) (a ++ r) else rk k 0 (a ++ r))) = true
    rw [g1, Bool.true_and]
    by_cases hc : isD c = true
    · rw [if_pos hc] at h' g2 ⊢
      exact app_rk g2 h'
    · rw [if_neg hc] at h' g2 ⊢
      exact app_rk g2 h'
theorem rk_fst {k : Nat} : ∀ {a : Tx} {b : Nat} {r : Tx}, rk k b (a ++ r) = true → rk k b a = true
  | [], _, _, h => decide_eq_true (rk_le h)
  | c :: a, b, r, h => by
    obtain ⟨h1, h2⟩ := Bool.and_eq_true_iff.mp (show (decide (b ≤ k) && (if isD c = true then rk k (b + 1) (a ++ r) else rk k 0 (a ++ r))) = true from h)
    show (decide (b ≤ k) && (if isD c = true then rk k (b + 1) a else rk k 0 a)) = true
    rw [h1, Bool.true_and]
    by_cases hc : isD c = true
    · rw [if_pos hc] at h2 ⊢
      exact rk_fst h2
    · rw [if_neg hc] at h2 ⊢
      exact rk_fst h2
theorem rk_mono {k : Nat} : ∀ {t : Tx} {b b' : Nat}, rk k b t = true → b' ≤ b → rk k b' t = true
  | [], b, b', h, l => decide_eq_true (Nat.le_trans l (of_decide_eq_true h))
  | c :: r, b, b', h, l => by
    obtain ⟨h1, h2⟩ := Bool.and_eq_true_iff.mp (show (decide (b ≤ k) && (if isD c = true then rk k (b + 1) r else rk k 0 r)) = true from h)
    show (decide (b' ≤ k) && (if isD c = true then rk k (b' + 1) r else rk k 0 r)) = true
    rw [decide_eq_true (Nat.le_trans l (of_decide_eq_true h1)), Bool.true_and]
    by_cases hc : isD c = true
    · rw [if_pos hc] at h2 ⊢
      exact rk_mono h2 (by omega)
    · rw [if_neg hc] at h2 ⊢
      exact h2
theorem fin_digits : ∀ {p : Tx} {b : Nat}, NumText.AllDigits p → fin b p = b + p.length
  | [], b, _ => rfl
  | c :: p, b, h => by
    show (if isD c = true then fin (b + 1) p else fin 0 p) = _
    rw [if_pos (isD_iff.mpr h.head), fin_digits h.tail, List.length_cons]
    omega
/-- a run within the text -/
theorem rk_run {k b : Nat} {l p r : Tx} (h : rk k b (l ++ (p ++ r)) = true) (hp : NumText.AllDigits p) : p.length ≤ k := by
  have h2 := rk_app (rk_app h)
  rw [fin_digits hp] at h2
  have := rk_le h2
  omega
theorem part_of {S : Tx} : ∀ {ps : List Tx} {p : Tx}, p ∈ ps → ∃ l r, joinL S ps = l ++ (p ++ r)
  | [], _, h => by simp at h
  | [q], p, h => ⟨[], [], by rw [List.mem_singleton.mp h]; simp [joinL]⟩
  | q :: q' :: r, p, h => by
    rcases List.mem_cons.mp h with rfl | h
    · exact ⟨[], S ++ joinL S (q' :: r), rfl⟩
    · obtain ⟨l, r', e⟩ := part_of (S := S) h
      exact ⟨q ++ S ++ l, r', by
        show q ++ (S ++ joinL S (q' :: r)) = _
        rw [e]
        simp⟩
theorem runs_rec {m : Nat} {rows : List (List Nat)} (h : rk 30 0 (recText m rows) = true) : small m rows := by
  constructor
  · obtain ⟨l, r, e⟩ := part_of (S := [10]) (show (cOld ++ 32 :: numL m) ∈ recLines m rows from List.mem_cons_self ..)
    have h' : rk 30 0 (joinL [10] (recLines m rows)) = true := h
    rw [e] at h'
    have e2 : l ++ ((cOld ++ 32 :: numL m) ++ r) = (l ++ cOld ++ [32]) ++ (numL m ++ r) := by simp
    rw [e2] at h'
    exact rk_run h' (numL_digits m)
  · intro row hr n hn
    obtain ⟨l, r, e⟩ := part_of (S := [10]) (show needLine row ∈ recLines m rows from List.mem_cons_of_mem _ (List.mem_map_of_mem hr))
    obtain ⟨l2, r2, e2⟩ := part_of (S := [32]) (show numL n ∈ cNeeds :: row.map numL from List.mem_cons_of_mem _ (List.mem_map_of_mem hn))
    have h' : rk 30 0 (joinL [10] (recLines m rows)) = true := h
    rw [e, show needLine row = l2 ++ (numL n ++ r2) from e2] at h'
    have e3 : l ++ ((l2 ++ (numL n ++ r2)) ++ r) = (l ++ l2) ++ (numL n ++ (r2 ++ r)) := by simp
    rw [e3] at h'
    exact rk_run h' (numL_digits n)
/-- THE TWO READINGS of a recipe's text -/
theorem recipe_same {t : Tx} (h : rk 30 0 t = true) : lRecipe t = pRecipe t := by
  cases e : pRecipe t with
  | some q =>
    obtain ⟨m, rows⟩ := q
    obtain ⟨e1, e2⟩ := pRecipe_some e
    subst e1
    exact lRecipe_rec e2 (runs_rec h)
  | none =>
    cases e' : lRecipe t with
    | none => rfl
    | some q =>
      obtain ⟨m, rows⟩ := q
      obtain ⟨e1, e2⟩ := lRecipe_some e'
      subst e1
      rw [pRecipe_rec e2] at e
      cases e
/-! ### the lists of lots -/
theorem lineOf_ne (r : List Nat) : lineOf r ≠ [] := by
  unfold lineOf
  split
  · simp
  · rename_i h
    cases r with
    | nil => exact absurd rfl h
    | cons n r =>
      cases r with
      | nil => exact numL_ne n
      | cons k r =>
        rw [List.map_cons, joinL_cons (by simp)]
        intro z
        exact numL_ne n (List.append_eq_nil_iff.mp z).1
theorem lineOf_no (r : List Nat) : 10 ∉ lineOf r := by
  unfold lineOf
  split
  · decide
  · exact joinL_no (by decide) fun p hp => by
      obtain ⟨n, _, rfl⟩ := List.mem_map.mp hp
      exact numL_no (by omega)
theorem lineOf_dash {r : List Nat} (h : r ≠ []) : lineOf r ≠ [45] ∧ lineOf r = joinL [32] (r.map numL) := by
  have e : lineOf r = joinL [32] (r.map numL) := by
    unfold lineOf
    rw [if_neg h]
  refine ⟨?_, e⟩
  rw [e]
  intro z
  have z2 := cut_nums h
  rw [z] at z2
  have z3 : cut 32 [45] = [[45]] := rfl
  rw [z3] at z2
  cases r with
  | nil => exact h rfl
  | cons n r =>
    rw [List.map_cons] at z2
    injection z2 with z4 z5
    have := numL_digits n 45 (by rw [← z4]; simp)
    omega
theorem lots_nil {rs : List (List Nat)} : lotsText rs = [] ↔ rs = [] := by
  constructor
  · intro h
    cases rs with
    | nil => rfl
    | cons r rs =>
      exfalso
      have h' : joinL [10] (lineOf r :: rs.map lineOf) = [] := h
      cases rs with
      | nil => exact lineOf_ne r h'
      | cons q rs =>
        rw [joinL_cons (by simp)] at h'
        exact lineOf_ne r (List.append_eq_nil_iff.mp h').1
  · rintro rfl
    rfl
theorem lines_lots (rs : List (List Nat)) : linesOf (lotsText rs) = rs.map lineOf := by
  unfold linesOf
  by_cases h : rs = []
  · subst h
    rfl
  · rw [if_neg fun z => h (lots_nil.mp z)]
    exact cut_join (by simpa using h) fun p hp => by
      obtain ⟨r, _, rfl⟩ := List.mem_map.mp hp
      exact lineOf_no r
theorem join_lines (t : Tx) : joinL [10] (linesOf t) = t := by
  unfold linesOf
  split
  · rename_i h
    rw [h]
    rfl
  · exact join_cut 10 t
theorem pLot_line {r : List Nat} : pLot (lineOf r) = some r := by
  unfold pLot
  by_cases h : r = []
  · subst h
    rfl
  · obtain ⟨h1, h2⟩ := lineOf_dash h
    rw [if_neg h1, h2, pNums_join h]
theorem lLot_line {r : List Nat} (hr : rising r = true) (h : ∀ n ∈ r, (numL n).length ≤ 30) : lLot (lineOf r) = some r := by
  unfold lLot
  by_cases e : r = []
  · subst e
    rfl
  · obtain ⟨h1, h2⟩ := lineOf_dash e
    rw [if_neg h1, h2, cut_nums e, lNums_numL hr h]
theorem lLot_some {l : Tx} {r : List Nat} (h : lLot l = some r) : l = lineOf r ∧ rising r = true := by
  unfold lLot at h
  split at h
  · rename_i e
    have := Option.some.inj h
    subst this
    exact ⟨e, rfl⟩
  · obtain ⟨h1, h2⟩ := lNums_some h
    refine ⟨?_, h2⟩
    have hne : r ≠ [] := by
      rintro rfl
      exact cut_ne 32 l h1
    rw [(lineOf_dash hne).2, ← h1, join_cut]
theorem pLots_some {t : Tx} {rs : List (List Nat)} (h : pLots t = some rs) : t = lotsText rs ∧ rs.all rising = true := by
  unfold pLots at h
  split at h
  · split at h
    · rename_i c
      have e := Option.some.inj h
      subst e
      exact ⟨c.2.symm, c.1⟩
    · cases h
  · cases h
theorem lLots_some {t : Tx} {rs : List (List Nat)} (h : lLots t = some rs) : t = lotsText rs ∧ rs.all rising = true := by
  have e := allSome_some h
  have key : ∀ {ls : List Tx} {rs : List (List Nat)}, ls.map lLot = rs.map some → ls = rs.map lineOf ∧ rs.all rising = true := by
    intro ls
    induction ls with
    | nil =>
      intro rs h
      cases rs with
      | nil => exact ⟨rfl, rfl⟩
      | cons _ _ => simp at h
    | cons x xs ih =>
      intro rs h
      cases rs with
      | nil => simp at h
      | cons r rs =>
        rw [List.map_cons, List.map_cons] at h
        injection h with h1 h2
        obtain ⟨i1, i2⟩ := ih h2
        obtain ⟨j1, j2⟩ := lLot_some h1
        exact ⟨by rw [List.map_cons, ← i1, ← j1], by rw [List.all_cons, j2, i2] <;> rfl⟩
  obtain ⟨k1, k2⟩ := key e
  refine ⟨?_, k2⟩
  rw [← join_lines t, k1]
  rfl
theorem pLots_lots {rs : List (List Nat)} (h : rs.all rising = true) : pLots (lotsText rs) = some rs := by
  unfold pLots
  have e : (linesOf (lotsText rs)).map pLot = rs.map some := by
    rw [lines_lots, List.map_map]
    exact List.map_congr_left fun r _ => pLot_line
  rw [e, allSome_map]
  dsimp only
  rw [if_pos ⟨h, rfl⟩]
theorem lLots_lots {rs : List (List Nat)} (h : rs.all rising = true) (hs : ∀ r ∈ rs, ∀ n ∈ r, (numL n).length ≤ 30) : lLots (lotsText rs) = some rs := by
  unfold lLots
  have e : (linesOf (lotsText rs)).map lLot = rs.map some := by
    rw [lines_lots, List.map_map]
    exact List.map_congr_left fun r hr => lLot_line (List.all_eq_true.mp h r hr) (hs r hr)
  rw [e, allSome_map]
theorem runs_lots {rs : List (List Nat)} (h : rk 30 0 (lotsText rs) = true) : ∀ r ∈ rs, ∀ n ∈ r, (numL n).length ≤ 30 := by
  intro row hr n hn
  have hne : row ≠ [] := by
    rintro rfl
    simp at hn
  obtain ⟨l, r, e⟩ := part_of (S := [10]) (show lineOf row ∈ rs.map lineOf from List.mem_map_of_mem hr)
  obtain ⟨l2, r2, e2⟩ := part_of (S := [32]) (show numL n ∈ row.map numL from List.mem_map_of_mem hn)
  have h' : rk 30 0 (joinL [10] (rs.map lineOf)) = true := h
  rw [e, (lineOf_dash hne).2, e2] at h'
  have e3 : l ++ ((l2 ++ (numL n ++ r2)) ++ r) = (l ++ l2) ++ (numL n ++ (r2 ++ r)) := by simp
  rw [e3] at h'
  exact rk_run h' (numL_digits n)
/-- THE TWO READINGS of a text of lots -/
theorem lots_same {t : Tx} (h : rk 30 0 t = true) : lLots t = pLots t := by
  cases e : pLots t with
  | some rs =>
    obtain ⟨e1, e2⟩ := pLots_some e
    subst e1
    exact lLots_lots e2 (runs_lots h)
  | none =>
    cases e' : lLots t with
    | none => rfl
    | some rs =>
      obtain ⟨e1, e2⟩ := lLots_some e'
      subst e1
      rw [pLots_lots e2] at e
      cases e
end Pap

/-! Making an InvalidX: its __init__ says super().__init__() and self.value = value. -/
namespace PySem
namespace ExX
open PySem.W PySem.Calls PyProof.Rows PySem.HandSPX
/-! ### the text of __init__ -/
def iA (p1 p2 p3 : Pos) : Arguments := { posonlyargs := [], args := [{ arg := "self", annotation := none, pos := p1 }, { arg := "value", annotation := none, pos := p2 }], vararg := none, kwonlyargs := [], kw_defaults := [], kwarg := none, defaults := [.Constant .none 0 p3] }
def iB (a1 a2 a3 a4 a5 b1 b2 b3 b4 : Pos) : List Stmt :=
  [.Expr (.Call (.Attribute (.Call (.Name "super" a1) [] [] a2) "__init__" a3) [] [] a4) a5, .Assign [.Attribute (.Name "self" b1) "value" b2] (.Name "value" b3) b4]
def iS : Scope := { kind := .function, names := [(PySem.Str.ofString "self", .local), (PySem.Str.ofString "value", .local), (PySem.Str.ofString "__class__", .free), (PySem.Str.ofString "super", .globalImplicit)], isGenerator := false, isCoroutine := false, more := [] }
/-- super().__init__() on one line: a plain method call -/
def McEq (a1 a2 a3 a4 : Pos) : Prop := ∀ env : Env, ∃ pl : Sem Bool, eval (.Call (.Attribute (.Call (.Name "super" a1) [] [] a2) "__init__" a3) [] [] a4) env = (do
  let ov ← attributeBase (.Call (.Name "super" a1) [] [] a2) "__init__" env (eval (.Call (.Name "super" a1) [] [] a2) env)
  standAt a3.atName
  let (f, first) ← holding [ov] (getMethod ov "__init__" pl)
  callWith a4 f first (backTo a4 (starEach [] env)) [])
/-- what the program's own module must be -/
structure PrOk (P : Program) : Prop where
  file : ((P.main.file : Str) == ("/claim/cut.py" : Str)) = true
  sup : (P.main.scope.names.lookup ("super" : Str)).isSome = false
/-- what the written part says of the error's class, at C, and of its __init__, at fI -/
structure ExT (K : Frag) (mg : Str → Option Value) (x : Str) (C fI : Addr) : Prop where
  gC : mg x = some (.ref C)
  cls : ∃ nm q N bs bm sn sub ab col dd k0 k1 k2 k3 k5, K.lookup C = some (excClassObj nm q C N bs bm true sn sub ab col dd k0 k1 k2 k3 k5 "ValueError.__new__") ∧ refsVE bm = true
  sa : findIn K (.ref C) "__setattr__" = some (some (.builtin "object.__setattr__"))
  ga : findIn K (.ref C) "__getattribute__" = some (some (.builtin "BaseException.__getattribute__"))
  gg : findIn K (.ref C) "__getattr__" = some none
  no : findIn K (.ref C) "value" = some none
  iC : findIn K (.ref C) "__init__" = some (some (.ref fI))
  tC : typeIn K (.ref fI) = some (.type "function")
  kC : keepIn K (.ref C) = true
  exC : subIn K (.ref C) (.type "BaseException") = some true
  veC : subIn K (.ref C) (.type "ValueError") = some true
  tyC : typeIn K (.ref C) = some (.type "type")
  hdC : hasDictIn K C = true
  mC : mroIn K C (.ref C) = some true
  su : ks_superIn K C C "__init__" = some (some (.builtin "ValueError.__init__"))
  op : nsIn K cStatics "thirdparty.any" = some none
  msup : mg "super" = none
  fn : ∃ (oc : Value) (od : Option Addr) (osl : Array (Option Value)) (q : Str) (kV doc pm : Value) (an : Option Addr) (cda : Addr) (ct : Value) (cc T : Addr) (p1 p2 p3 a1 a2 a3 a4 a5 b1 b2 b3 b4 : Pos)
    (o1 o2 : Value) (d1 d2 : Option Addr) (s1 s2 : Array (Option Value)) (vs : Array Value) (tf : Tok) (oT : Obj) (n : Nat),
    K.lookup fI = some ⟨oc, od, .func (fnX "__init__" q (iA p1 p2 p3) (iB a1 a2 a3 a4 a5 b1 b2 b3 b4) iS [("__class__", cc)] (.ref T) kV doc pm an (.ref cda) ct), osl⟩ ∧ codeIn K (.ref cda) q = true ∧
    K.lookup cda = some ⟨o1, d1, .fields vs, s1⟩ ∧ vs[2]? = some (.str "/claim/cut.py" tf) ∧ K.lookup cc = some ⟨o2, d2, .cell (some (.ref C)), s2⟩ ∧ K.lookup T = some oT ∧ oT.data = .seq #[.none] n ∧ McEq a1 a2 a3 a4
/-- what __init__ leaves of a fresh exception at x -/
structure InitEnd (h h' : Heap) (x C dx t1 : Addr) (v : Value) : Prop where
  keep : ∀ b o, b ≠ x → h.get? b = some o → h'.get? b = some o
  obj : h'.get? x = some { cls := .ref C, dict := some dx, data := .fields #[.ref t1, .none, .none, .none, .bool false, .none] }
  dbig : h.objs.size ≤ dx
  dne : dx ≠ x
  ns : h'.Ns1 dx (fun y => if y = "value" then some v else none)
/-- a made one -/
structure OwnMade (h h' : Heap) (e C d : Addr) (v : Value) : Prop where
  keep : ∀ b o, h.get? b = some o → h'.get? b = some o
  new : h.objs.size ≤ e
  obj : ∃ t1 : Addr, h'.get? e = some { cls := .ref C, dict := some d, data := .fields #[.ref t1, .none, .none, .none, .bool false, .none] }
  dbig : h.objs.size ≤ d
  dne : d ≠ e
  ns : h'.Ns1 d (fun y => if y = "value" then some v else none)
theorem one_size (v : Value) : [v].length ≤ sizeLine := by
  rw [sizeLine_eq]
  exact (by decide : 1 ≤ 16777216)
theorem nil_size : ([] : List Value).length ≤ sizeLine := by
  rw [sizeLine_eq]
  exact (by decide : 0 ≤ 16777216)
theorem callWith_mw {M : Model} {A : Around} {E : Value → Shared → Prop} {s : Shared} {i : String} {x u : Addr} {pos : Pos} {env : Env} {Q : Value → Shared → Prop} (hu : s.heap.get? u = some (kxs_mw i x))
    (h : wpAny M A (call (.ref u) []) Q E s) : wpAny M A (callWith pos (.ref u) [] (backTo pos (starEach [] env)) []) Q E s :=
  kxs_callWith (i := i) (x := x) rfl (evalArgs_empty ⟨hu, h⟩)
section
variable {prog : Program} {w : World} {A : Around} {E : Value → Shared → Prop} {R : Result → Shared → Prop} {s : Shared} {K : Frag} {mg : Str → Option Value} {y : Str} {C fI : Addr}
/-- the bound ValueError.__init__, called without arguments -/
theorem call_mw {u e t0 : Addr} {Q : Value → Shared → Prop} (T : ExT K mg y C fI) (X : K.In s.heap) (he : s.heap.get? e = some (excO C t0)) (hu : s.heap.get? u = some (kxs_mw "ValueError.__init__" e))
    (hq : ∀ h' t1, (∀ b o, b ≠ e → s.heap.get? b = some o → h'.get? b = some o) → h'.get? e = some (excO C t1) → Q .none { s with heap := h' }) :
    wpAny (model prog w) A (call (.ref u) []) Q E s := by
  obtain ⟨nm, q, N, bs, bm, sn, sub, ab, col, dd, k0, k1, k2, k3, k5, hC0, hbm⟩ := T.cls
  have hC := X _ _ hC0
  obtain ⟨hh, g, d, tk, os⟩ := s
  refine wpAny_call (codeAny_of_tree ?_)
  show wpAny _ A.in1 (callAny (.ref u) ⟨[], []⟩) _ _ _
  simp only [callAny]
  refine wpAny_bind (wpAny_load hu ?_)
  simp only [kxs_mw, show (Value.type "method-wrapper" == Value.type "method" || Value.type "method-wrapper" == Value.type "builtin_function_or_method" || Value.type "method-wrapper" == Value.type "method-wrapper") = true by decide, if_true]
  refine KFB.if_so (by decide) ?_
  refine wpAny_bind (check_bound_init F.excBase_ValueError.toExcCallFacts hC he rfl ?_)
  refine wpAny_bind (wpAny_pure (wpAny_pure ?_))
  refine ⟨plainId_quiet F.excBase_ValueError.init.plain _, codeAny_builtin F.excBase_ValueError.initEntry ?_⟩
  refine exc_init_tree (cls := .ref C) (t0 := t0) (dv := none) (c2 := .none) (c3 := .none) (b4 := .bool false) he nil_size fun h' k e' t' => ?_
  exact hq h' hh.objs.size k e'
theorem ldC {env : Env} {m : Str → Option Value} {x : Str} {pos : Pos} {v : Value} {Q : Value → Shared → Prop} {M : Model} (hn : s.heap.Ns env.locals m) (hv : m x = some v) (h : Q v s)
    (hk : env.scope.kind = .function := by rfl) (hl : env.kindOf x = some .local := by rfl) (hd : (x == ("__debug__" : Str)) = false := by decide) :
    wpAny M A (eval (.Name x pos) env) Q E s := wpAny_Name (wpAny_loadName_local hk hl hn hv h) hd
theorem ex_init (T : ExT K mg y C fI) (PO : PrOk prog) {e t0 : Addr} {v : Value} (X : K.In s.heap) (hlim : s.heap.NoLimit) (G : s.heap.Ns mainGlobals mg) (hbt : ∃ mb, s.heap.Ns builtinsNs mb ∧ ∀ z : Str, z ≠ "__name__" → mb z = bootBuiltins z)
    (hx : s.heap.get? e = some (excO C t0)) (hroom : A.depth < recursionLimit)
    (hne : ∀ a o, K.lookup a = some o → a ≠ e) (hg1 : mainGlobals ≠ e) (hg2 : builtinsNs ≠ e)
    (hq : ∀ h' tk dx t1, InitEnd s.heap h' e C dx t1 v → R (.ok (.ret .none)) { s with heap := h', toks := tk }) :
    codeAny (model prog w) A (.call (.ref fI) ⟨[.ref e, v], []⟩) R s := by
  obtain ⟨oc, od, osl, q, kV, doc, pm, an, cda, ct, cc, T0, p1, p2, p3, a1, a2, a3, a4, a5, b1, b2, b3, b4, o1, o2, d1, d2, s1, s2, vs, tf, oT, n, ho, hcd, hcda, hvs, hcc, hT0, hT1, hmc⟩ := T.fn
  obtain ⟨nm, qn, N, bs, bm, sn, sub, ab, col, dd, k0, k1, k2, k3, k5, hC, hbm⟩ := T.cls
  have hcl : clsIn K C = some { name := nm, bases := bs, mro := .ref C :: bm, ns := N, qualname := qn, hasDict := true, slotNames := sn, subclasses := sub, abstract := ab, collection := col, hasDel := false } := by unfold clsIn; rw [hC] <;> rfl
  obtain ⟨mb, hmb, hmb2⟩ := hbt
  refine ks_codeAny_call_defAt (fd := fnX "__init__" q (iA p1 p2 p3) (iB a1 a2 a3 a4 a5 b1 b2 b3 b4) iS [("__class__", cc)] (.ref T0) kV doc pm an (.ref cda) ct) (body := iB a1 a2 a3 a4 a5 b1 b2 b3 b4)
    (binds := [("self", .ref e), ("value", v)]) hroom (X _ _ ho) rfl hlim (codeRec_of X hcd) rfl (.of_defaults rfl (X _ _ hT0) hT1 rfl (by first | rfl | kernel_rfl)) (show ∀ x ∈ iS.names, x.2 ≠ .cell by decide) (by intro z hz; simp only [List.mem_cons, List.not_mem_nil, or_false] at hz; rcases hz with rfl | rfl <;> rfl) (fun h₀ hns hk => ?_) rfl rfl rfl
  have hbig : s.heap.objs.size ≠ e := Nat.ne_of_gt (Heap.lt_size hx)
  have X0 : K.In h₀ := X.keeps hk
  have hx0 := hk _ _ hx
  have G0 := G.keeps hk
  have hmb0 := hmb.keeps hk
  have I0 : InstAt h₀ e (excO C t0) C none := ⟨hx0, rfl, rfl, trivial⟩
  obtain ⟨hh, g, d, tk, os⟩ := s
  -- super().__init__()
  obtain ⟨pl, hpl⟩ := hmc (ksEnv q iS hh.objs.size fI (.ref cda) cc)
  refine ks_wpAt_execs_cons (ks_wpAt_Expr_any (ks_wpAt_MethodCall (pl := pl) ?_ hpl) rfl rfl)
  have hDD : h₀.get? C = some (excClassObj nm qn C N bs bm true sn sub ab col dd k0 k1 k2 k3 k5 "ValueError.__new__") := X0 _ _ hC
  refine ks_wpAt_super_base (env := ksEnv q iS hh.objs.size fI (.ref cda) cc) (ar := { arg := "self", annotation := none, pos := p1 }) rfl rfl (by decide) rfl (X0 _ _ ho) rfl rfl rfl (X0 _ _ hcda) rfl hvs PO.file PO.sup ?_
  refine ks_loadName_global (env := ksEnv q iS hh.objs.size fI (.ref cda) cc) rfl rfl (loadGlobal_builtin (env := ksEnv q iS hh.objs.size fI (.ref cda) cc) G0 T.msup hmb0 ((hmb2 _ (by decide +kernel)).trans (by decide +kernel : bootBuiltins "super" = some (.type "super"))) ⟨rfl, ?_⟩)
  refine wpAny_loadName_free (env := ksEnv q iS hh.objs.size fI (.ref cda) cc) rfl rfl rfl ⟨_, X0 _ _ hcc, rfl⟩ ?_
  refine wpAny_loadName_local (env := ksEnv q iS hh.objs.size fI (.ref cda) cc) rfl rfl hns (by first | rfl | with_unfolding_all rfl | kernel_rfl) ?_
  refine ks_wpAny_isType_cls hDD rfl ⟨rfl, ?_⟩
  refine ks_wpAny_call_super hDD rfl hx0 rfl (fun c z => by cases z) (looks_mroIn X0 T.mC) (fun h1 hso k1' => ?_)
  -- .__init__
  have X1 : K.In h1 := X0.keeps k1'
  have hx1 := k1' _ _ hx0
  have I1 : InstAt h1 e (excO C t0) C none := ⟨hx1, rfl, rfl, trivial⟩
  have hI1 : Looks (model prog w) h1 (isInstance (.ref e) (.type "ValueError")) true := I1.type.andThen (looks_subIn X1 T.veC)
  have hsu : alongIn K "__init__" (((Value.ref C :: bm).dropWhile (· != .ref C)).drop 1) = some (some (.builtin "ValueError.__init__")) := by
    have z := T.su
    unfold ks_superIn at z
    rw [hcl] at z
    exact z
  refine kxs_getMethod (h := h1) kxs_ValueError hso (looks_opaque X1 T.op) (l₀ := Value.ref C :: bm) (fun A Q E s k q => wpAny_bind ((looks_clsIn X1 hcl) A _ E s k (wpAny_pure q))) rfl X1 hsu hI1 (ks_ne X1 I1 hcl) (by decide) ?_
  have k2' : ∀ b o, h1.get? b = some o → (h1.push (kxs_mw "ValueError.__init__" e)).get? b = some o := fun b o z => Heap.get?_push_of_some _ z
  have hu : (h1.push (kxs_mw "ValueError.__init__" e)).get? h1.objs.size = some (kxs_mw "ValueError.__init__" e) := Heap.get?_push_at rfl rfl
  refine callWith_mw hu ?_
  refine call_mw T (X1.keeps k2') (k2' _ _ hx1) hu fun h3 t3 k3' hx3 => ?_
  have kk : ∀ b o, b ≠ e → h₀.get? b = some o → h3.get? b = some o := fun b o hb z => k3' b o hb (k2' _ _ (k1' _ _ z))
  have X3 : K.In h3 := fun a o z => kk a o (hne a o z) (X0 _ _ z)
  have hns3 : h3.Ns hh.objs.size (fun z => ([("self", Value.ref e), ("value", v)] : List (Str × Value)).reverse.lookup z) := by
    obtain ⟨oL, es, ep, hL, r⟩ := hns
    exact ⟨oL, es, ep, kk _ _ hbig hL, r⟩
  -- self.value = value
  show wpAt _ _ _ (execs _ _) _ _ _
  refine wpAt_of_wpAny (wpAny_execs_cons (plainObj_wpAny_Assign_Attribute ?_))
  refine ldC (env := ksEnv q iS hh.objs.size fI (.ref cda) cc) (v := v) hns3 (by first | rfl | with_unfolding_all rfl | kernel_rfl) (ldC (env := ksEnv q iS hh.objs.size fI (.ref cda) cc) (v := .ref e) hns3 (by first | rfl | with_unfolding_all rfl | kernel_rfl) ?_)
  refine set_plain X3 (ox := excO C t3) (od := none) ⟨hx3, rfl, rfl, trivial⟩ T.sa ?_
  refine exc_osa X3 hx3 hcl (show refsVE (.ref C :: bm) = true from hbm) rfl T.no (fun h4 tk4 dx k4 dn dne hx4 hn4 => ?_)
  show wpAny _ _ (execs _ _) _ _ _
  have z3 : hh.objs.size < h3.objs.size := hns3.lt
  exact wpAny_execs_nil (hq h4 tk4 dx t3 ⟨fun b o hb z => k4 b o hb (kk b o hb (hk b o z)), hx4, Nat.le_of_lt (Nat.lt_of_lt_of_le z3 dn), dne, hn4⟩)
theorem ex_made (T : ExT K mg y C fI) (PO : PrOk prog) {v : Value} (X : K.In s.heap) (hlim : s.heap.NoLimit) (G : s.heap.Ns mainGlobals mg) (hbt : ∃ mb, s.heap.Ns builtinsNs mb ∧ ∀ z : Str, z ≠ "__name__" → mb z = bootBuiltins z)
    (hroom : A.depth + 1 < recursionLimit)
    (hq : ∀ h' tk e d, OwnMade s.heap h' e C d v → R (.ok (.ret (.ref e))) { s with heap := h', toks := tk }) :
    codeAny (model prog w) A (.call (.ref C) ⟨[v], []⟩) R s := by
  obtain ⟨nm, q, N, bs, bm, sn, sub, ab, col, dd, k0, k1, k2, k3, k5, hC, hbm⟩ := T.cls
  obtain ⟨hp, g, dr, tk, os⟩ := s
  have k : ∀ b o, hp.get? b = some o → ((hp.push (kdv_tup [v])).push (excO C hp.objs.size)).get? b = some o := fun b o e => Heap.get?_push_of_some _ (Heap.get?_push_of_some _ e)
  have hget : ((hp.push (kdv_tup [v])).push (excO C hp.objs.size)).get? (hp.objs.size + 1) = some (excO C hp.objs.size) := by heap_get
  have nsz : ∀ {a : Addr} {o : Obj}, hp.get? a = some o → a ≠ hp.objs.size + 1 := fun {a o} z => Nat.ne_of_lt (Nat.lt_succ_of_lt (Heap.lt_size z))
  obtain ⟨oG, _, _, hG, _⟩ := id G
  obtain ⟨mb, ⟨oB, es, ep, hB, rB⟩, hb2⟩ := hbt
  refine call_own F.excBase_ValueError (fun X => refsVE_contains X bm hbm) (X _ _ hC) (looks_findIn X T.iC) (fun self => bind_fn X self T.tC) (one_size v) ?_
  refine ex_init (s := ⟨(hp.push (kdv_tup [v])).push (excO C hp.objs.size), g, dr, tk, os⟩) T PO (X.keeps k) (hlim.keeps k) (G.keeps k) ⟨mb, ⟨oB, es, ep, k _ _ hB, rB⟩, hb2⟩ hget ?_ (fun a o z => nsz (X _ _ z)) (nsz hG) (nsz hB) fun h' tk' dx t1 ⟨k', hx, dn, dne, hns⟩ => ?_
  · show A.depth + 1 < recursionLimit
    exact hroom
  · have old : ∀ b o, hp.get? b = some o → h'.get? b = some o := fun b o e => k' b o (nsz e) (k b o e)
    have z : hp.objs.size + 1 + 1 ≤ dx := by
      first
        | (simpa only [Heap.size_push] using dn)
        | exact dn
        | (have q := dn; rw [Heap.size_push, Heap.size_push] at q; exact q)
    exact ⟨rfl, hq h' tk' (hp.objs.size + 1) dx ⟨old, Nat.le_succ _, ⟨t1, hx⟩, Nat.le_trans (Nat.le_trans (Nat.le_succ _) (Nat.le_succ _)) z, dne, hns⟩⟩
end
end ExX
end PySem

/-! Rules over the hand layer for the errors of this program. -/
namespace L2X
open PySem PySem.Spec PyProof.Rows L2 HotX
open PySem.ExX (ExT PrOk OwnMade ex_made)
abbrev valueV (v : V) : List (Str × V) := [(("value" : Str), v)]
theorem relO_value {v : V} {v' : Value} (r : RelV v v') (f : Str) : RelO (List.lookup f (valueV v)) (if f = "value" then some v' else none) := by
  by_cases hw : f = "value"
  · subst hw
    rw [if_pos rfl]
    have q : List.lookup ("value" : Str) (valueV v) = some v := by simp [List.lookup]
    rw [q]
    exact r
  · rw [if_neg hw]
    have qw : (f == ("value" : Str)) = false := by simpa using hw
    have q2 : List.lookup f (valueV v) = none := by simp [List.lookup, qw]
    rw [q2]
    trivial
/-- InvalidX(e) -/
def tMkEx (C : Addr) (ta : TA) : L2.St → Hp → XK → Prop := fun σ H Q => ta σ H fun vs H1 => ∃ v, vs = [v] ∧ ∀ d, H1 d = none → Q (.ref C) (some d) (upd H1 d (.xd (valueV v)))
section
variable {X : Cx} {x : Str} {C fI : Addr}
theorem pmk5_ex {a : Expr} {ta : TA} {p pos : Pos} (T : ExT X.K X.mg x C fI) (PO : PrOk X.prog) (hdp : X.A.depth + 1 < recursionLimit) (ha : PA X [a] ta) (hg : Gl X x)
    (hdb : (x == ("__debug__" : Str)) = false := by decide)
    (he : starEach (a :: []) X.env = (false, eval a X.env) :: starEach [] X.env := by rfl) (hpl : (backTo pos (starEach [] X.env)).any (·.1) = false := by rfl) :
    L2H.PMk5 X (.Call (.Name x p) [a] [] pos) (tMkEx C ta) := by
  intro pins s σ H Q I h
  refine wpAny_Call_Name_kw (ld_glob I hg T.gC ?_ hdb)
  refine PySem.W.callWith_K (h₀ := X.base) I.ok.mod.kin T.kC (thn (ha.run pos pins s σ H _ I h) fun us s1 hh => ?_) he hpl
  obtain ⟨vs, H1, I1, r1, v, ev, q1⟩ := hh
  subst ev
  refine ⟨I1.kIn, ?_⟩
  cases r1 with
  | cons rv rn =>
    rename_i v' us'
    cases rn
    show wpAny _ _ (call (.ref C) [v']) _ _ _
    have hlim := I1.nolimit
    have G1 : s1.heap.Ns mainGlobals X.mg := I1.mod.glob.keeps I1.bk
    obtain ⟨mb, B1, B2⟩ := I1.mod.blt
    have B1' := B1.keeps I1.bk
    obtain ⟨hp, g, dr, tk, os⟩ := s1
    refine wpAny_call (ex_made T PO I1.kIn hlim G1 ⟨mb, B1', B2⟩ hdp fun h' tk' e d M => ?_)
    obtain ⟨t1, hoe⟩ := M.obj
    have hns := M.ns
    obtain ⟨G', g1, g2⟩ := restrict h' fun b => decide (b ≠ e)
    have gk : ∀ b, b ≠ e → G'.get? b = h'.get? b := fun b hb => g1 b (decide_eq_true hb)
    have ge : G'.get? e = none := g2 e (by simp)
    have old : ∀ b o, hp.get? b = some o → G'.get? b = some o := fun b o q => (gk b (Nat.ne_of_lt (Nat.lt_of_lt_of_le (Heap.lt_size q) M.new))).trans (M.keep b o q)
    have ob : ObjOk X.prog X.w (upd H1 d (.xd (valueV v))) G' d (.xd (valueV v)) :=
      ⟨_, hns.at (fun o q => (gk d M.dne).trans q), fun f => relO_value rv f⟩
    have J : Inv X pins σ (upd H1 d (.xd (valueV v))) ⟨G', g, dr, tk', os⟩ := I1.laid (t' := tk') old M.dbig ob
    refine ⟨⟨e, _, _, ⟨G', g, dr, tk', os⟩, _, .ref C, some d, rfl, J, fun b o q => ?_, ge, hoe, ⟨rfl, rfl, fun vs hv => ?_⟩, rfl, rfl, ?_, rfl, I1.bare, raises_own T.exC T.tyC, q1 d (I1.hok.fresh M.dbig)⟩, fun a oe vs ea hg2 hd2 => ?_⟩
    · by_cases hb : b = e
      · have q' : G'.get? b = some o := q
        rw [hb, ge] at q'; cases q'
      · exact (gk b hb).symm.trans q
    · cases hv
      rfl
    · rw [upd_ne (Ne.symm M.dne)]
      exact I1.hok.fresh M.new
    · cases ea
      have hg3 : h'.get? e = some oe := hg2
      rw [hoe] at hg3
      cases hg3
      cases hd2
      show (4 : Nat) < 6
      decide
theorem pmkN_ex {a : Expr} {ta : TA} {p pos : Pos} (T : ExT X.K X.mg x C fI) (PO : PrOk X.prog) (hdp : X.A.depth + 1 < recursionLimit) (ha : PA X [a] ta) (hg : Gl X x)
    (hdb : (x == ("__debug__" : Str)) = false := by decide)
    (he : starEach (a :: []) X.env = (false, eval a X.env) :: starEach [] X.env := by rfl) (hpl : (backTo pos (starEach [] X.env)).any (·.1) = false := by rfl) :
    L2N.PMk X (.Call (.Name x p) [a] [] pos) (tMkEx C ta) := (pmk5_ex T PO hdp ha hg hdb he hpl).pmk
theorem pmk_ex {a : Expr} {ta : TA} {p pos : Pos} (T : ExT X.K X.mg x C fI) (PO : PrOk X.prog) (hdp : X.A.depth + 1 < recursionLimit) (ha : PA X [a] ta) (hg : Gl X x)
    (hdb : (x == ("__debug__" : Str)) = false := by decide)
    (he : starEach (a :: []) X.env = (false, eval a X.env) :: starEach [] X.env := by rfl) (hpl : (backTo pos (starEach [] X.env)).any (·.1) = false := by rfl) :
    PMk X (.Call (.Name x p) [a] [] pos) (tMkEx C ta) := fun pins s σ H Q I h => thn (pmkN_ex T PO hdp ha hg hdb he hpl pins s σ H Q I h) fun u s' ⟨a, oe, vs, sI, H', cls, d, e1, J, k, hne, ha, hz, hd, h1, na, os, ag, r, q⟩ =>
      ⟨a, oe, vs, sI, H', cls, d, e1, J, k, hne, ha, hz.zc, hd, h1, na, os, ag, r, q⟩
/-- raise InvalidX(e): the wish is told -/
def tRaiseEx (C : Addr) (W : WX) (ta : TA) : TS := fun _ σ H => tMkEx C ta σ H fun cls d H' => W cls d σ H'
theorem ps_raiseEx {a : Expr} {ta : TA} {W : WX} {p pos pos2 : Pos} (hc : X.calm = true) (T : ExT X.K X.mg x C fI) (PO : PrOk X.prog) (hdp : X.A.depth + 1 < recursionLimit) (tk : Takes X W) (ha : PA X [a] ta) (hg : Gl X x)
    (hdb : (x == ("__debug__" : Str)) = false := by decide)
    (he : starEach (a :: []) X.env = (false, eval a X.env) :: starEach [] X.env := by rfl) (hpl : (backTo pos (starEach [] X.env)).any (·.1) = false := by rfl) :
    PS X (.Raise (some (.Call (.Name x p) [a] [] pos)) none pos2) (tRaiseEx C W ta) := ps_raise hc tk (pmk_ex T PO hdp ha hg hdb he hpl)
theorem ps_raiseExN {a : Expr} {ta : TA} {W : WX} {p pos pos2 : Pos} (hc : X.calm = true) (T : ExT X.K X.mg x C fI) (PO : PrOk X.prog) (hdp : X.A.depth + 1 < recursionLimit) (tk : L2N.Takes X W) (ha : PA X [a] ta) (hg : Gl X x)
    (hdb : (x == ("__debug__" : Str)) = false := by decide)
    (he : starEach (a :: []) X.env = (false, eval a X.env) :: starEach [] X.env := by rfl) (hpl : (backTo pos (starEach [] X.env)).any (·.1) = false := by rfl) :
    PS X (.Raise (some (.Call (.Name x p) [a] [] pos)) none pos2) (tRaiseEx C W ta) := L2N.ps_raise hc tk (pmkN_ex T PO hdp ha hg hdb he hpl)
end
/-- a def whose errors have no context: nothing is let out here -/
theorem passN {X : Cx} : Passes (L2N.CX X.prog X.w) X E0 := fun _ _ _ _ _ _ _ h => by
  obtain ⟨_, _, _, _, _, _, _, _, _, _, _, _, z⟩ := h
  exact z.elim
/-- as Fun.okX, the errors without a context -/
theorem Fun.okN {P : Program} {w : World} {K : PySem.W.Frag} {mg : Str → Option Value} {base : Heap} {x qual : Str} {st : Stmt} {f : Addr} {fd : FuncData} {N ps : List Str} {k : Nat} {sp : Sp} (F : Fun K x qual st f fd) (S : FnScope N ps (defScope st))
    (len : ∀ vs H Q E, sp vs H Q E → vs.length = ps.length)
    (hbody : ∀ (cdv : Value) (A : Around) (outer : List Env) (s : Shared) (H : Hp) (vs : List V) (Q : VK) (E : XK), Room k (A.deeper (envOfC qual (defScope st) s.heap.objs.size f cdv)) → sp vs H Q E →
      ∃ t, PSs (cxOf (L2N.CX P w) P w K mg base N qual (defScope st) f cdv A outer s H E) (defBody st) t ∧ t { nx := fun _ H' => Q .non H', rt := Q } (start N vs) H) : FnOk P w K mg base (L2N.CX P w) (k + 1) f fd ps sp := by
  obtain ⟨oc, od, kV, doc, pm, an, cdv, ct, osl, rfl, lk, hcd⟩ := F.ex
  exact fn_of lk hcd S len fun A outer s H vs Q E hr hsp => hbody cdv A outer s H vs Q E hr hsp
/-! ### C(e, ..) where what is raised is wished for at the caller's slots -/
section
variable {X : Cx} {CX : CXT} {C f : Addr} {k : Nat} {fd : FuncData} {ps : List Str} {sp : Sp} {E : L2.St → XK} {x : Str} {p pos : Pos} {e : Expr} {es : List Expr} {t : TA}
def tMakeS (C : Addr) (sp : Sp) (E : L2.St → XK) (t : TA) : TE := fun σ H Q => t σ H fun vs H1 => ∀ x dx, H1 x = none → H1 dx = none → dx ≠ x → sp (.ref x :: vs) (upd (upd H1 dx (.own x)) x (.ins C dx [])) (fun v H2 => v = .non ∧ Q (.ref x) H2) (E σ)
theorem pe_makeS (M : Mk X.K C f) (F : FnOk X.prog X.w X.K X.mg X.base CX k f fd ps sp) (hr : Room (k + 1) X.A) (hg : Gl X x) (hm : X.mg x = some (.ref C)) (hb : Binds X.K fd ps []) (hx : ∀ σ, PassesAt CX X σ (E σ))
    (ha : PA X (e :: es) t) (hdb : (x == ("__debug__" : Str)) = false := by decide) (he : starEach (e :: es) X.env = (false, eval e X.env) :: starEach es X.env := by rfl) (hpl : (backTo pos (starEach es X.env)).any (·.1) = false := by rfl) :
    PE X (.Call (.Name x p) (e :: es) [] pos) (tMakeS C sp E t) := by
  refine ⟨fun pins s σ H Q I h => ?_⟩
  refine wpAny_Call_Name_kw (ld_glob I hg hm ?_ hdb)
  refine PySem.W.callWith_K (h₀ := X.base) I.ok.mod.kin M.kp (thn (ha.run pos pins s σ H _ I h) fun us s1 ⟨vs, H1, I1, r, q⟩ => ⟨I1.kIn, ?_⟩) he hpl
  have hq := q (s1.heap.objs.size + 1) s1.heap.objs.size (I1.hok.fresh (Nat.le_succ _)) (I1.hok.fresh (Nat.le_refl _)) (Nat.ne_of_lt (Nat.lt_succ_self _))
  have I2 := Inv.made (C := C) I1
  have r2 : Vals (V.ref (s1.heap.objs.size + 1) :: vs) (Value.ref (s1.heap.objs.size + 1) :: us) := .cons rfl r
  have hl : (Value.ref (s1.heap.objs.size + 1) :: us ++ []).length = ps.length := by
    have e := r2.length
    rw [F.len _ _ _ _ hq] at e
    rw [List.append_nil]
    exact e.symm
  have b2 := hb _ (Value.ref (s1.heap.objs.size + 1) :: us) I2.kIn hl
  rw [List.append_nil] at b2
  refine wpAny_call (make_map (f := f) I1.kIn M.makes M.init (beq_iff_eq.mp M.fn) (codeAny_mono (F.run _ X.stack _ _ ⟨Value.ref (s1.heap.objs.size + 1) :: us, []⟩ (Value.ref (s1.heap.objs.size + 1) :: us) _ _ (E σ) (hr.make C us [])
    (I2.env0.make C us []) b2 r2 hq) fun r s' hq' => ?_))
  cases r with
  | error e => exact hx σ pins _ _ e s' I2 hq'
  | ok fl =>
    cases fl with
    | ret u =>
      obtain ⟨v, H', I3, rv, ev, q3⟩ := I2.after hq'
      subst ev
      exact ⟨rv, ⟨V.ref (s1.heap.objs.size + 1), H', I3, rfl, q3⟩⟩
    | next => exact False.elim hq'
    | brk => exact False.elim hq'
    | cont => exact False.elim hq'
end
/-! ### try: .. except (X, Y): suite that raises out; the clause takes all that comes -/
def wTup (K : PySem.W.Frag) (c1 c2 : Value) (ts : Addr → Value → Option Addr → TS) (D : Ends) : WX := fun cls d σ H => PySem.W.exmAny K cls [c1, c2] = some true ∧ ∀ a, H a = none → ts a cls d D σ H
section
variable {X : Cx} {x1 x2 : Str} {c1 c2 : Value} {body suite : List Stmt} {b₀ : Stmt} {np1 np2 npt pos pos' : Pos} {kt : Nat} {tb : WX → TS} {ts : Addr → Value → Option Addr → TS} {Wout : WX}
theorem ps_try_tupX (hs : X.stack = X.env :: X.outer) (hf : X.env.frame = some X.env.locals) (g1 : Gl X x1) (m1 : X.mg x1 = some c1) (g2 : Gl X x2) (m2 : X.mg x2 = some c2)
    (hpa : ∀ hd : Option Value, PassesOwnAt (model X.prog X.w) (X.A.mark hd) X.A X.env X.xe) (tk : L2.Takes X Wout)
    (hb : ∀ (W : WX) (pn : List (Addr × Obj)) (xe : Value → Shared → Prop), L2N.Takes (X.tr pn xe) W → PassesOwn (model X.prog X.w) X.A X.env xe → PSs (X.tr pn xe) body (tb W))
    (hsu : ∀ (a : Addr) (oe : Obj) (cls : Value) (d : Option Addr) (pn : List (Addr × Obj)), L2N.Zn cls d oe → (∃ vs, oe.data = .fields vs) → L2.Takes (L2H.suiteX X a ((a, oe) :: pn)) Wout → L2H.HotC (L2H.suiteX X a ((a, oe) :: pn)) →
      PSs (L2H.suiteX X a ((a, oe) :: pn)) (b₀ :: suite) (ts a cls d))
    (hdb1 : (x1 == ("__debug__" : Str)) = false := by decide) (hdb2 : (x2 == ("__debug__" : Str)) = false := by decide)
    (hst : starEach [.Name x1 np1, .Name x2 np2] X.env = [(false, eval (.Name x1 np1) X.env), (false, eval (.Name x2 np2) X.env)] := by rfl) :
    PS X (.Try body [.ExceptHandler (some (.Tuple [.Name x1 np1, .Name x2 np2] kt npt)) none (b₀ :: suite) pos'] [] [] pos) (fun D σ H => tb (wTup X.K c1 c2 ts D) D σ H) := by
  refine ⟨fun pins s σ H D I h => ?_⟩
  have ok := I.ok
  have hfr : X.A.frames = some (X.env :: X.outer) := by rw [ok.frames, hs]
  have notFr : ∀ {B h : Heap} {a : Addr} {o : Obj} {vs : Array Value}, h.FunFrames B (X.env :: X.outer) → h.get? a = some o → o.data = .fields vs → a ∉ frs (X.env :: X.outer) := fun {B h a o vs} ff e dd hm => by
    obtain ⟨_, o', e', hnf⟩ := ff.mem hm
    rw [e] at e'; cases e'
    exact hnf _ dd
  refine wpAny_Try_except ?_
  refine wpAny_mono ((hb (wTup X.K c1 c2 ts D) (X.pn ++ pins) (fun e s₁ => wpAny (model X.prog X.w) X.A (noteFrame e X.env) (fun _ s₂ => wpAny (model X.prog X.w) X.A (setFlight e none) (fun _ s₃ =>
    wpAny (model X.prog X.w) X.A (handleBy e X.env [.ExceptHandler (some (.Tuple [.Name x1 np1, .Name x2 np2] kt npt)) none (b₀ :: suite) pos']) (SP X pins D) X.xe s₃) X.xe s₂) X.xe s₁) (fun u s' xx => ?_) PassesOwn.looking).run [] s σ H D (I.toTry _) h) (fun f s1 hsp => ?_) (fun e s1 he => he)
  · obtain ⟨a, B, sI, pins', σ', H', cls, d, rfl, J', nb, up, sky, na, os, ag, hb1, hyes⟩ := xx
    have J : Inv X pins σ' H' sI := J'.ofTry ok
    have sky' : Sky B (X.env :: X.outer) a (L2N.Zn cls d) X.env.locals s'.heap := by rw [← hs]; exact sky
    show wpAny (model X.prog X.w) X.A (noteFrame (.ref a) X.env) _ _ _
    refine L2N.Sky.land L2N.Zn.steady hfr hf sky' fun h3 fl3 up3 => ?_
    have J3 : Inv X pins σ' H' { s' with heap := h3 } := J.landed nb fl3.1 (up.trans up3) os ag
    obtain ⟨oe3, vs3, he3, hz3, hd3⟩ := fl3.there
    have nfr : a ∉ frs (X.env :: X.outer) := notFr fl3.2.2.1 he3 hd3
    have nL : a ≠ X.env.locals := fun z => nfr (List.mem_filterMap.mpr ⟨X.env, List.mem_cons_self, by rw [hf, z]⟩)
    have nF : a ∉ X.fs := fun hm => by
      obtain ⟨e, he, q⟩ := List.mem_filterMap.mp hm
      exact nfr (List.mem_filterMap.mpr ⟨e, List.mem_cons_of_mem _ he, q⟩)
    have S3 := J3.suite he3 hd3 na nL nF
    refine wpAny_handleBy_cons (codeAny_handlers_test ?_) (by intro q; cases q)
    -- the tuple of the two classes
    refine wpAny_Tuple_spliced ?_
    rw [hst]
    refine Calls.spliced_cons (ld_glob (X := X.suite a ((a, oe3) :: (X.pn ++ pins))) S3 g1 m1 ?_ hdb1)
    refine Calls.spliced_cons (ld_glob (X := X.suite a ((a, oe3) :: (X.pn ++ pins))) S3 g2 m2 ?_ hdb2)
    refine Calls.spliced_nil ⟨by rw [sizeLine_eq]; exact (by decide : 2 ≤ 16777216), ?_⟩
    have kp : ∀ b o, h3.get? b = some o → (h3.push { cls := .type "tuple", data := .seq [c1, c2].toArray }).get? b = some o := fun b o e => Heap.get?_push_of_some _ e
    have fl3' : HandSPX.FlyingZ B (X.env :: X.outer) a (L2N.Zn cls d) (h3.push { cls := .type "tuple", data := .seq [c1, c2].toArray }) := by
      obtain ⟨f1, f2, f3, oe, vs, T, oT, ts', q1, q2, q3, q4, q5, q6, q7, q8, q9⟩ := fl3
      exact ⟨fun b o e => kp b o (f1 b o e), f2, Heap.FunFrames.of_keeps (fun b o e _ => ⟨o, kp b o e, rfl⟩) f3, oe, vs, T, oT, ts', kp _ _ q1, q2, q3, q4, q5, q6, kp _ _ q7, q8, q9⟩
    have J3' : Inv X pins σ' H' { s' with heap := h3.push { cls := .type "tuple", data := .seq [c1, c2].toArray } } := J3.kept (t' := s'.toks) kp
    have LT : PySem.W.Looks (model X.prog X.w) (h3.push { cls := .type "tuple", data := .seq [c1, c2].toArray }) (typeOf (.ref a)) cls := fun A Q E s k q => wpAny_typeOf_ref (k _ _ (kp _ _ he3)) (by rw [hz3.1]; exact q)
    have LM := PySem.W.exm_tup2 (M := model X.prog X.w) (J3'.kIn) LT (Heap.get?_push_size h3 rfl) hb1
    refine LM.here ?_
    refine codeAny_handlers_suite ?_
    refine HandSPX.lands_againZ fl3' fun h4 fl4 up4 => ?_
    have up3' : s'.heap.UpToSlots (h3.push { cls := .type "tuple", data := .seq [c1, c2].toArray }) := up3.trans (Heap.UpToSlots.of_keeps kp)
    have J4 : Inv X pins σ' H' { s' with heap := h4 } := J.landed nb fl4.1 ((up.trans up3').trans up4) os ag
    obtain ⟨oe4, vs4, he4, hz4, hd4⟩ := fl4.there
    have S4 := J4.suite he4 hd4 na nL nF
    have tkS : L2.Takes (L2H.suiteX X a ((a, oe4) :: (X.pn ++ pins))) Wout := fun u2 s2 x2 => by
      obtain ⟨a2, B2, sI2, pn2, σ2, H2, cls2, d2, e2, I2, nb2, up2, sky2, na2, os2, ag2, w2⟩ := x2
      exact tk u2 s2 ⟨a2, B2, sI2, pins, σ2, H2, cls2, d2, e2, L2H.unsuiteX I2 ok, nb2, up2, sky2, na2, os2, ag2, w2⟩
    have hot : L2H.HotC (L2H.suiteX X a ((a, oe4) :: (X.pn ++ pins))) := ⟨(a, oe4), ⟨rfl, vs4, hd4, hz4.2.2 vs4 hd4⟩, List.mem_cons_self⟩
    refine wpAny_mono ((hsu a oe4 cls d (X.pn ++ pins) hz4 ⟨_, hd4⟩ tkS hot).run [] _ _ H' _ (L2H.suiteX_of S4) (hyes a na)) (fun f s6 hsp => ?_) (fun e6 s6 z => hpa (some (.ref a)) e6 s6 z)
    cases f with
    | next =>
      obtain ⟨σ6, H6, S6, q6⟩ := hsp
      exact ⟨_, _, L2H.unsuiteX S6 ok, q6⟩
    | brk =>
      obtain ⟨σ6, H6, S6, q6⟩ := hsp
      exact ⟨_, _, L2H.unsuiteX S6 ok, q6⟩
    | cont =>
      obtain ⟨σ6, H6, S6, q6⟩ := hsp
      exact ⟨_, _, L2H.unsuiteX S6 ok, q6⟩
    | ret u =>
      obtain ⟨v6, σ6, H6, S6, r6, q6⟩ := hsp
      exact ⟨_, _, _, L2H.unsuiteX S6 ok, r6, q6⟩
  · cases f with
    | next =>
      obtain ⟨σ', H', J', q⟩ := hsp
      exact wpAny_execs_nil ⟨σ', H', J'.ofTry ok, q⟩
    | brk =>
      obtain ⟨σ', H', J', q⟩ := hsp
      exact ⟨σ', H', J'.ofTry ok, q⟩
    | cont =>
      obtain ⟨σ', H', J', q⟩ := hsp
      exact ⟨σ', H', J'.ofTry ok, q⟩
    | ret u =>
      obtain ⟨v, σ', H', J', r, q⟩ := hsp
      exact ⟨v, σ', H', J'.ofTry ok, r, q⟩
end
/-! ### an error that is kept as a value -/
/-- the error object of the class cls at a, its own dict at d -/
def ExV (cls : Value) (d : Option Addr) (a : Addr) : HO := .ext fun h => ∃ (oe : Obj) (vs : Array Value), h.get? a = some oe ∧ Zc cls d oe ∧ oe.data = .fields vs
theorem exV_at {P : Program} {w : World} {H : Hp} {h : Heap} {a : Addr} {cls : Value} {d : Option Addr} (hok : HOk P w H h) (he : H a = some (ExV cls d a)) : ∃ (oe : Obj) (vs : Array Value), h.get? a = some oe ∧ Zc cls d oe ∧ oe.data = .fields vs := by
  have x : ObjOk P w H h a (.ext fun h => ∃ (oe : Obj) (vs : Array Value), h.get? a = some oe ∧ Zc cls d oe ∧ oe.data = .fields vs) := hok a _ he
  exact x.1
section
variable {X : Cx} {pins : List (Addr × Obj)} {σ : L2.St} {H : Hp} {s : Shared}
theorem _root_.L2.Inv.adopt {a : Addr} {o : HO} (I : Inv X pins σ H s) (h0 : X.s_0.heap.get? a = none) (na : H a = none) (nL : a ≠ X.env.locals) (nC : ∀ x c, X.env.cells.lookup x = some c → c ≠ a) (np : ∀ p ∈ X.pn ++ pins, p.1 ≠ a)
    (ob : ObjOk X.prog X.w (upd H a o) s.heap a o) : Inv X pins σ (upd H a o) s := by
  have ne0 : ∀ b u, X.s_0.heap.get? b = some u → b ≠ a := fun b u e z => by
    rw [z, h0] at e
    cases e
  refine ⟨I.ok, I.os, I.bare, ⟨I.base.keep, I.base.slot, fun b u e n hx => ?_, I.base.there, fun b xs e => ?_, fun b u xs e => ?_, fun b ps e => ?_⟩, I.loc, I.cell, ?_, fun x c e => ?_, fun p hp => ?_, fun b u e => ?_, I.len⟩
  · rw [upd_ne (ne0 b u e)]
    exact I.base.free b u e n hx
  · have q := I.base.tups b xs e
    rw [upd_ne (ne_of_none q na)]
    exact q
  · have q := I.base.frzs b u xs e
    rw [upd_ne (ne_of_none q na)]
    exact q
  · obtain ⟨m, q⟩ := I.base.tbls b ps e
    exact ⟨m, by rw [upd_ne (ne_of_none q na)]; exact q⟩
  · rw [upd_ne (Ne.symm nL)]
    exact I.free
  · rw [upd_ne (nC x c e)]
    exact I.freeC x c e
  · obtain ⟨e, n, ne, nf, d⟩ := I.pin p hp
    exact ⟨e, by rw [upd_ne (np p hp)]; exact n, ne, nf, d⟩
  · by_cases hb : b = a
    · subst hb
      rw [upd_same] at e
      cases e
      exact ob
    · rw [upd_ne hb] at e
      exact (I.hok b u e).stay (fun c v _ q => q) (fun c q => by rw [upd_ne (ne_of_none q na)]; exact q) fun c xs q => by rw [upd_ne (ne_of_none q na)]; exact q
end
/-- try: body; except C as n: suite, behind which the error is still held -/
def wKeep (K : PySem.W.Frag) (c : Value) (i : Nat) (ts : Addr → TS) (D : Ends) : WX := fun cls d σ H =>
  PySem.W.exmOne K cls c = some true ∧ ∀ a, H a = none → ts a { nx := fun σ' H' => H' a = none → D.nx (σ'.set i none) (upd H' a (ExV cls d a)), rt := fun _ _ => False } (σ.set i (some (.ref a))) H
section
variable {X : Cx} {x n : Str} {c : Value} {i : Nat} {body suite : List Stmt} {b₀ : Stmt} {np pos pos' : Pos} {tb : WX → TS} {ts : Addr → TS}
theorem ps_try_keep (hs : X.stack = X.env :: X.outer) (hf : X.env.frame = some X.env.locals) (hex : X.ex = []) (hN : X.N.Nodup) (hi : X.N[i]? = some n) (hln : X.env.kindOf n = some .local) (hc : Names X x c)
    (hb : ∀ (W : WX) (pn : List (Addr × Obj)) (xe : Value → Shared → Prop), Takes (X.tr pn xe) W → PassesOwn (model X.prog X.w) X.A X.env xe → PSs (X.tr pn xe) body (tb W))
    (hsu : ∀ (a : Addr) (oe : Obj) (pn : List (Addr × Obj)), PSs (X.suite a ((a, oe) :: pn)) (b₀ :: suite) (ts a)) :
    PS X (.Try body [.ExceptHandler (some (.Name x np)) (some n) (b₀ :: suite) pos'] [] [] pos) (fun D σ H => tb (wKeep X.K c i ts D) D σ H) := by
  refine ⟨fun pins s σ H D I h => ?_⟩
  have ok := I.ok
  have hfr : X.A.frames = some (X.env :: X.outer) := by rw [ok.frames, hs]
  have hloc : Loc X.env.scope n := .inl hln
  refine wpAny_Try_except ?_
  refine wpAny_mono ((hb (wKeep X.K c i ts D) (X.pn ++ pins) (fun e s₁ => wpAny (model X.prog X.w) X.A (noteFrame e X.env) (fun _ s₂ => wpAny (model X.prog X.w) X.A (setFlight e none) (fun _ s₃ =>
    wpAny (model X.prog X.w) X.A (handleBy e X.env [.ExceptHandler (some (.Name x np)) (some n) (b₀ :: suite) pos']) (SP X pins D) X.xe s₃) X.xe s₂) X.xe s₁) (fun u s' xx => ?_) PassesOwn.looking).run [] s σ H D (I.toTry _) h) (fun f s1 hsp => ?_) (fun e s1 he => he)
  · obtain ⟨a, B, sI, pins', σ', H', cls, d, rfl, J', nb, up, sky, na, os, ag, hb1, hyes⟩ := xx
    have J : Inv X pins σ' H' sI := J'.ofTry ok
    have sky' : Sky B (X.env :: X.outer) a (Zc cls d) X.env.locals s'.heap := by rw [← hs]; exact sky
    show wpAny (model X.prog X.w) X.A (noteFrame (.ref a) X.env) _ _ _
    refine Sky.land Zc.steady hfr hf sky' fun h3 fl3 up3 => ?_
    have J3 : Inv X pins σ' H' { s' with heap := h3 } := J.landed nb fl3.1 (up.trans up3) os ag
    obtain ⟨oe3, vs3, he3, hz3, hd3⟩ := fl3.there
    have notFr : ∀ {h : Heap} {o : Obj} {vs : Array Value}, h.FunFrames B (X.env :: X.outer) → h.get? a = some o → o.data = .fields vs → a ∉ frs (X.env :: X.outer) := fun {h o vs} ff e dd hm => by
      obtain ⟨_, o', e', hnf⟩ := ff.mem hm
      rw [e] at e'; cases e'
      exact hnf _ dd
    have nfr := notFr fl3.2.2.1 he3 hd3
    have nL : a ≠ X.env.locals := fun z => nfr (List.mem_filterMap.mpr ⟨X.env, List.mem_cons_self, by rw [hf, z]⟩)
    have nF : a ∉ X.fs := fun hm => by
      obtain ⟨e, he, q⟩ := List.mem_filterMap.mp hm
      exact nfr (List.mem_filterMap.mpr ⟨e, List.mem_cons_of_mem _ he, q⟩)
    have nst : a ∉ frs X.stack := by rw [hs]; exact nfr
    have hBa : B.get? a = none := fl3.2.1
    have nI : sI.heap.get? a = none := by
      cases q : sI.heap.get? a with
      | none => rfl
      | some o =>
        have z := nb a o q nst
        rw [hBa] at z
        cases z
    have h0 : X.s_0.heap.get? a = none := by
      cases q : X.s_0.heap.get? a with
      | none => rfl
      | some o =>
        obtain ⟨o', z⟩ := J.base.there a o q (by rw [hex]; exact fun y => nomatch y)
        rw [nI] at z
        cases z
    have npin : ∀ p ∈ X.pn ++ pins, p.1 ≠ a := fun p hp z => by
      have y := (J.pin p hp).1
      rw [z, nI] at y
      cases y
    have S3 := J3.suite he3 hd3 na nL nF
    refine wpAny_handleBy_cons (codeAny_handlers_test ?_) (by intro q; cases q)
    have LT : PySem.W.Looks (model X.prog X.w) h3 (typeOf (.ref a)) cls := fun A Q E s k q => wpAny_typeOf_ref (k _ _ he3) (by rw [hz3.1]; exact q)
    have LM := PySem.W.exm_one (M := model X.prog X.w) (J3.kIn) LT hb1
    have test : ∀ {Q : Value → Shared → Prop} {E : Value → Shared → Prop}, Q c { s' with heap := h3 } → wpAny (model X.prog X.w) (X.A.mark (some (.ref a))) (eval (.Name x np) X.env) Q E { s' with heap := h3 } := fun {Q E} q => by
      obtain ⟨hg, hdbg, hm | ⟨hm, hv, hnn⟩⟩ := hc
      · exact ld_glob (X := X.suite a ((a, oe3) :: (X.pn ++ pins))) S3 hg hm q hdbg
      · exact ld_blt (X := X.suite a ((a, oe3) :: (X.pn ++ pins))) S3 hg hm hv q hnn hdbg
    refine test (LM.here ?_)
    refine codeAny_handlers_suite_as ?_
    refine HandSPX.lands_againZ fl3 fun h4 fl4 up4 => ?_
    have J4 : Inv X pins σ' H' { s' with heap := h4 } := J.landed nb fl4.1 ((up.trans up3).trans up4) os ag
    obtain ⟨oe4, vs4, he4, hz4, hd4⟩ := fl4.there
    have S4 := J4.suite he4 hd4 na nL nF
    refine store_ok (X := X.suite a ((a, oe4) :: (X.pn ++ pins))) (v := .ref a) S4 hN hi hloc rfl (fun s5 S5 => ?_) (.inr hln)
    refine wpAny_mono ((hsu a oe4 (X.pn ++ pins)).run [] s5 _ H' _ S5 (hyes a na)) (fun f s6 hsp => ?_) (fun _ _ z => False.elim z)
    cases f with
    | next =>
      obtain ⟨σ6, H6, S6, q6⟩ := hsp
      show wpAny (model X.prog X.w) X.A (do bindName X.env n .none; unbindBehindTheSuite X.env n pos') _ X.xe s6
      refine gone_ok (X := X.suite a ((a, oe4) :: (X.pn ++ pins))) S6 hN hi hln fun s7 S7 => ?_
      obtain ⟨g1, g2, _, _, gd⟩ := S7.pin (a, oe4) (List.mem_append_left _ List.mem_cons_self)
      have J7 : Inv X pins (σ6.set i none) H6 s7 := S7.unsuite ok
      have nC : ∀ y cc, X.env.cells.lookup y = some cc → cc ≠ a := fun y cc e z => by
        obtain ⟨v, o, ho, hdd⟩ := S7.cell y cc e
        rw [z] at ho
        have : oe4 = o := Option.some.inj (g1.symm.trans ho)
        exact gd v (by rw [this]; exact hdd)
      have JA : Inv X pins (σ6.set i none) (upd H6 a (ExV cls d a)) s7 := J7.adopt h0 g2 nL nC npin ⟨⟨oe4, _, g1, hz4, hd4⟩, ⟨oe4, g1⟩, fun h1 h2 ⟨o, v, q, r⟩ k => ⟨o, v, k o q, r⟩⟩
      exact ⟨_, _, JA, q6 g2⟩
    | brk =>
      obtain ⟨σ6, H6, S6, q6⟩ := hsp
      exact q6.elim
    | cont =>
      obtain ⟨σ6, H6, S6, q6⟩ := hsp
      exact q6.elim
    | ret u =>
      obtain ⟨v6, σ6, H6, S6, r6, q6⟩ := hsp
      exact q6.elim
  · cases f with
    | next =>
      obtain ⟨σ', H', J', q⟩ := hsp
      exact wpAny_execs_nil ⟨σ', H', J'.ofTry ok, q⟩
    | brk =>
      obtain ⟨σ', H', J', q⟩ := hsp
      exact ⟨σ', H', J'.ofTry ok, q⟩
    | cont =>
      obtain ⟨σ', H', J', q⟩ := hsp
      exact ⟨σ', H', J'.ofTry ok, q⟩
    | ret u =>
      obtain ⟨v, σ', H', J', r, q⟩ := hsp
      exact ⟨v, σ', H', J'.ofTry ok, r, q⟩
end
/-! ### the kept error is asked -/
section
variable {prog : Program} {w : World} {A : Around} {E : Value → Shared → Prop} {s : Shared} {K : PySem.W.Frag} {x D : Addr} {ox : Obj} {od : Option Obj}
open PySem.W
theorem kin_classE2 {Q : Option Value → Shared → Prop} (hga : findIn K (.ref D) "__getattribute__" = some (some (.builtin "BaseException.__getattribute__"))) (hgt : findIn K (.ref D) "__getattr__" = some none) (hsub : subIn K (.ref D) (.type "BaseException") = some true)
    (hdct : hasDictIn K D = true) (ha : findIn K (.ref D) "__class__" = some (some (.builtin "object.__class__")))
    (hn : specialIn K (.builtin "object.__class__") "__get__" = some (some (.builtin "getset_descriptor.__get__"))) (htk : takesIn K (.builtin "object.__class__") = some true) (hm : mroIn K D (.type "object") = some true)
    (hf : findObj K D od "__class__" = some (.bind (.builtin "getset_descriptor.__get__") (.builtin "object.__class__")))
    (X : K.In s.heap) (I : InstAt s.heap x ox D od) (h : Q (some (.ref D)) { s with toks := s.toks + 1 }) : wpAny (model prog w) A (getAttr? (.ref x) "__class__") Q E s := by
  obtain ⟨hp, g, d, t, os⟩ := s
  have L0 := I.type (M := model prog w)
  have L1 := looks_findIn (M := model prog w) X hga
  have L2 := looks_findIn (M := model prog w) X hgt
  have L3 := looks_find (M := model prog w) X I hf
  have sub : Looks (model prog w) hp (isInstance (.ref x) (.type "BaseException")) true := L0.andThen (looks_subIn X hsub)
  have hx0 : (false && onTheHeap (Value.builtin "BaseException.__getattribute__")) = false := rfl
  have hx2 : (Value.builtin "BaseException.__getattribute__" == Value.builtin "object.__getattribute__") = false := by decide +kernel
  have hx1 : (onTheHeap (Value.ref D) && Value.builtin "BaseException.__getattribute__" == Value.builtin "object.__getattribute__") = false := by rw [hx2]; rfl
  unfold getAttr? getAttrBy? getAttrBy
  refine wpAny_bind (wpAny_mkText (wpAny_bind (wpAny_attempt (wpAny_holding (wpAny_bind (L0.at (wpAny_bind (L1.at ?_))))))))
  show wpAny _ _ (if (onTheHeap (Value.ref D) && Value.builtin "BaseException.__getattribute__" == Value.builtin "object.__getattribute__") = true then _ else _) _ _ _
  rw [hx1, if_neg Bool.false_ne_true]
  unfold getAttrByItsOwn hookBefore
  refine wpAny_bind ?_
  rw [if_pos (show onTheHeap (Value.ref D) = true from rfl)]
  refine L2.at ?_
  refine wpAny_bind (wpAny_attempt (wpAny_holding ?_))
  unfold callGetattribute
  rw [hx0, if_neg Bool.false_ne_true]
  unfold boundAndCalled
  rw [PySem.F.excAttr_ValueError.ga.bind (.ref x)]
  refine wpAny_bind (wpAny_pure ?_)
  show wpAny _ _ (call (.builtin "BaseException.__getattribute__") [.ref x, .str "__class__" t]) _ _ _
  refine wpAny_call (codeAny_call_builtin PySem.F.excAttr_ValueError.ga.plain PySem.F.entry_bexc_ga ?_)
  refine @check_slot (model prog w) _ _ ⟨hp, g, d, t + 1, os⟩ "BaseException.__getattribute__" "BaseException" "__getattribute__" (.ref x) [.str "__class__" t] [] _ (by decide +kernel) (by decide +kernel) sub (PySem.F.args_bexc_ga (.ref x) (.str "__class__" t)) ?_
  unfold Builtin.«object.__getattribute__»
  refine wpAny_bind (wpAny_of_eq (a := ((Value.ref x : Value), [Value.str "__class__" t])) (by first | rfl | (simp only [slotArgs]; rfl)) ?_)
  refine wpAny_bind (wpAny_pure (wpAny_bind (L0.at (wpAny_bind (L3.at ?_)))))
  show wpAny _ _ (holding [Value.builtin "object.__class__"] (call (.builtin "getset_descriptor.__get__") [.builtin "object.__class__", .ref x, .ref D]) >>= ret) _ _ _
  refine wpAny_bind (wpAny_holding (wpAny_call (class_get (s := ⟨hp, g, d, t + 1, os⟩) (ox := ox) (od := od) X I hm ?_)))
  refine wpAny_pure ?_
  show wpAny _ _ (handedOut (.ref D)) _ _ _
  rw [handedOut_of (v := .ref D) rfl]
  first
    | exact wpAny_pure (wpAny_pure h)
    | exact wpAny_pure h
    | exact wpAny_pure (wpAny_bind (wpAny_pure (wpAny_pure h)))
end
end L2X

/-! A kept error is asked: isinstance, .value. -/
namespace L2X
open PySem PySem.Spec PyProof.Rows L2
section
open PySem.W
variable {K : PySem.W.Frag} {x D : Addr} {ox : Obj} {od : Option Obj}
theorem findObj_dataX {C : Addr} {name : Str} {a g : Value} (hc : (clsIn K C).isSome = true) (ha : findIn K (.ref C) name = some (some a)) (hg : specialIn K a "__get__" = some (some g)) (ht : takesIn K a = some true) : findObj K C od name = some (.bind g a) := by
  obtain ⟨cd, hc⟩ := Option.isSome_iff_exists.mp hc
  unfold findObj
  rw [hc, Option.bind_some, ha, Option.bind_some]
  simp [hg, ht]
theorem kitx_excX (C : ExcC K D) : KitX K (.ref x) (.ref D) (fun h => InstAt h x ox D od) where
  ty := fun _ _ _ I => I.type
  it := fun _ _ X _ => by
    obtain ⟨cdD, hcD, _⟩ := any_some C.hd
    unfold clsIn at hcD
    split at hcD
    · rename_i c' d' cd' sl' ho
      intro A' Q' E' s' k q
      unfold isType loadHead
      exact wpAny_bind (wpAny_loadPart (k _ _ (X _ _ ho)) (wpAny_pure q))
    · cases hcD
  ne := fun h tp dd its n sl X htp => by
    obtain ⟨cdD, hcD, _⟩ := any_some C.hd
    refine Bool.eq_false_iff.mpr fun q => ?_
    have e : D = tp := Value.ref.inj (beq_iff_eq.mp q)
    subst e
    unfold clsIn at hcD
    split at hcD
    · rename_i c' d' cd' sl' ho
      have z := (X _ _ ho).symm.trans htp
      cases z
    · cases hcD
  ca := fun X I k => kin_classE2 C.hg C.hk C.hs C.hd C.ha C.hn C.ht C.hm (findObj_dataX (by obtain ⟨cd, hc, _⟩ := any_some C.hd; rw [hc]; rfl) C.ha C.hn C.ht) X I k
end
/-- what stands of a kept error: its own dict holds value = v -/
def ExAt (C : Addr) (H : Hp) (a : Addr) (v : V) : Prop := ∃ dd : Addr, H a = some (ExV (.ref C) (some dd) a) ∧ H dd = some (.xd (valueV v))
theorem ExAt.same {C : Addr} {H H' : Hp} {a : Addr} {v : V} (h : ExAt C H a v) (s : Same H H') : ExAt C H' a v := by
  obtain ⟨dd, h1, h2⟩ := h
  exact ⟨dd, s _ _ h1, s _ _ h2⟩
theorem ExAt.inst {X : Cx} {pins : List (Addr × Obj)} {σ : L2.St} {H : Hp} {s : Shared} {C a : Addr} {v : V} (I : Inv X pins σ H s) (h : ExAt C H a v) :
    ∃ (ox od : Obj) (vs : Array Value) (u : Value), PySem.W.InstAt s.heap a ox C (some od) ∧ ox.data = .fields vs ∧ RelV v u ∧ PySem.W.lookIn ("value" : Str) od = some (some u) := by
  obtain ⟨dd, h1, h2⟩ := h
  obtain ⟨oe, vs, e1, hz, hd⟩ := exV_at I.hok h1
  have hx : ObjOk X.prog X.w H s.heap dd (.xd (valueV v)) := I.hok dd _ h2
  obtain ⟨mA, hns, hr⟩ := hx
  obtain ⟨od, ho, hl⟩ := lookIn_ns hns
  have l : List.lookup ("value" : Str) (valueV v) = some v := by simp [List.lookup]
  obtain ⟨u, hu, ru⟩ := RelO.some_of (v := v) (o := mA "value") (by rw [← l]; exact hr "value")
  exact ⟨oe, od, vs, u, ⟨e1, hz.1, by unfold PySem.W.notCls; rw [hd] <;> rfl, by rw [hz.2]; exact ho⟩, hd, ru, by rw [hl, hu]⟩
/-- isinstance(e, c), e a kept error -/
def rIsX (K : PySem.W.Frag) : List V → Hp → VK → Prop := fun xs H Q => ∃ (a D : Addr) (v c : V) (cv : Value) (b : Bool), xs = [.ref a, c] ∧ ExAt D H a v ∧ ExcC K D ∧ (∀ u, RelV c u → u = cv) ∧ PySem.W.kitOne K (.ref D) cv = some b ∧ Q (.bl b) H
theorem call_isX {X : Cx} : CallR X (.builtin "isinstance") (rIsX X.K) := by
  intro pins s σ H xs us Q I r h
  obtain ⟨a, D, v, c, cv, b, rfl, hA, C, hcv, e, q⟩ := h
  cases r with
  | cons rx rr =>
    cases rr with
    | cons rt rr =>
      cases rr
      cases rx
      have ec := hcv _ rt
      subst ec
      obtain ⟨ox, od, vs, u, J, _⟩ := hA.inst I
      exact PySem.W.kia_one (kitx_excX C) I.kIn J e (fun z => nomatch z) fun tk => ⟨.bl b, H, I.tok tk, rfl, q⟩
/-- e.value, e a kept error -/
def tXv (K : PySem.W.Frag) (te : TE) : TE := fun σ H Q => te σ H fun x H1 => ∃ (a C : Addr) (v : V), x = .ref a ∧ ExAt C H1 a v ∧ XfC K C ∧ PySem.W.findIn K (.ref C) "value" = some none ∧ Q v H1
theorem pe_xv {X : Cx} {e : Expr} {te : TE} {pos : Pos} (he : PE X e te) (hb : attributeBase e "value" X.env (eval e X.env) = eval e X.env := by rfl) : PE X (.Attribute e "value" pos) (tXv X.K te) := by
  refine ⟨fun pins s σ H Q I h => ?_⟩
  refine attr_of hb (thn (he.run pins s σ H _ I h) fun u s1 hh => ?_)
  obtain ⟨x, H1, I1, rx, a, C, v, ex, hA, T, hno, q⟩ := hh
  subst ex
  obtain rfl : u = Value.ref a := rx
  obtain ⟨ox, od, vs, u, J, hd, ru, hl⟩ := hA.inst I1
  exact HandSPX.exc_get I1.kIn J T.ga T.gg T.exC (PySem.W.findObj_own T.hdC hno rfl hl) (handed_of ru) ⟨v, H1, I1.tok _, ru, q⟩
end L2X

/-! What a reading gives, told by a part of the heap: Step, EvP, EvPA, Sv; defs by such promises. -/
namespace G
open PySem PySem.Spec PyProof.Rows L2 Evl
/-- from the part H of the heap H1 to the part H' of H2: nothing known is lost, what H' says more is of new objects -/
structure Step (H H1 H' H2 : Hp) : Prop where
  loc : Ex H H'
  tot : Ex H1 H2
  inn : Ex H' H2
  fre : ∀ b, H' b ≠ none → H b ≠ none ∨ H1 b = none
theorem Step.refl {H H1 : Hp} (e : Ex H H1) : Step H H1 H H1 := ⟨Ex.refl _, Ex.refl _, e, fun _ h => .inl h⟩
theorem Step.ex {H H1 H2 : Hp} (e : Ex H H1) (e2 : Ex H1 H2) : Step H H1 H H2 := ⟨Ex.refl _, e2, e.trans e2, fun _ h => .inl h⟩
theorem Ex.back {H H1 : Hp} (e : Ex H H1) {b : Addr} (h : H b ≠ none) : H1 b ≠ none := by
  intro z
  cases q : H b with
  | none => exact h q
  | some o => rw [e b o q] at z; cases z
theorem Step.trans {H H1 H' H2 H'' H3 : Hp} (s : Step H H1 H' H2) (t : Step H' H2 H'' H3) : Step H H1 H'' H3 :=
  ⟨s.loc.trans t.loc, s.tot.trans t.tot, t.inn, fun b h => (t.fre b h).elim (fun h => s.fre b h) fun h => .inr (fresh_back s.tot h)⟩
/-- a new object -/
theorem Step.new {H H1 : Hp} (e : Ex H H1) {p : Addr} {o : HO} (h : H1 p = none) : Step H H1 (upd H p o) (upd H1 p o) :=
  ⟨Ex.new (fresh_back e h), Ex.new h, fun a u q => by
    by_cases ha : a = p
    · subst ha; rw [upd_same] at q ⊢; exact q
    · rw [upd_ne ha] at q ⊢; exact e a u q, fun b hb => by
    by_cases ha : b = p
    · subst ha; exact .inr h
    · rw [upd_ne ha] at hb; exact .inl hb⟩
theorem Step.new' {H H1 H2 : Hp} (e : Ex H H1) {p : Addr} {o : HO} (h : H1 p = none) (e2 : Ex H1 H2) (h2 : H2 p = some o) : Step H H1 (upd H p o) H2 :=
  ⟨Ex.new (fresh_back e h), e2, fun a u q => by
    by_cases ha : a = p
    · subst ha; rw [upd_same] at q; cases q; exact h2
    · rw [upd_ne ha] at q; exact e2 a u (e a u q), fun b hb => by
    by_cases ha : b = p
    · subst ha; exact .inr h
    · rw [upd_ne ha] at hb; exact .inl hb⟩

/-- a value is asked for: what is given, and what holds of it in the part of the heap that is told -/
def Gv (f : Hp → VK → Prop) (H : Hp) (P : V → Hp → Prop) : Prop := ∀ H1, Ex H H1 → ∀ Q : VK, (∀ v H' H2, Step H H1 H' H2 → P v H' → Q v H2) → f H1 Q
abbrev EvP (te : TE) (σ : L2.St) (H : Hp) (P : V → Hp → Prop) : Prop := Gv (te σ) H P
def EvPA (ta : TA) (σ : L2.St) (H : Hp) (P : List V → Hp → Prop) : Prop := ∀ H1, Ex H H1 → ∀ Q : List V → Hp → Prop, (∀ vs H' H2, Step H H1 H' H2 → P vs H' → Q vs H2) → ta σ H1 Q
def Eqv (z : V) : V → Hp → Prop := fun v _ => v = z
/-- a new list of xs -/
def NewL (H : Hp) (xs : List V) : V → Hp → Prop := fun v H' => ∃ p, v = .ref p ∧ H p = none ∧ H' p = some (.lst xs)
section
variable {K : PySem.W.Frag} {σ : L2.St} {H H' : Hp} {ta tb te : TE} {t u : TT} {v : V} {P P' : V → Hp → Prop}
theorem Gv.imp {f : Hp → VK → Prop} (h : Gv f H P) (k : ∀ v H', Ex H H' → P v H' → P' v H') : Gv f H P' := fun H1 e Q q => h H1 e Q fun v H' H2 s p => q v H' H2 s (k v H' s.loc p)
theorem Gv.mono {f : Hp → VK → Prop} (e : Ex H H') (h : Gv f H P) (k : ∀ v H0 H1, Ex H0 H1 → P v H0 → P v H1) : Gv f H' (fun v H1 => P v H1) := fun H1 e1 Q q => h H1 (e.trans e1) Q fun v H0 H2 s p => by
  -- the wider part: what H' knew, and what is new
  refine q v (fun b => match H' b with | some o => some o | none => H0 b) H2 ⟨fun a o h => by simp [h], s.tot, fun a o h => ?_, fun b hb => ?_⟩ (k v H0 _ (fun a o h => ?_) p)
  · cases q : H' a with
    | some o' => rw [q] at h; cases h; exact s.tot a _ (e1 a _ q)
    | none => rw [q] at h; exact s.inn a o h
  · cases q : H' b with
    | some o' => exact .inl (fun z => nomatch z)
    | none =>
      rw [q] at hb
      rcases s.fre b hb with z | z
      · exact .inl (fun y => Ex.back e z (q.trans rfl))
      · exact .inr z
  · cases q : H' a with
    | none => exact h
    | some o' =>
      have h1 := s.tot a _ (e1 a _ q)
      have h2 := s.inn a o h
      rw [h1] at h2
      exact h2
theorem ep_of (h : Ev te σ H v) : EvP te σ H (Eqv v) := fun H1 e Q q => h H1 e Q fun H2 e2 => q v H H2 (Step.ex e e2) rfl
theorem ep_ofP (h : Ev te σ H v) (p : P v H) : EvP te σ H P := fun H1 e Q q => h H1 e Q fun H2 e2 => q v H H2 (Step.ex e e2) p
theorem EvP.ev (h : EvP te σ H (Eqv v)) : Ev te σ H v := fun H1 e Q q => h H1 e Q fun w H' H2 s p => by
  cases (show w = v from p)
  exact q H2 s.tot
theorem ep_ofL {xs : List V} (h : EvL te σ H xs) : EvP te σ H (NewL H xs) := fun H1 e Q q => h H1 e Q fun p H2 n e2 h2 => q (.ref p) (upd H p (.lst xs)) H2 (Step.new' e n e2 h2) ⟨p, rfl, fresh_back e n, upd_same⟩
theorem EvP.evl {xs : List V} (h : EvP te σ H (fun v H' => ∃ p, v = .ref p ∧ H p = none ∧ H' p = some (.lst xs))) : EvL te σ H xs := fun H1 e Q q => h H1 e Q fun w H' H2 s p => by
  obtain ⟨a, rfl, n, h'⟩ := p
  have n1 : H1 a = none := by
    rcases s.fre a (by rw [h']; exact fun z => nomatch z) with z | z
    · exact absurd n z
    · exact z
  exact q a H2 n1 s.tot (s.inn a _ h')
theorem ep_var {i : Nat} (h : σ[i]? = some (some v)) (p : P v H) : EvP (tVar i) σ H P := ep_ofP (ev_var h) p
theorem epa_nil {P : List V → Hp → Prop} (p : P [] H) : EvPA tNil σ H P := fun H1 e _ q => q [] H H1 (Step.refl e) p
theorem epa_cons {tr : TA} {P : List V → Hp → Prop} {P1 : V → Hp → Prop} (h : EvP te σ H P1) (hr : ∀ v H', Ex H H' → P1 v H' → EvPA tr σ H' (fun r H'' => P (v :: r) H'')) : EvPA (tCons te tr) σ H P := fun H1 e _ q =>
  h H1 e _ fun v H' H2 s p => hr v H' s.loc p H2 s.inn _ fun r H'' H3 s2 p2 => q _ _ _ (s.trans s2) p2
theorem epa_of {ta : TA} {vs : List V} {P : List V → Hp → Prop} (h : EvA ta σ H vs) (p : P vs H) : EvPA ta σ H P := fun H1 e Q q => h H1 e Q fun H2 e2 => q vs H H2 (Step.ex e e2) p
/-- an operator, both sides anything -/
theorem ep_op {r : R2} {P1 : V → Hp → Prop} {P2 : V → V → Hp → Prop} (ha : EvP ta σ H P1) (hb : ∀ x H', Ex H H' → P1 x H' → EvP tb σ H' (P2 x)) (hr : ∀ x y H', Ex H H' → P2 x y H' → Gv (r x y) H' P) : EvP (tOp r ta tb) σ H P := fun H1 e Q q =>
  ha H1 e _ fun x H' H2 s p => hb x H' s.loc p H2 s.inn _ fun y H'' H3 s2 p2 => hr x y H'' (s.loc.trans s2.loc) p2 H3 s2.inn _ fun v H0 H4 s3 p3 => q v H0 H4 ((s.trans s2).trans s3) p3
theorem ep_cb {r : List V → Hp → VK → Prop} {ta : TA} {A : List V → Hp → Prop} (h : EvPA ta σ H A) (hr : ∀ vs H', Ex H H' → A vs H' → Gv (r vs) H' P) : EvP (tCB r ta) σ H P := fun H1 e Q q =>
  h H1 e _ fun vs H' H2 s p => hr vs H' s.loc p H2 s.inn _ fun v H0 H4 s3 p3 => q v H0 H4 (s.trans s3) p3
theorem ep_call {sp : Sp} {E : XK} {ta : TA} {A : List V → Hp → Prop} (h : EvPA ta σ H A) (hr : ∀ vs H', Ex H H' → A vs H' → Gv (fun H1 Q => sp vs H1 Q E) H' P) : EvP (tCall sp [] E ta) σ H P := fun H1 e Q q =>
  h H1 e _ fun vs H' H2 s p => by
    show sp (vs ++ []) H2 Q E
    rw [List.append_nil]
    exact hr vs H' s.loc p H2 s.inn _ fun v H0 H4 s3 p3 => q v H0 H4 (s.trans s3) p3
theorem ep_if {b : Bool} (h : EvT t σ H b) (h1 : b = true → EvP ta σ H P) (h2 : b = false → EvP tb σ H P) : EvP (tIf t ta tb) σ H P := fun H1 e Q q => h H1 e _ fun H2 e2 => by
  have k : ∀ {te : TE}, EvP te σ H P → te σ H2 Q := fun hh => hh H2 (e.trans e2) Q fun v H' H3 s p => q v H' H3 ((Step.ex e e2).trans s) p
  cases b with
  | true =>
    show ta σ H2 Q
    exact k (h1 rfl)
  | false =>
    show tb σ H2 Q
    exact k (h2 rfl)
theorem ep_lst {ta : TA} {vs : List V} {P1 : List V → Hp → Prop} (h : EvPA ta σ H P1) (hl : ∀ vs H', P1 vs H' → vs.length ≤ 100000) (k : ∀ vs H' p, Ex H H' → P1 vs H' → H' p = none → P (.ref p) (upd H' p (.lst vs))) : EvP (tLst ta) σ H P := fun H1 e Q q =>
  h H1 e _ fun vs H' H2 s p1 => ⟨sz_of (hl vs H' p1), fun p hp => q _ _ _ (s.trans (Step.new s.inn hp)) (k vs H' p s.loc p1 (fresh_back s.inn hp))⟩
theorem ep_tup {ta : TA} {vs : List V} {P1 : List V → Hp → Prop} (h : EvPA ta σ H P1) (hl : ∀ vs H', P1 vs H' → vs.length ≤ 100000) (k : ∀ vs H' p, Ex H H' → P1 vs H' → H' p = none → P (.ref p) (upd H' p (.tup vs))) : EvP (tTup ta) σ H P := fun H1 e Q q =>
  h H1 e _ fun vs H' H2 s p1 => ⟨sz_of (hl vs H' p1), fun p hp => q _ _ _ (s.trans (Step.new s.inn hp)) (k vs H' p s.loc p1 (fresh_back s.inn hp))⟩
end
/-! ### statements -/
def Sv (ts : TS) (σ : L2.St) (H : Hp) (Nx : L2.St → Hp → Prop) (Rt : V → Hp → Prop) : Prop := ∀ H1, Ex H H1 → ∀ D : Ends, (∀ σ' H' H2, Step H H1 H' H2 → Nx σ' H' → D.nx σ' H2) → (∀ v H' H2, Step H H1 H' H2 → Rt v H' → D.rt v H2) → ts D σ H1
section
variable {σ : L2.St} {H H' : Hp} {te : TE} {t : TT} {ts tu : TS} {Nx : L2.St → Hp → Prop} {Rt : V → Hp → Prop}
theorem sv_seq {N1 : L2.St → Hp → Prop} (h : Sv ts σ H N1 Rt) (k : ∀ σ' H', Ex H H' → N1 σ' H' → Sv tu σ' H' Nx Rt) : Sv (tSeq ts tu) σ H Nx Rt := fun H1 e D dn dr =>
  h H1 e { D with nx := tu D } (fun σ' H' H2 s p => k σ' H' s.loc p H2 s.inn D (fun σ2 H2' H3 s2 => dn σ2 H2' H3 (s.trans s2)) fun v H2' H3 s2 => dr v H2' H3 (s.trans s2)) dr
theorem sv_set {i : Nat} {P : V → Hp → Prop} (h : EvP te σ H P) (k : ∀ v H', Ex H H' → P v H' → Sv tu (σ.set i (some v)) H' Nx Rt) : Sv (tSeq (tAsg te (gName i)) tu) σ H Nx Rt := fun H1 e D dn dr =>
  h H1 e _ fun v H' H2 s p => k v H' s.loc p H2 s.inn D (fun σ2 H2' H3 s2 => dn σ2 H2' H3 (s.trans s2)) fun v H2' H3 s2 => dr v H2' H3 (s.trans s2)
theorem sv_ret (h : EvP te σ H Rt) : Sv (tRet te) σ H Nx Rt := fun H1 e D dn dr => h H1 e _ fun v H' H2 s p => dr v H' H2 s p
theorem sv_drop {P : V → Hp → Prop} (h : EvP te σ H P) (k : ∀ v H', Ex H H' → P v H' → Sv tu σ H' Nx Rt) : Sv (tSeq (tDrop te) tu) σ H Nx Rt := fun H1 e D dn dr =>
  h H1 e _ fun v H' H2 s p => k v H' s.loc p H2 s.inn D (fun σ2 H2' H3 s2 => dn σ2 H2' H3 (s.trans s2)) fun v H2' H3 s2 => dr v H2' H3 (s.trans s2)
theorem sv_next (h : Nx σ H) : Sv tNext σ H Nx Rt := fun H1 e D dn dr => dn σ H H1 (Step.refl e) h
/-- if: a suite that goes on or returns, then the rest -/
theorem sv_when {b : Bool} {tz : TS} (h : EvT t σ H b) (h1 : b = true → Sv ts σ H (fun σ' H' => Sv tz σ' H' Nx Rt) Rt) (h2 : b = false → Sv tz σ H Nx Rt) : Sv (tSeq (tIfS t ts tNext) tz) σ H Nx Rt := fun H1 e D dn dr =>
  h H1 e _ fun H2 e2 => by
    have s0 := Step.ex e e2
    cases b with
    | true =>
      show ts { D with nx := tz D } σ H2
      exact h1 rfl H2 (e.trans e2) { D with nx := tz D } (fun σ' H' H3 s p => p H3 s.inn D (fun σ2 H2' H4 s2 => dn σ2 H2' H4 ((s0.trans s).trans s2)) fun v H2' H4 s2 => dr v H2' H4 ((s0.trans s).trans s2)) fun v H' H3 s => dr v H' H3 (s0.trans s)
    | false =>
      show tz D σ H2
      exact h2 rfl H2 (e.trans e2) D (fun σ2 H2' H4 s2 => dn σ2 H2' H4 (s0.trans s2)) fun v H2' H4 s2 => dr v H2' H4 (s0.trans s2)
theorem sv_ifE {b : Bool} {t1 t2 : TS} (h : EvT t σ H b) (h1 : b = true → Sv t1 σ H Nx Rt) (h2 : b = false → Sv t2 σ H Nx Rt) : Sv (tIfS t t1 t2) σ H Nx Rt := fun H1 e D dn dr =>
  h H1 e _ fun H2 e2 => by
    have s0 := Step.ex e e2
    cases b with
    | true => exact h1 rfl H2 (e.trans e2) D (fun σ2 H2' H4 s2 => dn σ2 H2' H4 (s0.trans s2)) fun v H2' H4 s2 => dr v H2' H4 (s0.trans s2)
    | false => exact h2 rfl H2 (e.trans e2) D (fun σ2 H2' H4 s2 => dn σ2 H2' H4 (s0.trans s2)) fun v H2' H4 s2 => dr v H2' H4 (s0.trans s2)
end
/-! ### promises -/
/-- pre of the arguments and the told part, with some a; post of what is given -/
def spP {α : Type} (pre : α → List V → Hp → Prop) (post : α → V → Hp → Prop) : Sp := fun vs H1 Q _ => ∃ (a : α) (H : Hp), Ex H H1 ∧ pre a vs H ∧ ∀ v H' H2, Step H H1 H' H2 → post a v H' → Q v H2
theorem gv_spP {α : Type} {pre : α → List V → Hp → Prop} {post : α → V → Hp → Prop} {vs : List V} {H : Hp} {P : V → Hp → Prop} {E : XK} (a : α) (h : pre a vs H) (k : ∀ v H', Ex H H' → post a v H' → P v H') : Gv (fun H1 Q => spP pre post vs H1 Q E) H P :=
  fun H1 e Q q => ⟨a, H, e, h, fun v H' H2 s p => q v H' H2 s (k v H' s.loc p)⟩
/-- a def of the text that keeps a promise, as its callers need it -/
def Kp (P : Program) (w : World) (K : PySem.W.Frag) (mg : Str → Option Value) (base : Heap) (CX : CXT) (k : Nat) (x : Str) (ps : List Str) (sp : Sp) : Prop :=
  ∃ f fd, FnOk P w K mg base CX k f fd ps sp ∧ mg x = some (.ref f) ∧ PySem.W.keepIn K (.ref f) = true ∧ Binds K fd ps []
section
variable {X : Cx} {k : Nat} {x : Str} {ps : List Str} {sp : Sp} {p pos : Pos} {e : Expr} {es : List Expr} {t : TA}
theorem pe_cl (kp0 : Kp X.prog X.w X.K X.mg X.base CX0 k x ps sp) (hr : Room k X.A) (ha : PA X (e :: es) t) (hg : Gl X x := by rfl) (hdb : (x == ("__debug__" : Str)) = false := by decide)
    (he : starEach (e :: es) X.env = (false, eval e X.env) :: starEach es X.env := by rfl) (hpl : (backTo pos (starEach es X.env)).any (·.1) = false := by rfl) : PE X (.Call (.Name x p) (e :: es) [] pos) (tCall sp [] E0 t) := by
  obtain ⟨f, fd, F, g, kp, b⟩ := kp0
  exact pe_call F hr hg g kp b .nil pass0 ha hdb he hpl
end
section
variable {P : Program} {w : World} {K : PySem.W.Frag} {mg : Str → Option Value} {base : Heap} {x qual : Str} {params : Arguments} {body : List Stmt} {scope : Scope} {f : Addr} {fd : FuncData}
/-- a def that raises nothing keeps a promise -/
theorem okP {α : Type} {pre : α → List V → Hp → Prop} {post : α → V → Hp → Prop} {N ps : List Str} {k : Nat} (F : FunD K x qual params body scope [] [] f fd) (S : FnScope N ps scope) (len : ∀ a vs H, pre a vs H → vs.length = ps.length)
    (hbody : ∀ (cdv : Value) (A : Around) (outer : List Env) (s : Shared) (H1 : Hp) (vs : List V) (E : XK) (a : α) (H : Hp), Room k (A.deeper (envOfC qual scope s.heap.objs.size f cdv)) → pre a vs H →
      ∃ t, PSs (cxOf CX0 P w K mg base N qual scope f cdv A outer s H1 E).nox body t ∧ Sv t (start N vs) H (fun _ H' => post a .non H') (post a)) : FnOk P w K mg base CX0 (k + 1) f fd ps (spP pre post) :=
  F.ok S (fun vs H Q E h => by
    obtain ⟨a, H0, _, h, _⟩ := h
    exact len a vs H0 h) fun cdv A outer s H1 vs Q E hr h => by
    obtain ⟨a, H, e, hp, q⟩ := h
    obtain ⟨t, ht, hs⟩ := hbody cdv A outer s H1 vs E a H hr hp
    exact ⟨t, ht.nox, hs H1 e _ (fun σ' H' H2 s p => q _ _ _ s p) fun v H' H2 s p => q _ _ _ s p⟩
end
/-! ### comprehensions -/
section
variable {K : PySem.W.Frag} {σ : L2.St} {H H' : Hp} {te : TE} {tl : TE}
/-- what is gathered: one value a turn -/
def Cv (H1 : Hp) (H : Hp) (D : Addr) (R : Nat → V → Hp → Prop) (i : Nat) (H2 : Hp) : Prop := ∃ (ys : List V) (H' : Hp), Ex H H' ∧ Ex H1 H2 ∧ Ex H' H2 ∧ (∀ b, H' b ≠ none → H b ≠ none ∨ H1 b = none) ∧ H' D = none ∧ H2 D = some (.lst ys) ∧ ys.length = i ∧ ∀ j y, ys[j]? = some y → R j y H'
theorem cv_turn {R : Nat → V → Hp → Prop} (stab : ∀ i v A B, Ex A B → R i v A → R i v B) {H1 : Hp} {D : Addr} {i : Nat} {H2 : Hp} {σ2 : L2.St} (nD : H1 D = none) (p : Cv H1 H D R i H2) (hi : i < 50000) (he : ∀ H', Ex H H' → EvP te σ2 H' (R i)) :
    te σ2 H2 fun y H4 => ∃ acc, H4 D = some (.lst acc) ∧ acc.length < sizeLine ∧ Cv H1 H D R (i + 1) (upd H4 D (.lst (acc ++ [y]))) := by
  obtain ⟨ys, H', e1, e2, e3, fr, hD, h2, hl, hr⟩ := p
  refine he H' e1 H2 e3 _ fun y H'' H4 s r => ?_
  have h4 : H4 D = some (.lst ys) := s.tot D _ h2
  have hDn : H'' D = none := by
    cases q : H'' D with
    | none => rfl
    | some o =>
      rcases s.fre D (by rw [q]; exact fun z => nomatch z) with z | z
      · exact absurd hD z
      · rw [h2] at z; cases z
  refine ⟨ys, h4, sz_lt (by omega), ys ++ [y], H'', e1.trans s.loc, (e2.trans s.tot).mut nD, s.inn.mut hDn, fun b hb => (s.fre b hb).elim (fun z => fr b z) (fun z => .inr (fresh_back e2 z)), hDn, upd_same, by simp [hl], fun j z hz => ?_⟩
  by_cases hj : j < ys.length
  · rw [List.getElem?_append_left hj] at hz
    exact stab _ _ _ _ s.loc (hr j z hz)
  · rw [List.getElem?_append_right (by omega)] at hz
    have e0 : j - ys.length = 0 := by
      by_cases h0 : j - ys.length = 0
      · exact h0
      · obtain ⟨m, hm⟩ : ∃ m, j - ys.length = m + 1 := ⟨j - ys.length - 1, by omega⟩
        rw [hm] at hz
        simp at hz
    rw [e0] at hz
    have ey : y = z := by simpa using hz
    subst ey
    have ej : j = i := by omega
    subst ej
    exact r
def LcP (H : Hp) (n : Nat) (R : Nat → V → Hp → Prop) : V → Hp → Prop := fun w H' => ∃ p ys, w = .ref p ∧ H p = none ∧ H' p = some (.lst ys) ∧ ys.length = n ∧ ∀ i y, ys[i]? = some y → R i y H'
theorem cv_end {R : Nat → V → Hp → Prop} (stab : ∀ i v A B, Ex A B → R i v A → R i v B) {H1 H2 : Hp} {D : Addr} {n : Nat} (e : Ex H H1) (nD : H1 D = none) (p : Cv H1 H D R n H2) {Q : VK} (q : ∀ v H' H3, Step H H1 H' H3 → LcP H n R v H' → Q v H3) : Q (.ref D) H2 := by
  obtain ⟨ys, H', e1, e2, e3, fr, hD, h2, hl, hr⟩ := p
  refine q (.ref D) (upd H' D (.lst ys)) H2 ⟨e1.trans (Ex.new hD), e2, fun a u z => ?_, fun b hb => ?_⟩ ⟨D, ys, rfl, fresh_back e nD, upd_same, hl, fun i y hy => stab _ _ _ _ (Ex.new hD) (hr i y hy)⟩
  · by_cases ha : a = D
    · subst ha; rw [upd_same] at z; cases z; exact h2
    · rw [upd_ne ha] at z; exact e3 a u z
  · by_cases ha : b = D
    · subst ha; exact .inr nD
    · rw [upd_ne ha] at hb; exact fr b hb
/-- [e for x in xs], xs a list that stands -/
theorem ep_lcL {a : Addr} {xs : List V} {j : Nat} {vs : List Nat} (R : Nat → V → Hp → Prop) (stab : ∀ i v A B, Ex A B → R i v A → R i v B) (h : Ev tl σ H (.ref a)) (hx : SqL K H a xs) (hz : xs.length ≤ 40000) (hw : ∀ x, wipe ((wipe σ vs).set j (some x)) vs = wipe σ vs)
    (he : ∀ (i : Nat) (x : V) H', Ex H H' → xs[i]? = some x → EvP te ((wipe σ vs).set j (some x)) H' (R i)) :
    EvP (tLc (iList K tl) (gName j) tYes te vs) σ H (LcP H xs.length R) := fun H0 e Q q => h H0 e _ fun H1 e1 => ⟨a, rfl, ⟨xs, ex_l (e.trans e1) hx⟩, fun D hD =>
  lc_list (xs := xs) (Cv H1 H D R) ⟨[], H, Ex.refl _, Ex.new hD, (e.trans e1).trans (Ex.new hD), fun b hb => .inl hb, fresh_back (e.trans e1) hD, upd_same, rfl, fun j y hy => by simp at hy⟩
    (fun i H2 _ p => by
      obtain ⟨ys, H', e1', e2', e3', _⟩ := p
      exact ex_l (e1'.trans e3') hx)
    (fun i x H2 hi p => ⟨hw x, cv_turn stab hD p (by have := (List.getElem?_eq_some_iff.mp hi).1; omega) fun H' e' => he i x H' e' hi⟩)
    (fun H2 p => cv_end stab (e.trans e1) hD p fun v H' H3 s r => q v H' H3 ((Step.ex e e1).trans s) r)⟩
/-- .. over a list that is made there -/
theorem ep_lcN {P1 : V → Hp → Prop} {j : Nat} {vs : List Nat} {xs : List V} (R : Nat → V → Hp → Prop) (stab : ∀ i v A B, Ex A B → R i v A → R i v B) (h : EvP tl σ H P1) (hP : ∀ v H', Ex H H' → P1 v H' → ∃ a, v = .ref a ∧ SqL K H' a xs ∧ xs.length ≤ 40000)
    (hw : ∀ x, wipe ((wipe σ vs).set j (some x)) vs = wipe σ vs)
    (he : ∀ (i : Nat) (x : V) v H', Ex H H' → P1 v H' → xs[i]? = some x → ∀ H'', Ex H' H'' → EvP te ((wipe σ vs).set j (some x)) H'' (R i)) :
    EvP (tLc (iList K tl) (gName j) tYes te vs) σ H (LcP H xs.length R) := fun H0 e Q q => h H0 e _ fun v Hp H1 s1 p1 => by
  obtain ⟨a, rfl, hx, hz⟩ := hP v Hp s1.loc p1
  refine ⟨a, rfl, ⟨xs, ex_l s1.inn hx⟩, fun D hD =>
    lc_list (xs := xs) (Cv H1 Hp D R) ⟨[], Hp, Ex.refl _, Ex.new hD, s1.inn.trans (Ex.new hD), fun b hb => .inl hb, fresh_back s1.inn hD, upd_same, rfl, fun j y hy => by simp at hy⟩
      (fun i H2 _ p => by
        obtain ⟨ys, H', e1', e2', e3', _⟩ := p
        exact ex_l (e1'.trans e3') hx)
      (fun i x H2 hi p => ⟨hw x, cv_turn stab hD p (by have := (List.getElem?_eq_some_iff.mp hi).1; omega) fun H' e' => he i x _ Hp s1.loc p1 hi H' e'⟩)
      (fun H2 p => cv_end stab s1.inn hD p fun v H' H3 s r => q v H' H3 (s1.trans s) ?_)⟩
  obtain ⟨p, ys, h1, h2, h3⟩ := r
  exact ⟨p, ys, h1, fresh_back s1.loc h2, h3⟩
end
end G

/-! Data as trees; isinstance. -/
namespace G
open PySem PySem.Spec PyProof.Rows L2 Evl
/-! ### isinstance -/
theorem TyX.mono {K : PySem.W.Frag} {H H' : Hp} {x : V} {t : Value} (e : Ex H H') (h : TyX K H x t) : TyX K H' x t := by
  cases h with
  | base b =>
    refine .base ?_
    cases b with
    | non => exact .non
    | bl y => exact .bl y
    | int i => exact .int i
    | str y => exact .str y
    | flt y => exact .flt y
    | lst ea => exact .lst (e _ _ ea)
    | frz ea => exact .frz (e _ _ ea)
    | tup ea => exact .tup (e _ _ ea)
    | dK ea => exact .dK (e _ _ ea)
    | dT ea => exact .dT (e _ _ ea)
    | ins ea cl ha hn htk hm => exact .ins (e _ _ ea) cl ha hn htk hm
  | byt b => exact .byt b
  | set ea => exact .set (e _ _ ea)
  | kList ea c => exact .kList ea c
  | kTuple ea c => exact .kTuple ea c
  | kDict ea c => exact .kDict ea c
  | fTuple ea => exact .fTuple (e _ _ ea)
  | fDict ea => exact .fDict (e _ _ ea)
abbrev tIsi (K : PySem.W.Frag) (te : TE) (c : V) : TE := tCB (rIsi K) (tCons te (tCons (tC c) tNil))
section
variable {X : Cx} {e : Expr} {te : TE} {p p2 pos : Pos}
theorem pe_isi {n : Str} {T : String} (hmi : X.mg "isinstance" = none) (hmn : X.mg n = none) (hb : bootBuiltins n = some (.type T)) (he : PE X e te) (hgi : Gl X "isinstance" := by rfl) (hgn : Gl X n := by rfl)
    (hs : starEach [e, .Name n p2] X.env = (false, eval e X.env) :: starEach [.Name n p2] X.env := by rfl) (hs2 : starEach [.Name n p2] X.env = (false, eval (.Name n p2) X.env) :: starEach [] X.env := by rfl)
    (hn : n ≠ "__name__" := by decide) (hd : (n == ("__debug__" : Str)) = false := by decide)
    (hpl : (backTo pos (starEach [.Name n p2] X.env)).any (·.1) = false := by rfl) : PE X (.Call (.Name "isinstance" p) [e, .Name n p2] [] pos) (tIsi X.K te (.ty T)) :=
  pe_callB call_isi hgi hmi (by decide +kernel) (pa_cons he (pa_cons (pe_bltn (v := .ty T) hgn hmn hb rfl hn hd) pa_nil hs2) hs) (by decide) (by decide) hs hpl
theorem pe_isiC {n : Str} {C : Addr} (hmi : X.mg "isinstance" = none) (hmn : X.mg n = some (.ref C)) (he : PE X e te) (hgi : Gl X "isinstance" := by rfl) (hgn : Gl X n := by rfl)
    (hs : starEach [e, .Name n p2] X.env = (false, eval e X.env) :: starEach [.Name n p2] X.env := by rfl) (hs2 : starEach [.Name n p2] X.env = (false, eval (.Name n p2) X.env) :: starEach [] X.env := by rfl)
    (hd : (n == ("__debug__" : Str)) = false := by decide)
    (hpl : (backTo pos (starEach [.Name n p2] X.env)).any (·.1) = false := by rfl) : PE X (.Call (.Name "isinstance" p) [e, .Name n p2] [] pos) (tIsi X.K te (.ref C)) :=
  pe_callB call_isi hgi hmi (by decide +kernel) (pa_cons he (pa_cons (pe_glob (v := .ref C) hgn hmn rfl hd) pa_nil hs2) hs) (by decide) (by decide) hs hpl
end
section
variable {K : PySem.W.Frag} {σ : L2.St} {H : Hp} {te : TE} {x c : V} {t u : Value} {b : Bool}
theorem ev_isi (h : Ev te σ H x) (ty : TyX K H x t) (cv : ClsV c u) (kt : PySem.W.kitOne K t u = some b) : Ev (tIsi K te c) σ H (.bl b) :=
  ev_cb (ea_cons h (ea_cons ev_c ea_nil)) fun H1 e Q q => ⟨x, c, t, u, b, rfl, cv, TyX.mono e ty, kt, q H1 (Ex.refl _)⟩
/-- isinstance(x, (c1, c2)) -/
theorem ev_isi2 {c1 c2 : V} {u1 u2 : Value} (h : Ev te σ H x) (ty : TyX K H x t) (cv1 : ClsV c1 u1) (cv2 : ClsV c2 u2) (kt : PySem.W.kitAny K t [u1, u2] = some b) :
    Ev (tCB (rIsiT K) (tCons te (tCons (tTup (tCons (tC c1) (tCons (tC c2) tNil))) tNil))) σ H (.bl b) := fun H1 e Q q =>
  h H1 e _ fun H2 e2 => ⟨by show 2 ≤ sizeLine; decide, fun p hp => ⟨x, p, [c1, c2], t, [u1, u2], b, rfl, upd_same, .cons cv1 (.cons cv2 .nil), TyX.mono ((e.trans e2).trans (Ex.new hp)) ty, kt, q _ (e2.trans (Ex.new hp))⟩⟩
def flatTy : V → String
  | .non => "NoneType"
  | .bl _ => "bool"
  | .int _ => "int"
  | .str _ => "str"
  | _ => ""
theorem ty_flat (f : flatV x = true) : TyX K H x (.type (flatTy x)) := by
  cases x <;> first | (cases f; done) | exact .base (by constructor)
end
/-! ### trees -/
inductive D where
  | flat (v : V)
  | rcp (a : Addr) (old : Int) (t : D)
  | seq (tp : Bool) (items : List D)
  | dic (ks : List Key) (items : List D)
/-- its rows' field; no field is called as its methods are -/
def RowsF (fs : List (Str × V)) (pr : Addr) : Prop := fs.lookup ("rows" : Str) = some (.ref pr) ∧ fs.lookup ("many" : Str) = none ∧ fs.lookup ("needs" : Str) = none
/-- a list or a tuple -/
def sqO (tp : Bool) (ys : List V) : HO := if tp = true then .tup ys else .lst ys
section
variable (C : Addr)
mutual
def Den (H : Hp) : D → V → Prop
  | .flat v, x => x = v ∧ flatV v = true
  | .rcp a old t, x => x = .ref a ∧ ∃ dx fs pr, H a = some (.ins C dx fs) ∧ fs.lookup ("old" : Str) = some (.int old) ∧ RowsF fs pr ∧ Den H t (.ref pr)
  | .seq tp t, x => ∃ a ys, x = .ref a ∧ Rd H a (sqO tp ys) ∧ DenL H t ys
  | .dic ks t, x => ∃ a ys, x = .ref a ∧ H a = some (.dK (ks.zip ys)) ∧ ks.length = ys.length ∧ ks.Nodup ∧ DenL H t ys
def DenL (H : Hp) : List D → List V → Prop
  | [], ys => ys = []
  | d :: ds, ys => ∃ y r, ys = y :: r ∧ Den H d y ∧ DenL H ds r
end
end
mutual
def dep : D → Nat
  | .flat _ => 0
  | .rcp _ _ _ => 0
  | .seq _ t => depL t + 1
  | .dic _ t => depL t + 2
def depL : List D → Nat
  | [] => 0
  | d :: ds => max (dep d) (depL ds)
end
mutual
def siz : D → Nat
  | .flat _ => 1
  | .rcp _ _ t => siz t + 1
  | .seq _ t => sizL t + 1
  | .dic _ t => sizL t + 1
def sizL : List D → Nat
  | [] => 0
  | d :: ds => siz d + sizL ds
end
section
variable {C : Addr} {H H' : Hp}
theorem rd_mono {a : Addr} {u : HO} (e : Ex H H') (h : Rd H a u) : Rd H' a u := ex_rd e h
mutual
theorem Den.mono (e : Ex H H') : ∀ (d : D) (x : V), Den C H d x → Den C H' d x
  | .flat v, x, h => h
  | .rcp a old t, x, ⟨h1, dx, fs, pr, h2, h3, h4, h5⟩ => ⟨h1, dx, fs, pr, e _ _ h2, h3, h4, Den.mono e t (.ref pr) h5⟩
  | .seq tp t, x, ⟨a, ys, h1, h2, h3⟩ => ⟨a, ys, h1, rd_mono e h2, DenL.mono e t ys h3⟩
  | .dic ks t, x, ⟨a, ys, h1, h2, h3, h4, h5⟩ => ⟨a, ys, h1, e _ _ h2, h3, h4, DenL.mono e t ys h5⟩
theorem DenL.mono (e : Ex H H') : ∀ (ds : List D) (xs : List V), DenL C H ds xs → DenL C H' ds xs
  | [], ys, h => h
  | d :: ds, ys, ⟨y, r, h1, h2, h3⟩ => ⟨y, r, h1, Den.mono e d y h2, DenL.mono e ds r h3⟩
end
theorem DenL.len : ∀ (ds : List D) (xs : List V), DenL C H ds xs → xs.length = ds.length
  | [], ys, h => by cases (show ys = [] from h); rfl
  | d :: ds, ys, ⟨y, r, h1, h2, h3⟩ => by rw [h1, List.length_cons, List.length_cons, DenL.len ds r h3]
theorem siz_pos : ∀ d : D, 1 ≤ siz d
  | .flat _ => Nat.le_refl _
  | .rcp _ _ t => by show 1 ≤ siz t + 1; omega
  | .seq _ t => by show 1 ≤ sizL t + 1; omega
  | .dic _ t => by show 1 ≤ sizL t + 1; omega
theorem sizL_len : ∀ ds : List D, ds.length ≤ sizL ds
  | [] => Nat.le_refl _
  | d :: ds => by
    have h1 := siz_pos d
    have h2 := sizL_len ds
    show ds.length + 1 ≤ siz d + sizL ds
    omega
theorem DenL.get : ∀ (ds : List D) (xs : List V), DenL C H ds xs → ∀ (i : Nat) (x : V), xs[i]? = some x → ∃ d, ds[i]? = some d ∧ Den C H d x
  | [], ys, h, i, x, hx => by cases (show ys = [] from h); simp at hx
  | d :: ds, ys, ⟨y, r, h1, h2, h3⟩, i, x, hx => by
    subst h1
    cases i with
    | zero =>
      have e : y = x := by simpa using hx
      subst e
      exact ⟨d, rfl, h2⟩
    | succ i =>
      obtain ⟨d', h, k⟩ := DenL.get ds r h3 i x (by simpa using hx)
      exact ⟨d', by simpa using h, k⟩
theorem DenL.of : ∀ (ds : List D) (xs : List V), xs.length = ds.length → (∀ (i : Nat) (d : D) (x : V), ds[i]? = some d → xs[i]? = some x → Den C H d x) → DenL C H ds xs
  | [], ys, h, _ => by
    cases ys with
    | nil => rfl
    | cons y r => cases h
  | d :: ds, ys, h, k => by
    cases ys with
    | nil => cases h
    | cons y r => exact ⟨y, r, rfl, k 0 d y rfl rfl, DenL.of ds r (by simpa using h) fun i d' x h1 h2 => k (i + 1) d' x (by simpa using h1) (by simpa using h2)⟩
theorem dep_get : ∀ (ds : List D) (i : Nat) (d : D), ds[i]? = some d → dep d ≤ depL ds ∧ siz d ≤ sizL ds
  | [], i, d, h => by simp at h
  | d' :: ds, 0, d, h => by
    have e : d' = d := by simpa using h
    subst e
    exact ⟨Nat.le_max_left _ _, by show siz d' ≤ siz d' + sizL ds; omega⟩
  | d' :: ds, i + 1, d, h => by
    obtain ⟨h1, h2⟩ := dep_get ds i d (by simpa using h)
    exact ⟨Nat.le_trans h1 (Nat.le_max_right _ _), by show siz d ≤ siz d' + sizL ds; omega⟩
theorem rd_inj {a : Addr} {u v : HO} (h : Rd H a u) (h' : Rd H a v) (nu : ∀ o w, u ≠ .frz o w) (nv : ∀ o w, v ≠ .frz o w) : u = v := by
  rcases h with h | ⟨o, h⟩ <;> rcases h' with h' | ⟨o', h'⟩
  · exact Option.some.inj (h.symm.trans h')
  · exact absurd (Option.some.inj (h.symm.trans h')) (nu o' v)
  · exact absurd (Option.some.inj (h.symm.trans h')).symm (nv o u)
  · have := Option.some.inj (h.symm.trans h')
    injection this
theorem sqO_nf {tp : Bool} {ys : List V} : ∀ o w, sqO tp ys ≠ .frz o w := fun o w h => by cases tp <;> cases h
theorem sqO_inj {tp tp' : Bool} {ys ys' : List V} (h : sqO tp ys = sqO tp' ys') : tp = tp' ∧ ys = ys' := by
  cases tp <;> cases tp' <;> first | (cases h; done) | (injection h with h; exact ⟨rfl, h⟩)
theorem rd_ins {a C dx : Addr} {fs : List (Str × V)} {u : HO} (h : H a = some (.ins C dx fs)) (h' : Rd H a u) (nu : ∀ C dx fs, u ≠ .ins C dx fs) : False := by
  rcases h' with h' | ⟨o, h'⟩
  · exact nu _ _ _ (Option.some.inj (h'.symm.trans h))
  · have := Option.some.inj (h'.symm.trans h)
    cases this
theorem sqO_ni {tp : Bool} {ys : List V} : ∀ C dx fs, sqO tp ys ≠ .ins C dx fs := fun _ _ _ h => by cases tp <;> cases h
theorem zip_inj : ∀ (ks ks' : List Key) (ys ys' : List V), ks.length = ys.length → ks'.length = ys'.length → ks.zip ys = ks'.zip ys' → ks = ks' ∧ ys = ys'
  | [], [], [], [], _, _, _ => ⟨rfl, rfl⟩
  | k :: ks, k' :: ks', y :: ys, y' :: ys', h1, h2, h => by
    rw [List.zip_cons_cons, List.zip_cons_cons] at h
    injection h with h3 h4
    injection h3 with h5 h6
    obtain ⟨e1, e2⟩ := zip_inj ks ks' ys ys' (by simpa using h1) (by simpa using h2) h4
    exact ⟨by rw [h5, e1], by rw [h6, e2]⟩
  | [], k' :: ks', [], y' :: ys', _, _, h => by simp at h
  | k :: ks, [], y :: ys, [], _, _, h => by simp at h
  | [], _, y :: ys, _, h, _, _ => by simp at h
  | k :: ks, _, [], _, h, _, _ => by simp at h
  | _, [], _, y :: ys, _, h, _ => by simp at h
  | _, k :: ks, _, [], _, h, _ => by simp at h
mutual
theorem Den.uni : ∀ (d d' : D) (x : V), Den C H d x → Den C H d' x → d = d'
  | .flat v, d', x, ⟨h1, h2⟩, h' => by
    subst h1
    cases d' with
    | flat v' => rw [h'.1]
    | rcp a old t => rw [h'.1] at h2; cases h2
    | seq tp t => obtain ⟨a, ys, e, _⟩ := h'; rw [e] at h2; cases h2
    | dic ks t => obtain ⟨a, ys, e, _⟩ := h'; rw [e] at h2; cases h2
  | .rcp a old t, d', x, ⟨h1, dx, fs, pr, h2, h3, h4, h5⟩, h' => by
    subst h1
    cases d' with
    | flat v' => obtain ⟨e, f⟩ := h'; rw [← e] at f; cases f
    | rcp a' old' t' =>
      obtain ⟨e, dx', fs', pr', k2, k3, k4, k5⟩ := h'
      injection e with e
      subst e
      have q := Option.some.inj (h2.symm.trans k2)
      injection q with q1 q2 q3
      subst q3
      have e1 := Option.some.inj (h3.symm.trans k3)
      have e2 := Option.some.inj (h4.1.symm.trans k4.1)
      injection e1 with e1
      injection e2 with e2
      subst e1 e2
      rw [Den.uni t t' (.ref pr) h5 k5]
    | seq tp t =>
      obtain ⟨a', ys, e, r, _⟩ := h'
      injection e with e
      subst e
      exact (rd_ins h2 r sqO_ni).elim
    | dic ks t =>
      obtain ⟨a', ys, e, r, _⟩ := h'
      injection e with e
      subst e
      exact (rd_ins h2 (.inl r) (fun _ _ _ z => nomatch z)).elim
  | .seq tp t, d', x, ⟨a, ys, h1, h2, h3⟩, h' => by
    subst h1
    cases d' with
    | flat v' => obtain ⟨e, f⟩ := h'; rw [← e] at f; cases f
    | rcp a' old' t' =>
      obtain ⟨e, dx, fs, pr, r, _⟩ := h'
      injection e with e
      subst e
      exact (rd_ins r h2 sqO_ni).elim
    | seq tp' t' =>
      obtain ⟨a', ys', e, r, k⟩ := h'
      injection e with e
      subst e
      obtain ⟨e1, e2⟩ := sqO_inj (rd_inj h2 r sqO_nf sqO_nf)
      subst e1 e2
      rw [DenL.uni t t' ys h3 k]
    | dic ks t' =>
      obtain ⟨a', ys', e, r, k⟩ := h'
      injection e with e
      subst e
      have := rd_inj h2 (.inl r) sqO_nf (fun _ _ z => nomatch z)
      cases tp <;> cases this
  | .dic ks t, d', x, ⟨a, ys, h1, h2, hl, hn, h3⟩, h' => by
    subst h1
    cases d' with
    | flat v' => obtain ⟨e, f⟩ := h'; rw [← e] at f; cases f
    | rcp a' old' t' =>
      obtain ⟨e, dx, fs, pr, r, _⟩ := h'
      injection e with e
      subst e
      exact (rd_ins r (.inl h2) (fun _ _ _ z => nomatch z)).elim
    | seq tp' t' =>
      obtain ⟨a', ys', e, r, k⟩ := h'
      injection e with e
      subst e
      have := rd_inj (.inl h2) r (fun _ _ z => nomatch z) sqO_nf
      cases tp' <;> cases this
    | dic ks' t' =>
      obtain ⟨a', ys', e, r, hl', hn', k⟩ := h'
      injection e with e
      subst e
      have := rd_inj (.inl h2) (.inl r) (fun _ _ z => nomatch z) (fun _ _ z => nomatch z)
      injection this with this
      obtain ⟨e1, e2⟩ := zip_inj _ _ _ _ hl hl' this
      subst e1 e2
      rw [DenL.uni t t' ys h3 k]
theorem DenL.uni : ∀ (ds ds' : List D) (xs : List V), DenL C H ds xs → DenL C H ds' xs → ds = ds'
  | [], ds', xs, h, h' => by
    cases (show xs = [] from h)
    cases ds' with
    | nil => rfl
    | cons d ds => obtain ⟨y, r, e, _⟩ := h'; cases e
  | d :: ds, ds', xs, ⟨y, r, h1, h2, h3⟩, h' => by
    subst h1
    cases ds' with
    | nil => cases h'
    | cons d' ds' =>
      obtain ⟨y', r', e, k1, k2⟩ := h'
      injection e with e1 e2
      subst e1 e2
      rw [Den.uni d d' y h2 k1, DenL.uni ds ds' r h3 k2]
end
mutual
/-- what is smaller than the thing at a does not hang on what stands at a -/
theorem Den.keep {a : Addr} {da : D} {o : HO} (ha : Den C H da (.ref a)) : ∀ (d : D) (x : V), Den C H d x → siz d < siz da → Den C (upd H a o) d x
  | .flat v, x, h, _ => h
  | .rcp b old t, x, ⟨h1, dx, fs, pr, h2, h3, h4, h5⟩, hs => ⟨h1, dx, fs, pr, by
    have nb : b ≠ a := fun z => by
      subst z
      rw [Den.uni da (.rcp b old t) (.ref b) ha ⟨rfl, dx, fs, pr, h2, h3, h4, h5⟩] at hs
      exact Nat.lt_irrefl _ hs
    rw [upd_ne nb]
    exact h2, h3, h4, Den.keep ha t (.ref pr) h5 (by have : siz (.rcp b old t) = siz t + 1 := rfl; omega)⟩
  | .seq tp t, x, ⟨b, ys, h1, h2, h3⟩, hs => ⟨b, ys, h1, by
    have nb : b ≠ a := fun z => by
      subst z
      rw [Den.uni da (.seq tp t) (.ref b) ha ⟨b, ys, rfl, h2, h3⟩] at hs
      exact Nat.lt_irrefl _ hs
    unfold Rd
    rw [upd_ne nb]
    exact h2, DenL.keep ha t ys h3 (by have : siz (.seq tp t) = sizL t + 1 := rfl; omega)⟩
  | .dic ks t, x, ⟨b, ys, h1, h2, hl, hn, h3⟩, hs => ⟨b, ys, h1, by
    have nb : b ≠ a := fun z => by
      subst z
      rw [Den.uni da (.dic ks t) (.ref b) ha ⟨b, ys, rfl, h2, hl, hn, h3⟩] at hs
      exact Nat.lt_irrefl _ hs
    rw [upd_ne nb]
    exact h2, hl, hn, DenL.keep ha t ys h3 (by have : siz (.dic ks t) = sizL t + 1 := rfl; omega)⟩
theorem DenL.keep {a : Addr} {da : D} {o : HO} (ha : Den C H da (.ref a)) : ∀ (ds : List D) (xs : List V), DenL C H ds xs → sizL ds < siz da → DenL C (upd H a o) ds xs
  | [], xs, h, _ => h
  | d :: ds, xs, ⟨y, r, h1, h2, h3⟩, hs => ⟨y, r, h1, Den.keep ha d y h2 (by have : sizL (d :: ds) = siz d + sizL ds := rfl; omega), DenL.keep ha ds r h3 (by have : sizL (d :: ds) = siz d + sizL ds := rfl; omega)⟩
end
end
/-! ### lists of lists of ints -/
def intsD (r : List Int) : D := .seq false (r.map fun i => .flat (.int i))
def rowsD (rs : List (List Int)) : D := .seq false (rs.map intsD)
section

mutual
/-- the recipes in it are such as the program makes -/
def okD : D → Prop
  | .flat _ => True
  | .rcp _ _ t => ∃ rs : List (List Int), t = rowsD rs
  | .seq _ t => okDL t
  | .dic _ t => okDL t
def okDL : List D → Prop
  | [] => True
  | d :: ds => okD d ∧ okDL ds
end
end
theorem okDL_get : ∀ (ds : List D) (i : Nat) (d : D), okDL ds → ds[i]? = some d → okD d
  | [], i, d, _, h => by simp at h
  | d' :: ds, 0, d, ⟨h1, _⟩, h => by
    have e : d' = d := by simpa using h
    subst e
    exact h1
  | d' :: ds, i + 1, d, ⟨_, h2⟩, h => okDL_get ds i d h2 (by simpa using h)
/-! ### dicts of distinct keys -/
theorem putK_new {acc : List (Key × V)} {k : Key} {v : V} (h : k ∉ acc.map (·.1)) : putK acc k v = acc ++ [(k, v)] := by
  unfold putK
  rw [if_neg]
  intro z
  rw [List.any_eq_true] at z
  obtain ⟨p, hp, e⟩ := z
  exact h (by rw [← of_decide_eq_true e]; exact List.mem_map_of_mem hp)
theorem mergeK_app : ∀ (more acc : List (Key × V)), ((acc ++ more).map (·.1)).Nodup → mergeK acc more = acc ++ more
  | [], acc, _ => by simp [mergeK]
  | (k, v) :: more, acc, h => by
    show mergeK (putK acc k v) more = _
    have hk : k ∉ acc.map (·.1) := by
      intro z
      rw [List.map_append, List.nodup_append] at h
      exact h.2.2 k z k (by simp) rfl
    rw [putK_new hk, mergeK_app more (acc ++ [(k, v)]) (by simpa using h), List.append_assoc]
    rfl
theorem zip_keys : ∀ (ks : List Key) (ys : List V), ks.length = ys.length → (ks.zip ys).map (·.1) = ks
  | [], [], _ => rfl
  | k :: ks, y :: ys, h => by
    rw [List.zip_cons_cons, List.map_cons, zip_keys ks ys (by simpa using h)]
  | [], _ :: _, h => by cases h
  | _ :: _, [], h => by cases h
theorem valV_zip : ∀ (ks : List Key) (ys : List V), ks.length = ys.length → ks.Nodup → ∀ (i : Nat) (k : Key) (y : V), ks[i]? = some k → ys[i]? = some y → valV (ks.zip ys) k = some y
  | [], _, _, _, i, k, y, h, _ => by simp at h
  | k0 :: ks, [], h, _, _, _, _, _, _ => by cases h
  | k0 :: ks, y0 :: ys, hl, hn, i, k, y, h1, h2 => by
    rw [List.zip_cons_cons]
    cases i with
    | zero =>
      have e1 : k0 = k := by simpa using h1
      have e2 : y0 = y := by simpa using h2
      rw [valV_pos (p := (k0, y0)) e1, e2]
    | succ i =>
      have hk : ks[i]? = some k := by simpa using h1
      rw [List.nodup_cons] at hn
      have ne : ¬ k0 = k := fun z => hn.1 (by rw [z]; exact List.mem_of_getElem? hk)
      rw [valV_neg (p := (k0, y0)) ne]
      exact valV_zip ks ys (by simpa using hl) hn.2 i k y hk (by simpa using h2)
end G

/-! The text by places. -/
namespace Tp
open PySem PySem.Spec PyProof.Rows L2
def top (i : Nat) : Stmt := PySem.Challenge.pw_sparecells_k43_whole_papers.main.body.getD i (.Pass ⟨0, 0, 0, 0⟩)
def meth (j : Nat) : Stmt := inClass (top 14) j
/-- the i-th statement of the top is the def x -/
abbrev FnT (K : PySem.W.Frag) (x : Str) (i : Nat) (f : Addr) (fd : FuncData) : Prop := FunD K x x (defArgs (top i)) (defBody (top i)) (defScope (top i)) [] [] f fd
abbrev FnM (K : PySem.W.Frag) (m q : Str) (j : Nat) (f : Addr) (fd : FuncData) : Prop := FunD K m q (defArgs (meth j)) (defBody (meth j)) (defScope (meth j)) [] [] f fd
/-- what the module does not name: the built-ins -/
structure Fr (mg : Str → Option Value) : Prop where
  is_ : mg "isinstance" = none
  int_ : mg "int" = none
  bool_ : mg "bool" = none
  list_ : mg "list" = none
  tuple_ : mg "tuple" = none
  dict_ : mg "dict" = none
  str_ : mg "str" = none
  all_ : mg "all" = none
  any_ : mg "any" = none
  range_ : mg "range" = none
  len_ : mg "len" = none
  sum_ : mg "sum" = none
  max_ : mg "max" = none
  min_ : mg "min" = none
  zip_ : mg "zip" = none
  sorted_ : mg "sorted" = none
  ve_ : mg "ValueError" = none
/-- the class Recipe at C, its __init__ at f0 -/
structure RcT (K : PySem.W.Frag) (mg : Str → Option Value) (C : Addr) : Prop where
  gC : mg "Recipe" = some (.ref C)
  cl : Cls K C
  ha : PySem.W.findIn K (.ref C) "__class__" = some (some (.builtin "object.__class__"))
  hn : PySem.W.specialIn K (.builtin "object.__class__") "__get__" = some (some (.builtin "getset_descriptor.__get__"))
  htk : PySem.W.takesIn K (.builtin "object.__class__") = some true
  hm : PySem.W.mroIn K C (.type "object") = some true
  own : PySem.W.kitOne K (.ref C) (.ref C) = some true
  ins : ∀ T ∈ ["int", "bool", "list", "tuple", "dict", "str"], PySem.W.kitOne K (.ref C) (.type T) = some false
  oth : ∀ T ∈ ["NoneType", "int", "bool", "list", "tuple", "dict", "str"], PySem.W.kitOne K (.type T) (.ref C) = some false
  nOld : NoAttr K C "old"
  nRows : NoAttr K C "rows"
  nBits : NoAttr K C "bits"
  nKnown : NoAttr K C "known"
  ne : PySem.W.findIn K (.ref C) "__ne__" = some (some (.builtin "object.__ne__"))
theorem bt_int : bootBuiltins "int" = some (.type "int") := by decide +kernel
theorem bt_bool : bootBuiltins "bool" = some (.type "bool") := by decide +kernel
theorem bt_list : bootBuiltins "list" = some (.type "list") := by decide +kernel
theorem bt_tuple : bootBuiltins "tuple" = some (.type "tuple") := by decide +kernel
theorem bt_dict : bootBuiltins "dict" = some (.type "dict") := by decide +kernel
theorem bt_str : bootBuiltins "str" = some (.type "str") := by decide +kernel
theorem bt_ve : bootBuiltins "ValueError" = some (.type "ValueError") := by decide +kernel
theorem bt_is : bootBuiltins "isinstance" = some (.builtin "isinstance") := by decide +kernel
theorem bt_all : bootBuiltins "all" = some (.builtin "all") := by decide +kernel
theorem bt_any : bootBuiltins "any" = some (.builtin "any") := by decide +kernel
theorem bt_sum : bootBuiltins "sum" = some (.builtin "sum") := by decide +kernel
theorem bt_max : bootBuiltins "max" = some (.builtin "max") := by decide +kernel
theorem bt_min : bootBuiltins "min" = some (.builtin "min") := by decide +kernel
theorem bt_sorted : bootBuiltins "sorted" = some (.builtin "sorted") := by decide +kernel
theorem bt_len : bootBuiltins "len" = some (.builtin "len") := by decide +kernel
end Tp

/-! _law_same and _law_exact. -/
namespace G
open PySem PySem.Spec PyProof.Rows L2 Evl Tp RZ
/-! ### comprehensions over other things -/
section
variable {K : PySem.W.Frag} {σ : L2.St} {H H0 H1 : Hp} {te : TE} {g : TG}
theorem Cv.ex {R : Nat → V → Hp → Prop} {D : Addr} {i : Nat} {H2 H3 : Hp} (p : Cv H1 H D R i H2) (e : Ex H2 H3) : Cv H1 H D R i H3 := by
  obtain ⟨ys, H', e1, e2, e3, fr, hD, h2, hl, hr⟩ := p
  exact ⟨ys, H', e1, e2.trans e, e3.trans e, fr, hD, e _ _ h2, hl, hr⟩
theorem lcG {J : It} {n : Nat} {vs : List Nat} (R : Nat → V → Hp → Prop) (stab : ∀ i v A B, Ex A B → R i v A → R i v B) (hn : n ≤ 40000) (e : Ex H H1)
    (hgo : ∀ i H2, i < n → Ex H1 H2 → J.go i H2) (hst : ∀ H2, Ex H1 H2 → J.stop n H2)
    (turn : ∀ i H2 x H3, i < n → Ex H1 H2 → J.yld i H2 x H3 → ∃ σ', Ex H2 H3 ∧ (∀ Qg : L2.St → Hp → Prop, Qg σ' H3 → g x (wipe σ vs) H3 Qg) ∧ wipe σ' vs = wipe σ vs ∧ ∀ H', Ex H H' → EvP te σ' H' (R i))
    {Q : VK} (q : ∀ v H' H3, Step H H1 H' H3 → LcP H n R v H' → Q v H3) : ∀ D, H1 D = none → ∃ W : Nat → Nat → Hp → Prop, (∃ m, W 0 m (upd H1 D (.lst []))) ∧ ∀ i m H, W i m H →
  (J.stop i H ∧ Q (.ref D) H) ∨ (J.go i H ∧ ∃ Nx : Hp → Prop, (∀ H', Nx H' → ∃ m', m' < m ∧ W (i + 1) m' H') ∧ ∀ x H', J.yld i H x H' → g x (wipe σ vs) H' fun σ2 H2 => wipe σ2 vs = wipe σ vs ∧ tYes σ2 H2 fun b H3 =>
    if b = true then te σ2 H3 fun y H4 => ∃ acc, H4 D = some (.lst acc) ∧ acc.length < sizeLine ∧ Nx (upd H4 D (.lst (acc ++ [y]))) else Nx H3) := by
  intro D hD
  refine ⟨fun i m H2 => m = n - i ∧ i ≤ n ∧ Cv H1 H D R i H2, ⟨n, by simp, Nat.zero_le _, [], H, Ex.refl _, Ex.new hD, e.trans (Ex.new hD), fun b hb => .inl hb, fresh_back e hD, upd_same, rfl, fun j y hy => by simp at hy⟩, ?_⟩
  rintro i m H2 ⟨rfl, hi, p⟩
  have e2 : Ex H1 H2 := by
    obtain ⟨ys, H', _, e2, _⟩ := p
    exact e2
  by_cases hlt : i < n
  · refine .inr ⟨hgo i H2 hlt e2, Cv H1 H D R (i + 1), fun H' p' => ⟨n - (i + 1), by omega, rfl, hlt, p'⟩, fun x H3 y => ?_⟩
    obtain ⟨σ', e3, hg, hw, he⟩ := turn i H2 x H3 hlt e2 y
    refine hg _ ⟨hw, ?_⟩
    show te σ' H3 fun y H4 => ∃ acc, H4 D = some (.lst acc) ∧ acc.length < sizeLine ∧ Cv H1 H D R (i + 1) (upd H4 D (.lst (acc ++ [y])))
    exact cv_turn stab hD (p.ex e3) (by omega) he
  · have ei : i = n := by omega
    subst ei
    exact .inl ⟨hst H2 e2, cv_end stab e hD p q⟩
/-- over range(n) -/
theorem ep_lcR {ta : TA} {j : Nat} {vs : List Nat} {n : Int} (R : Nat → V → Hp → Prop) (stab : ∀ i v A B, Ex A B → R i v A → R i v B) (h : EvA ta σ H [.int n]) (hn : n ≤ 40000) (h0 : -1 ≤ n) (hw : ∀ x, wipe ((wipe σ vs).set j (some x)) vs = wipe σ vs)
    (he : ∀ (i : Nat) H', Ex H H' → (i : Int) < n → EvP te ((wipe σ vs).set j (some (.int (i : Int)))) H' (R i)) : EvP (tLc (iRng1 ta) (gName j) tYes te vs) σ H (LcP H n.toNat R) := fun H0 e Q q =>
  h H0 e _ fun H1 e1 => ⟨n, rfl, by omega, by omega, lcG R stab (by omega) (e.trans e1) (fun i H2 hi _ => hi) (fun H2 _ => Nat.le_refl _) (fun i H2 x H3 hi e2 y => by
    obtain ⟨e3, rfl⟩ := y
    subst e3
    refine ⟨_, Ex.refl _, fun Qg z => z, hw _, fun H' e' => ?_⟩
    have := he i H' e' (by omega)
    have e0 : (0 : Int) + (i : Int) = (i : Int) := Int.zero_add _
    rw [e0]
    exact this) fun v H' H3 s r => q v H' H3 ((Step.ex e e1).trans s) r⟩
/-- over range(a, n) -/
theorem ep_lcR2 {ta : TA} {j : Nat} {vs : List Nat} {lo n : Int} (R : Nat → V → Hp → Prop) (stab : ∀ i v A B, Ex A B → R i v A → R i v B) (h : EvA ta σ H [.int lo, .int n]) (hl : 0 ≤ lo ∧ lo ≤ 40000) (hn : n ≤ 40000) (h0 : 0 ≤ n) (hw : ∀ x, wipe ((wipe σ vs).set j (some x)) vs = wipe σ vs)
    (he : ∀ (i : Nat) H', Ex H H' → lo + (i : Int) < n → EvP te ((wipe σ vs).set j (some (.int (lo + (i : Int))))) H' (R i)) : EvP (tLc (iRng2 ta) (gName j) tYes te vs) σ H (LcP H (n - lo).toNat R) := fun H0 e Q q =>
  h H0 e _ fun H1 e1 => ⟨lo, n, rfl, ⟨by omega, by omega, by omega, by omega⟩, lcG R stab (by omega) (e.trans e1) (fun i H2 hi _ => hi) (fun H2 _ => Nat.le_refl _) (fun i H2 x H3 hi e2 y => by
    obtain ⟨e3, rfl⟩ := y
    subst e3
    exact ⟨_, Ex.refl _, fun Qg z => z, hw _, fun H' e' => he i H' e' (by omega)⟩) fun v H' H3 s r => q v H' H3 ((Step.ex e e1).trans s) r⟩
/-- over a tuple -/
theorem ep_lcT {tl : TE} {a : Addr} {xs : List V} {j : Nat} {vs : List Nat} (R : Nat → V → Hp → Prop) (stab : ∀ i v A B, Ex A B → R i v A → R i v B) (h : Ev tl σ H (.ref a)) (hx : Rd H a (.tup xs)) (hz : xs.length ≤ 40000) (hw : ∀ x, wipe ((wipe σ vs).set j (some x)) vs = wipe σ vs)
    (he : ∀ (i : Nat) (x : V) H', Ex H H' → xs[i]? = some x → EvP te ((wipe σ vs).set j (some x)) H' (R i)) : EvP (tLc (iTup K tl) (gName j) tYes te vs) σ H (LcP H xs.length R) := fun H0 e Q q =>
  h H0 e _ fun H1 e1 => by
    have hT : ∀ H2, Ex H1 H2 → SqT K H2 a xs := fun H2 e2 => ex_t ((e.trans e1).trans e2) (.inl hx)
    exact ⟨a, rfl, ⟨xs, hT H1 (Ex.refl _)⟩, lcG (J := Itt K a) R stab hz (e.trans e1) (fun i H2 hi e2 => ⟨xs, xs[i], hT H2 e2, by simp [hi]⟩) (fun H2 e2 => ⟨xs, hT H2 e2, Nat.le_refl _⟩) (fun i H2 x H3 hi e2 y => by
      obtain ⟨e3, hy⟩ := y
      subst e3
      exact ⟨_, Ex.refl _, fun Qg z => z, hw _, fun H' e' => he i x H' e' (hy xs (hT _ e2))⟩) fun v H' H3 s r => q v H' H3 ((Step.ex e e1).trans s) r⟩
/-- over the keys of a dict that is locked -/
theorem ep_lcK {td : TE} {d : Addr} {o : Obj} {kvs : List (Key × V)} {j : Nat} {vs : List Nat} (R : Nat → V → Hp → Prop) (stab : ∀ i v A B, Ex A B → R i v A → R i v B) (h : Ev td σ H (.ref d)) (hd : H d = some (.frz o (.dK kvs))) (hz : kvs.length ≤ 40000)
    (hw : ∀ x, wipe ((wipe σ vs).set j (some x)) vs = wipe σ vs) (he : ∀ (i : Nat) (k : Key) (v : V) H', Ex H H' → kvs[i]? = some (k, v) → EvP te ((wipe σ vs).set j (some (kV k))) H' (R i)) : EvP (tLc (iKeys td) (gName j) tYes te vs) σ H (LcP H kvs.length R) := fun H0 e Q q =>
  h H0 e _ fun H1 e1 => ⟨d, o, rfl, .inl ⟨kvs, (e.trans e1) _ _ hd, lcG (J := Itk d o kvs) R stab hz (e.trans e1) (fun i H2 hi e2 => ⟨e2 _ _ ((e.trans e1) _ _ hd), hi⟩) (fun H2 e2 => ⟨e2 _ _ ((e.trans e1) _ _ hd), Nat.le_refl _⟩) (fun i H2 x H3 hi e2 y => by
    obtain ⟨e3, k, v, hk, rfl⟩ := y
    subst e3
    exact ⟨_, Ex.refl _, fun Qg z => z, hw _, fun H' e' => he i k v H' e' hk⟩) fun v H' H3 s r => q v H' H3 ((Step.ex e e1).trans s) r⟩⟩
/-- for x, y in zip(xs, ys), both lists or both tuples -/
theorem ep_lcZ {ta : TA} {a b : Addr} {xs ys : List V} {tp : Bool} {j1 j2 : Nat} {vs : List Nat} (R : Nat → V → Hp → Prop) (stab : ∀ i v A B, Ex A B → R i v A → R i v B) (h : EvA ta σ H [.ref a, .ref b]) (hx : Rd H a (sqO tp xs)) (hy : Rd H b (sqO tp ys)) (hl : xs.length = ys.length) (hz : xs.length ≤ 40000)
    (hw : ∀ x y, wipe (((wipe σ vs).set j1 (some x)).set j2 (some y)) vs = wipe σ vs)
    (he : ∀ (i : Nat) (x y : V) H', Ex H H' → xs[i]? = some x → ys[i]? = some y → EvP te (((wipe σ vs).set j1 (some x)).set j2 (some y)) H' (R i)) :
    EvP (tLc (iZipA K ta) (gTup K 2 (gCons (gName j1) (gCons (gName j2) gNil))) tYes te vs) σ H (LcP H xs.length R) := fun H0 e Q q =>
  h H0 e _ fun H1 e1 => by
    have e01 := e.trans e1
    have tt : ∀ (i : Nat) (H2 H3 : Hp) (v : V), Ex H1 H2 → (∃ (T : Addr) (x y : V), v = .ref T ∧ H2 T = none ∧ H3 = upd H2 T (.tup [x, y]) ∧ xs[i]? = some x ∧ ys[i]? = some y) →
        ∃ σ', Ex H2 H3 ∧ (∀ Qg : L2.St → Hp → Prop, Qg σ' H3 → gTup K 2 (gCons (gName j1) (gCons (gName j2) gNil)) v (wipe σ vs) H3 Qg) ∧ wipe σ' vs = wipe σ vs ∧ ∀ H', Ex H H' → EvP te σ' H' (R i) := fun i H2 H3 v e2 ⟨T, x, y, e4, hT, e5, f1, f2⟩ => by
      subst e4 e5
      exact ⟨_, Ex.new hT, fun Qg z => ⟨T, [x, y], rfl, .inl (.inl upd_same), rfl, x, [y], rfl, y, [], rfl, rfl, z⟩, hw x y, fun H' e' => he i x y H' e' f1 f2⟩
    refine ⟨a, b, xs, ys, rfl, ?_⟩
    cases tp with
    | false =>
      have hX : ∀ H2, Ex H1 H2 → SqL K H2 a xs := fun H2 e2 => .inl (rd_mono (e01.trans e2) hx)
      have hY : ∀ H2, Ex H1 H2 → SqL K H2 b ys := fun H2 e2 => .inl (rd_mono (e01.trans e2) hy)
      exact .inl ⟨hX _ (Ex.refl _), hY _ (Ex.refl _), lcG (J := Itz K a b) R stab hz e01 (fun i H2 hi e2 => ⟨xs, ys, xs[i], ys[i]'(by omega), hX H2 e2, hY H2 e2, by simp [hi], by simp [hl ▸ hi]⟩) (fun H2 e2 => ⟨xs, ys, hX H2 e2, hY H2 e2, .inl (Nat.le_refl _)⟩)
        (fun i H2 v H3 hi e2 y => by
          obtain ⟨T, x, y', rfl, hT, rfl, f1, f2⟩ := y
          exact tt i H2 _ _ e2 ⟨T, x, y', rfl, hT, rfl, f1 xs (hX _ e2), f2 ys (hY _ e2)⟩) fun v H' H3 s r => q v H' H3 ((Step.ex e e1).trans s) r⟩
    | true =>
      have hX : ∀ H2, Ex H1 H2 → SqT K H2 a xs := fun H2 e2 => .inl (rd_mono (e01.trans e2) hx)
      have hY : ∀ H2, Ex H1 H2 → SqT K H2 b ys := fun H2 e2 => .inl (rd_mono (e01.trans e2) hy)
      exact .inr ⟨hX _ (Ex.refl _), hY _ (Ex.refl _), lcG (J := ItzT K a b) R stab hz e01 (fun i H2 hi e2 => ⟨xs, ys, xs[i], ys[i]'(by omega), hX H2 e2, hY H2 e2, by simp [hi], by simp [hl ▸ hi]⟩) (fun H2 e2 => ⟨xs, ys, hX H2 e2, hY H2 e2, .inl (Nat.le_refl _)⟩)
        (fun i H2 v H3 hi e2 y => by
          obtain ⟨T, x, y', rfl, hT, rfl, f1, f2⟩ := y
          exact tt i H2 _ _ e2 ⟨T, x, y', rfl, hT, rfl, f1 xs (hX _ e2), f2 ys (hY _ e2)⟩) fun v H' H3 s r => q v H' H3 ((Step.ex e e1).trans s) r⟩
/-- a walk under a lock -/
theorem ep_lock {t : TE} {d : Addr} {u : HO} {P P' : V → Hp → Prop} (hd : H d = some u) (mu : Mut (some u)) (hi : ∀ od, EvP t σ (upd H d (.frz od u)) P) (k : ∀ v H' od, Ex (upd H d (.frz od u)) H' → P v H' → P' v (upd H' d u)) : EvP (tLockE t) σ H P' := fun H1 e Q q =>
  ⟨d, u, e _ _ hd, mu, fun od => hi od (upd H1 d (.frz od u)) (fun a o h => by
    by_cases ha : a = d
    · subst ha; rw [upd_same] at h ⊢; exact h
    · rw [upd_ne ha] at h ⊢; exact e a o h) _ fun v H' H2 s p => by
    have h2 : H2 d = some (.frz od u) := s.tot d _ upd_same
    refine ⟨h2, q v (upd H' d u) (upd H2 d u) ⟨fun a o h => ?_, fun a o h => ?_, fun a o h => ?_, fun b hb => ?_⟩ (k v H' od s.loc p)⟩
    · by_cases ha : a = d
      · subst ha; rw [upd_same, ← hd, h]
      · rw [upd_ne ha]; exact s.loc a o (by rw [upd_ne ha]; exact h)
    · by_cases ha : a = d
      · subst ha; rw [upd_same, ← e _ _ hd, h]
      · rw [upd_ne ha]; exact s.tot a o (by rw [upd_ne ha]; exact h)
    · by_cases ha : a = d
      · subst ha; rw [upd_same] at h ⊢; exact h
      · rw [upd_ne ha] at h ⊢; exact s.inn a o h
    · by_cases ha : b = d
      · subst ha; exact .inl (by rw [hd]; exact fun z => nomatch z)
      · rw [upd_ne ha] at hb
        rcases s.fre b hb with z | z
        · rw [upd_ne ha] at z; exact .inl z
        · rw [upd_ne ha] at z; exact .inr z⟩
end
/-- all(xs), xs all true -/
theorem gv_all {K : PySem.W.Frag} {H : Hp} {p : Addr} {ys : List V} {P : V → Hp → Prop} (bs : List Bool) (h : H p = some (.lst (bs.map V.bl))) (k : P (.bl (bs.all id)) H) : Gv (rAll K [.ref p]) H P := fun H1 e Q q => ⟨p, bs, rfl, .inl (.inl (e _ _ h)), q _ H H1 (Step.refl e) k⟩
theorem bls_of {ys : List V} {n : Nat} {f : Nat → Bool} (hl : ys.length = n) (h : ∀ i (y : V), ys[i]? = some y → y = V.bl (f i)) : ys = ((List.range n).map f).map V.bl := by
  refine List.ext_getElem? fun i => ?_
  by_cases hi : i < n
  · have h1 : ys[i]? = some ys[i] := List.getElem?_eq_getElem (by omega)
    rw [h1, h i _ h1]
    simp [hi]
  · rw [List.getElem?_eq_none (by omega), List.getElem?_eq_none (by simp; omega)]
theorem all_range_true {n : Nat} {f : Nat → Bool} (h : ∀ i, i < n → f i = true) : ((List.range n).map f).all id = true := by
  simp only [List.all_map, List.all_eq_true, List.mem_range]
  exact h
section
variable {K : PySem.W.Frag} {σ : L2.St} {H H' : Hp} {ta tb te : TE} {P P1 : V → Hp → Prop}
def tNeverE : TE := fun _ _ _ => False
theorem pe_never {X : Cx} {e : Expr} : PE X e tNeverE := ⟨fun _ _ _ _ _ _ h => h.elim⟩
theorem ep_cb1 {r : List V → Hp → VK → Prop} (h : EvP te σ H P1) (hr : ∀ v H', Ex H H' → P1 v H' → Gv (r [v]) H' P) : EvP (tCB r (tCons te tNil)) σ H P := fun H1 e Q q =>
  h H1 e _ fun v H' H2 s p => hr v H' s.loc p H2 s.inn _ fun w H0 H4 s3 p3 => q w H0 H4 (s.trans s3) p3
theorem ep_cbA {r : List V → Hp → VK → Prop} {ta : TA} {vs : List V} (h : EvA ta σ H vs) (hr : Gv (r vs) H P) : EvP (tCB r ta) σ H P := fun H1 e Q q =>
  h H1 e _ fun H2 e2 => hr H2 (e.trans e2) _ fun v H0 H4 s3 p3 => q v H0 H4 ((Step.ex e e2).trans s3) p3
theorem ep_callA {sp : Sp} {E : XK} {ta : TA} {vs : List V} (h : EvA ta σ H vs) (hr : Gv (fun H1 Q => sp vs H1 Q E) H P) : EvP (tCall sp [] E ta) σ H P := fun H1 e Q q =>
  h H1 e _ fun H2 e2 => by
    show sp (vs ++ []) H2 Q E
    rw [List.append_nil]
    exact hr H2 (e.trans e2) _ fun v H0 H4 s3 p3 => q v H0 H4 ((Step.ex e e2).trans s3) p3
theorem ep_call1 {sp : Sp} {E : XK} (h : EvP te σ H P1) (hr : ∀ v H', Ex H H' → P1 v H' → Gv (fun H1 Q => sp [v] H1 Q E) H' P) : EvP (tCall sp [] E (tCons te tNil)) σ H P := fun H1 e Q q =>
  h H1 e _ fun v H' H2 s p => hr v H' s.loc p H2 s.inn _ fun w H0 H4 s3 p3 => q w H0 H4 (s.trans s3) p3
theorem ep_call2 {sp : Sp} {E : XK} {P2 : V → V → Hp → Prop} (ha : EvP ta σ H P1) (hb : ∀ x H', Ex H H' → P1 x H' → EvP tb σ H' (P2 x)) (hr : ∀ x y H', Ex H H' → P2 x y H' → Gv (fun H1 Q => sp [x, y] H1 Q E) H' P) : EvP (tCall sp [] E (tCons ta (tCons tb tNil))) σ H P := fun H1 e Q q =>
  ha H1 e _ fun x H' H2 s p => hb x H' s.loc p H2 s.inn _ fun y H'' H3 s2 p2 => hr x y H'' (s.loc.trans s2.loc) p2 H3 s2.inn _ fun w H0 H4 s3 p3 => q w H0 H4 ((s.trans s2).trans s3) p3
/-- list(xs), tuple(xs) of a list -/
theorem gv_list {p : Addr} {ys : List V} (h : SqL K H p ys ∨ SqT K H p ys) (k : ∀ l, H l = none → P (.ref l) (upd H l (.lst ys))) : Gv (fun H1 Q => ∃ q zs, [V.ref p] = [.ref q] ∧ (SqL K H1 q zs ∨ SqT K H1 q zs) ∧ ∀ l, H1 l = none → Q (.ref l) (upd H1 l (.lst zs))) H P :=
  fun H1 e Q q => ⟨p, ys, rfl, h.imp (ex_l e) (ex_t e), fun l hl => q _ _ _ (Step.new e hl) (k l (fresh_back e hl))⟩
theorem gv_tupL {p : Addr} {ys : List V} (h : SqL K H p ys) (k : ∀ l, H l = none → P (.ref l) (upd H l (.tup ys))) : Gv (fun H1 Q => ∃ q zs, [V.ref p] = [.ref q] ∧ ((SqL K H1 q zs ∧ ∀ l, H1 l = none → Q (.ref l) (upd H1 l (.tup zs))) ∨ (SqT K H1 q zs ∧ Q (.ref q) H1))) H P :=
  fun H1 e Q q => ⟨p, ys, rfl, .inl ⟨ex_l e h, fun l hl => q _ _ _ (Step.new e hl) (k l (fresh_back e hl))⟩⟩
end
end G

/-! Recipe.__eq__, _law_same and _law_exact. -/
namespace G
open PySem PySem.Spec PyProof.Rows L2 Evl Tp RZ
/-! ### rows of ints as data -/
def intsP (r : List Int) : PyData := .list (r.map PyData.int)
def rowsP (rs : List (List Int)) : PyData := .list (rs.map intsP)
section
variable {K : PySem.W.Frag} {C : Addr} {H : Hp}
theorem dp_ints : ∀ (r : List Int) (ys : List V), DenL C H (r.map fun i => .flat (.int i)) ys → DpAll K H ys (r.map PyData.int)
  | [], ys, h => by cases (show ys = [] from h); exact .nil
  | i :: r, ys, ⟨y, r', h1, h2, h3⟩ => by
    subst h1
    cases h2.1
    exact .cons (.int i) (dp_ints r r' h3)
theorem dp_row {r : List Int} {x : V} (h : Den C H (intsD r) x) : Dp K H x (intsP r) := by
  obtain ⟨a, ys, rfl, h2, h3⟩ := h
  exact .lst (.inl h2) (dp_ints r ys h3)
theorem dp_rowsL : ∀ (rs : List (List Int)) (ys : List V), DenL C H (rs.map intsD) ys → DpAll K H ys (rs.map intsP)
  | [], ys, h => by cases (show ys = [] from h); exact .nil
  | r :: rs, ys, ⟨y, r', h1, h2, h3⟩ => by
    subst h1
    exact .cons (dp_row h2) (dp_rowsL rs r' h3)
theorem dp_rows {rs : List (List Int)} {x : V} (h : Den C H (rowsD rs) x) : Dp K H x (rowsP rs) := by
  obtain ⟨a, ys, rfl, h2, h3⟩ := h
  exact .lst (.inl h2) (dp_rowsL rs ys h3)
end
theorem lay_ints : ∀ r : List Int, PyData.canLayAll0 (r.map PyData.int) = true ∧ PyData.depthAll (r.map PyData.int) = 0
  | [] => ⟨rfl, rfl⟩
  | i :: r => by
    obtain ⟨h1, h2⟩ := lay_ints r
    refine ⟨?_, ?_⟩
    · show (PyData.canLay0 (.int i) && PyData.canLayAll0 (r.map PyData.int)) = true
      rw [h1]
      rfl
    · show max (PyData.depth (.int i)) (PyData.depthAll (r.map PyData.int)) = 0
      rw [h2]
      rfl
theorem lay_rows : ∀ rs : List (List Int), PyData.canLayAll0 (rs.map intsP) = true ∧ PyData.depthAll (rs.map intsP) ≤ 1
  | [] => ⟨rfl, Nat.zero_le _⟩
  | r :: rs => by
    obtain ⟨h1, h2⟩ := lay_rows rs
    obtain ⟨k1, k2⟩ := lay_ints r
    refine ⟨?_, ?_⟩
    · show (PyData.canLayAll0 (r.map PyData.int) && PyData.canLayAll0 (rs.map intsP)) = true
      rw [h1, k1]
      rfl
    · show max (PyData.depthAll (r.map PyData.int) + 1) (PyData.depthAll (rs.map intsP)) ≤ 1
      rw [k2]
      omega
theorem shaped_rows (rs : List (List Int)) : SeqAt.shaped (rowsP rs) = true := by
  obtain ⟨h1, h2⟩ := lay_rows rs
  show (PyData.canLayAll0 (rs.map intsP) && decide (PyData.depthAll (rs.map intsP) + 1 ≤ 64)) = true
  rw [h1, decide_eq_true (by omega)]
  rfl
/-! ### __eq__ -/
/-- a recipe of old and rows -/
abbrev rcpD (a : Addr) (old : Int) (rs : List (List Int)) : D := .rcp a old (rowsD rs)
def REq (C : Addr) (a b : Addr) (H : Hp) : Prop := ∃ (old : Int) (rs : List (List Int)), Den C H (rcpD a old rs) (.ref a) ∧ Den C H (rcpD b old rs) (.ref b)
theorem REq.ext {C a b : Addr} {H H' : Hp} (e : Ext H H') (h : REq C a b H) : REq C a b H' := by
  obtain ⟨old, rs, h1, h2⟩ := h
  exact ⟨old, rs, Den.mono e _ _ h1, Den.mono e _ _ h2⟩
section
variable {P : Program} {w : World} {K : PySem.W.Frag} {mg : Str → Option Value} {base : Heap} {f C : Addr} {fd : FuncData}
theorem ty_rcp {H : Hp} {a dx : Addr} {fs : List (Str × V)} (rc : RcT K mg C) (h : H a = some (.ins C dx fs)) : TyX K H (.ref a) (.ref C) := .base (.ins h rc.cl rc.ha rc.hn rc.htk rc.hm)
theorem scEq : FnScope ["self", "other"] ["self", "other"] (defScope (meth 4)) := ⟨rfl, rfl, rfl, by decide +kernel, rfl, by decide +kernel, by decide +kernel⟩
theorem ok_eq (F : FnM K "__eq__" "Recipe.__eq__" 4 f fd) (fr : Fr mg) (rc : RcT K mg C) : FnOk P w K mg base CX0 1 f fd ["self", "other"] (spEq (REq C)) := by
  refine F.ok scEq (fun vs H Q E h => ?_) (fun cdv A outer s H vs Q E hr h => ?_)
  · obtain ⟨a, b, rfl, _⟩ := h
    rfl
  · obtain ⟨a, b, rfl, hR, q⟩ := h
    obtain ⟨old, rs, ⟨_, dx, fs, pr, h1, h2, h3, h4⟩, ⟨_, dx', fs', pr', k1, k2, k3, k4⟩⟩ := hR
    refine ⟨_, PSs.nox (pss_one (ps_ret (pe_and (pe_isiC fr.is_ rc.gC (pv 1)) (pe_and (pe_cmpR op_eq (pe_fld (f := "old") (pv 0) rfl) (pe_fld (f := "old") (pv 1) rfl) (nomark _))
      (pe_one (pe_cmpR (op_eqD hr.units) (pe_fld (f := "rows") (pv 0) rfl) (pe_fld (f := "rows") (pv 1) rfl) (nomark _))))))), ?_⟩
    have e1 : PyData.eqv (rowsP rs) (rowsP rs) = true := SeqAt.eqv_refl _ (SeqAt.canLay_of_shaped (shaped_rows rs))
    refine ⟨.ref b, rfl, .ref b, .ref C, .ref C, .ref C, true, rfl, .own C, ty_rcp rc k1, rc.own, true, rfl, iteT ?_⟩
    refine ⟨.ref a, rfl, a, C, dx, fs, .int old, rfl, h1, rc.cl, rc.nOld, h2, .ref b, rfl, b, C, dx', fs', .int old, rfl, k1, rc.cl, rc.nOld, k2, rfl, _, rfl, ?_⟩
    rw [decide_eq_true (rfl : V.int old = V.int old)]
    refine iteT ⟨.ref a, rfl, a, C, dx, fs, .ref pr, rfl, h1, rc.cl, rc.nRows, h3.1, .ref b, rfl, b, C, dx', fs', .ref pr', rfl, k1, rc.cl, rc.nRows, k3.1, rowsP rs, rowsP rs, dp_rows h4, dp_rows k4, shaped_rows rs, shaped_rows rs, ?_⟩
    rw [e1]
    exact q H Ext.rfl'
end
end G

/-! _law_same and _law_exact. -/
namespace G
open PySem PySem.Spec PyProof.Rows L2 Evl Tp RZ
/-- the type of what a tree tells of -/
def dTy (C : Addr) : D → Value
  | .flat v => .type (flatTy v)
  | .rcp _ _ _ => .ref C
  | .seq tp _ => .type (if tp = true then "tuple" else "list")
  | .dic _ _ => .type "dict"
def isB (d : D) (T : String) : Bool := match d with
  | .flat v => flatTy v == T
  | .rcp _ _ _ => false
  | .seq tp _ => (if tp = true then "tuple" else "list") == T
  | .dic _ _ => "dict" == T
def isIB (d : D) (T : String) : Bool := isB d T || (T == "int" && isB d "bool")
section
variable {P : Program} {w : World} {K : PySem.W.Frag} {mg : Str → Option Value} {base : Heap} {f C : Addr} {fd : FuncData} {H : Hp}
theorem ty_den (rc : RcT K mg C) : ∀ {d : D} {x : V}, Den C H d x → TyX K H x (dTy C d)
  | .flat v, x, ⟨h1, h2⟩ => by
    subst h1
    exact ty_flat h2
  | .rcp a old t, x, ⟨h1, dx, fs, pr, h2, _⟩ => by
    subst h1
    exact ty_rcp rc h2
  | .seq tp t, x, ⟨a, ys, h1, h2, _⟩ => by
    subst h1
    cases tp with
    | false => rcases h2 with h2 | ⟨o, h2⟩; exact .base (.lst h2); exact .base (.frz h2)
    | true => rcases h2 with h2 | ⟨o, h2⟩; exact .base (.tup h2); exact .fTuple h2
  | .dic ks t, x, ⟨a, ys, h1, h2, _⟩ => by
    subst h1
    exact .base (.dK h2)
theorem kits : ∀ T ∈ ["NoneType", "int", "bool", "list", "tuple", "dict", "str"], ∀ U ∈ ["int", "bool", "list", "tuple", "dict", "str"], kitB T U = some (T == U || (U == "int" && T == "bool")) := by decide +kernel
theorem flat_mem {v : V} (h : flatV v = true) : flatTy v ∈ ["NoneType", "int", "bool", "list", "tuple", "dict", "str"] := by
  cases v <;> first | (cases h; done) | (simp [flatTy])
/-- isinstance of a tree, by a built-in class -/
theorem kit_den (rc : RcT K mg C) {U : String} (hU : U ∈ ["int", "bool", "list", "tuple", "dict", "str"]) : ∀ {d : D} {x : V}, Den C H d x → PySem.W.kitOne K (dTy C d) (.type U) = some (isIB d U)
  | .flat v, x, ⟨h1, h2⟩ => kit_ty (kits _ (flat_mem h2) U hU)
  | .rcp a old t, x, h => by
    rw [show dTy C (.rcp a old t) = .ref C from rfl, rc.ins U hU]
    have : isIB (.rcp a old t) U = false := by show (false || (U == "int" && false)) = false; simp
    rw [this]
  | .seq tp t, x, _ => by
    cases tp with
    | false => exact kit_ty (kits "list" (by simp) U hU)
    | true => exact kit_ty (kits "tuple" (by simp) U hU)
  | .dic ks t, x, _ => kit_ty (kits "dict" (by simp) U hU)
theorem ev_isD {σ : L2.St} {te : TE} {d : D} {x : V} {U : String} (rc : RcT K mg C) (hd : Den C H d x) (h : Ev te σ H x) (hU : U ∈ ["int", "bool", "list", "tuple", "dict", "str"] := by decide) : Ev (tIsi K te (.ty U)) σ H (.bl (isIB d U)) :=
  ev_isi h (ty_den rc hd) (.ty U) (kit_den rc hU hd)
theorem ev_isLT {σ : L2.St} {te : TE} {d : D} {x : V} (rc : RcT K mg C) (hd : Den C H d x) (h : Ev te σ H x) : Ev (tCB (rIsiT K) (tCons te (tCons (tTup (tCons (tC (.ty "list")) (tCons (tC (.ty "tuple")) tNil))) tNil))) σ H (.bl (isIB d "list" || isIB d "tuple")) := by
  refine ev_isi2 h (ty_den rc hd) (.ty _) (.ty _) (kitAny_cons (b := isIB d "list") (kit_den rc (by decide) hd) (fun h => ?_) fun h => by rw [h]; rfl)
  refine kitAny_cons (b := isIB d "tuple") (kit_den rc (by decide) hd) (fun h' => ?_) fun h' => by rw [h']; simp
  rw [kitAny_nil, h, h']
  rfl
mutual
/-- a locked dict is no tree: what is a tree does not hang on it -/
theorem Den.unlock {a : Addr} {o : Obj} {u w' : HO} (ha : H a = some (.frz o (.dK []))  ∨ ∃ kvs, H a = some (.frz o (.dK kvs))) : ∀ (d : D) (x : V), Den C H d x → Den C (upd H a w') d x
  | .flat v, x, h => h
  | .rcp b old t, x, ⟨h1, dx, fs, pr, h2, h3, h4, h5⟩ => ⟨h1, dx, fs, pr, by
    have nb : b ≠ a := fun z => by
      subst z
      rcases ha with q | ⟨_, q⟩ <;> (rw [h2] at q; cases q)
    rw [upd_ne nb]
    exact h2, h3, h4, Den.unlock (u := u) ha t (.ref pr) h5⟩
  | .seq tp t, x, ⟨b, ys, h1, h2, h3⟩ => ⟨b, ys, h1, by
    have nb : b ≠ a := fun z => by
      subst z
      rcases h2 with h2 | ⟨_, h2⟩ <;> rcases ha with q | ⟨_, q⟩ <;> (rw [h2] at q; cases tp <;> cases q)
    unfold Rd
    rw [upd_ne nb]
    exact h2, DenL.unlock (u := u) ha t ys h3⟩
  | .dic ks t, x, ⟨b, ys, h1, h2, hl, hn, h3⟩ => ⟨b, ys, h1, by
    have nb : b ≠ a := fun z => by
      subst z
      rcases ha with q | ⟨_, q⟩ <;> (rw [h2] at q; cases q)
    rw [upd_ne nb]
    exact h2, hl, hn, DenL.unlock (u := u) ha t ys h3⟩
theorem DenL.unlock {a : Addr} {o : Obj} {u w' : HO} (ha : H a = some (.frz o (.dK []))  ∨ ∃ kvs, H a = some (.frz o (.dK kvs))) : ∀ (ds : List D) (xs : List V), DenL C H ds xs → DenL C (upd H a w') ds xs
  | [], xs, h => h
  | d :: ds, xs, ⟨y, r, h1, h2, h3⟩ => ⟨y, r, h1, Den.unlock (u := u) ha d y h2, DenL.unlock (u := u) ha ds r h3⟩
end
theorem paired_ex {H H' : Hp} (e : Ex H H') : ∀ {ps : List Addr} {kvs : List (Key × V)}, Paired (fun p (kv : Key × V) => SqT K H p [kV kv.1, kv.2]) ps kvs → Paired (fun p (kv : Key × V) => SqT K H' p [kV kv.1, kv.2]) ps kvs
  | _, _, .nil => .nil
  | _, _, .cons h t => .cons (ex_t e h) (paired_ex e t)
/-! ### _law_same -/
theorem scSm : FnScope ["_law_thing", "_law_key", "_law_item"] ["_law_thing"] (defScope (top 31)) := ⟨rfl, rfl, rfl, by decide +kernel, rfl, by decide +kernel, by decide +kernel⟩
def preSm (C : Addr) (n : Nat) (d : D) (vs : List V) (H : Hp) : Prop := ∃ x, vs = [x] ∧ Den C H d x ∧ dep d ≤ n ∧ siz d ≤ 30000
def postSm (C : Addr) (d : D) (v : V) (H : Hp) : Prop := Den C H d v
abbrev spSm (C : Addr) (n : Nat) : Sp := spP (preSm C n) (postSm C)
theorem seq_of {K : PySem.W.Frag} {H0 : Hp} {t : List D} {v : V} (h : LcP H0 t.length (fun i y H' => ∀ d, t[i]? = some d → Den C H' d y) v H) : Den C H (.seq false t) v := by
  obtain ⟨p, ys, rfl, _, h2, h3, h4⟩ := h
  exact ⟨p, ys, rfl, .inl h2, DenL.of t ys h3 fun i d x hd hx => h4 i x hx d hd⟩
theorem pairs_of {ks : List Key} : ∀ (n : Nat) (ys : List V) (t : List D), ys.length = (ks.drop n).length → t.length = ys.length → (∀ (i : Nat) (y : V), ys[i]? = some y → ∃ (T : Addr) (k : Key) (d : D) (v' : V), y = V.ref T ∧ (ks.drop n)[i]? = some k ∧ t[i]? = some d ∧ H T = some (.tup [kV k, v']) ∧ Den C H d v') →
    ∃ (ps : List Addr) (vs' : List V), ys = ps.map V.ref ∧ Paired (fun p (kv : Key × V) => SqT K H p [kV kv.1, kv.2]) ps ((ks.drop n).zip vs') ∧ vs'.length = ys.length ∧ DenL C H t vs'
  | n, [], t, h1, h2, _ => ⟨[], [], rfl, by
      have : ks.drop n = [] := List.length_eq_zero_iff.mp h1.symm
      rw [this]; exact .nil, rfl, by
      have : t = [] := List.length_eq_zero_iff.mp h2
      rw [this]; rfl⟩
  | n, y :: ys, [], h1, h2, _ => by cases h2
  | n, y :: ys, d :: t, h1, h2, h => by
    obtain ⟨T, k, d', v', rfl, hk, hd, hT, hv⟩ := h 0 y rfl
    have ed : d = d' := by simpa using hd
    subst ed
    have hn : n < ks.length := by
      rw [List.length_drop, List.length_cons] at h1
      omega
    have ek : ks.drop n = k :: ks.drop (n + 1) := by
      rw [List.drop_eq_getElem_cons hn]
      rw [List.getElem?_drop, Nat.add_zero, List.getElem?_eq_getElem hn] at hk
      rw [Option.some.inj hk]
    obtain ⟨ps, vs', e1, e2, e3, e4⟩ := pairs_of (n + 1) ys t (by rw [ek] at h1; simpa using h1) (by simpa using h2) fun i y hy => by
      obtain ⟨T, k, d, v', q1, q2, q3, q4, q5⟩ := h (i + 1) y (by simpa using hy)
      rw [ek] at q2
      exact ⟨T, k, d, v', q1, by simpa using q2, by simpa using q3, q4, q5⟩
    rw [ek]
    exact ⟨T :: ps, v' :: vs', by rw [e1]; rfl, .cons (.inl (.inl hT)) e2, by simp [e3], v', vs', rfl, hv, e4⟩
theorem step_same (F : FnT K "_law_same" 31 f fd) (fr : Fr mg) (rc : RcT K mg C) (n : Nat) (IH : ∀ m, n = m + 1 → Kp P w K mg base CX0 (m + 1) "_law_same" ["_law_thing"] (spSm C m)) : FnOk P w K mg base CX0 (n + 1) f fd ["_law_thing"] (spSm C n) := by
    refine okP F scSm (fun d vs H h => ?_) (fun cdv A outer s H1 vs E d H hr h => ?_)
    · obtain ⟨x, rfl, _⟩ := h
      rfl
    · obtain ⟨x, rfl, hd, hn, hz⟩ := h
      cases d with
      | flat v =>
        refine ⟨_, PSs.nox (pss_cons (ps_if (pt_val (pe_isi fr.is_ fr.dict_ bt_dict (pv 0))) pss_never pss_nil) (pss_cons (ps_if (pt_val (pe_isi fr.is_ fr.list_ bt_list (pv 0))) pss_never pss_nil) (pss_one (ps_ret (pe_ifExp (pt_val (pe_isi fr.is_ fr.tuple_ bt_tuple (pv 0))) (pe_never) (pv 0)))))), ?_⟩
        have hf := hd.2
        have hi : ∀ U ∈ ["list", "tuple", "dict"], isIB (.flat v) U = false := fun U hU => by
          cases v <;> first | (cases hf; done) | (simp at hU; rcases hU with rfl | rfl | rfl <;> rfl)
        have ev : ∀ {U : String} (hU : U ∈ ["list", "tuple", "dict"]) (hU' : U ∈ ["int", "bool", "list", "tuple", "dict", "str"]), EvT (tB (tIsi K (tVar 0) (.ty U))) (start ["_law_thing", "_law_key", "_law_item"] [x]) H false := fun {U} hU hU' => by
          have := et_B (ev_isD (σ := start ["_law_thing", "_law_key", "_law_item"] [x]) (te := tVar 0) rc hd (ev_var rfl) hU')
          rw [hi U hU] at this
          exact this
        refine sv_when (ev (by decide) (by decide)) (fun z => nomatch z) fun _ => sv_when (ev (by decide) (by decide)) (fun z => nomatch z) fun _ => sv_ret (ep_if (ev (by decide) (by decide)) (fun z => nomatch z) fun _ => ep_var rfl hd)
      | rcp a old t =>
        refine ⟨_, PSs.nox (pss_cons (ps_if (pt_val (pe_isi fr.is_ fr.dict_ bt_dict (pv 0))) pss_never pss_nil) (pss_cons (ps_if (pt_val (pe_isi fr.is_ fr.list_ bt_list (pv 0))) pss_never pss_nil) (pss_one (ps_ret (pe_ifExp (pt_val (pe_isi fr.is_ fr.tuple_ bt_tuple (pv 0))) (pe_never) (pv 0)))))), ?_⟩
        have ev : ∀ {U : String} (hU' : U ∈ ["int", "bool", "list", "tuple", "dict", "str"]) (hU : isIB (.rcp a old t) U = false), EvT (tB (tIsi K (tVar 0) (.ty U))) (start ["_law_thing", "_law_key", "_law_item"] [x]) H false := fun {U} hU' hU => by
          have := et_B (ev_isD (σ := start ["_law_thing", "_law_key", "_law_item"] [x]) (te := tVar 0) rc hd (ev_var rfl) hU')
          rw [hU] at this
          exact this
        refine sv_when (ev (by decide) rfl) (fun z => nomatch z) fun _ => sv_when (ev (by decide) rfl) (fun z => nomatch z) fun _ => sv_ret (ep_if (ev (by decide) rfl) (fun z => nomatch z) fun _ => ep_var rfl hd)
      | seq tp t =>
          have hn' : depL t + 1 ≤ n := hn
          obtain ⟨m, rfl⟩ : ∃ m, n = m + 1 := ⟨n - 1, by omega⟩
          have IH := IH m rfl
          have hz' : sizL t < 30000 := by have : siz (.seq tp t) = sizL t + 1 := rfl; omega
          obtain ⟨a, ys, rfl, h2, h3⟩ := hd
          have hl := DenL.len t ys h3
          have hl2 := sizL_len t
          have hd : Den C H (.seq tp t) (.ref a) := ⟨a, ys, rfl, h2, h3⟩
          have ev : ∀ {U : String} {b : Bool} (hU' : U ∈ ["int", "bool", "list", "tuple", "dict", "str"]) (hU : isIB (.seq tp t) U = b), EvT (tB (tIsi K (tVar 0) (.ty U))) (start ["_law_thing", "_law_key", "_law_item"] [.ref a]) H b := fun {U b} hU' hU => by
            have := et_B (ev_isD (σ := start ["_law_thing", "_law_key", "_law_item"] [.ref a]) (te := tVar 0) rc hd (ev_var rfl) hU')
            rw [hU] at this
            exact this
          have item : ∀ (i : Nat) (x : V) (H' : Hp), Ex H H' → ys[i]? = some x → EvP (tCall (spSm C m) [] E0 (tCons (tVar 2) tNil)) ((wipe (start ["_law_thing", "_law_key", "_law_item"] [.ref a]) [2]).set 2 (some x)) H' (fun y H' => ∀ d, t[i]? = some d → Den C H' d y) := fun i x H' e hx => by
            obtain ⟨d, hd1, hd2⟩ := DenL.get t ys h3 i x hx
            obtain ⟨k1, k2⟩ := dep_get t i d hd1
            refine ep_callA (ea_cons (ev_var rfl) ea_nil) (gv_spP d ⟨x, rfl, Den.mono e d x hd2, by omega, by omega⟩ fun y H3 e4 hp d' hd' => ?_)
            rw [hd1] at hd'
            cases hd'
            exact hp
          cases tp with
          | false =>
            refine ⟨_, PSs.nox (pss_cons (ps_if (pt_val (pe_isi fr.is_ fr.dict_ bt_dict (pv 0))) pss_never pss_nil) (pss_cons (ps_if (pt_val (pe_isi fr.is_ fr.list_ bt_list (pv 0)))
              (pss_one (ps_ret (pe_lc (own := [("_law_item", 2)]) (g := gName 2) (tt := tYes) rfl scSm.nd (pi_list (pv 0)) (blkOk_by (N := ["_law_thing", "_law_key", "_law_item"]) (sc := defScope (top 31)) (by decide +kernel)) (fun _ _ _ _ _ => pg_name (i := 2) scSm.nd rfl (Or.inl rfl)) (fun _ _ _ _ _ => pts_nil) (fun _ _ _ _ _ => pe_cl IH hr (pa_cons (pv 2) pa_nil))))) pss_nil) pss_never)), ?_⟩
            refine sv_when (ev (by decide) rfl) (fun z => nomatch z) fun _ => sv_when (ev (by decide) rfl) (fun _ => sv_ret ?_) (fun z => nomatch z)
            refine Gv.imp (ep_lcL (fun i y H' => ∀ d, t[i]? = some d → Den C H' d y) (fun i v A B e h d hd => Den.mono e d v (h d hd)) (ev_var rfl) (.inl h2) (by omega) (fun x => rfl) item) fun v H' e h => ?_
            rw [hl] at h
            exact seq_of (K := K) h
          | true =>
            have h2' : Rd H a (.tup ys) := h2
            refine ⟨_, PSs.nox (pss_cons (ps_if (pt_val (pe_isi fr.is_ fr.dict_ bt_dict (pv 0))) pss_never pss_nil) (pss_cons (ps_if (pt_val (pe_isi fr.is_ fr.list_ bt_list (pv 0))) pss_never pss_nil) (pss_one (ps_ret (pe_ifExp (pt_val (pe_isi fr.is_ fr.tuple_ bt_tuple (pv 0)))
              (pe_callTy call_tuple_of rfl fr.tuple_ bt_tuple (pa_cons (pe_lc (own := [("_law_item", 2)]) (g := gName 2) (tt := tYes) rfl scSm.nd (pi_tup (pv 0)) (blkOk_by (N := ["_law_thing", "_law_key", "_law_item"]) (sc := defScope (top 31)) (by decide +kernel)) (fun _ _ _ _ _ => pg_name (i := 2) scSm.nd rfl (Or.inl rfl)) (fun _ _ _ _ _ => pts_nil) (fun _ _ _ _ _ => pe_cl IH hr (pa_cons (pv 2) pa_nil))) pa_nil)) (pv 0)))))), ?_⟩
            refine sv_when (ev (by decide) rfl) (fun z => nomatch z) fun _ => sv_when (ev (by decide) rfl) (fun z => nomatch z) fun _ => sv_ret (ep_if (ev (by decide) rfl) (fun _ => ?_) (fun z => nomatch z))
            refine ep_cb1 (ep_lcT (fun i y H' => ∀ d, t[i]? = some d → Den C H' d y) (fun i v A B e h d hd => Den.mono e d v (h d hd)) (ev_var rfl) h2' (by omega) (fun x => rfl) item) fun v H' e h => ?_
            obtain ⟨p, zs, rfl, _, k2, k3, k4⟩ := h
            refine gv_tupL (.inl (.inl k2)) fun l hl' => ⟨l, zs, rfl, .inl upd_same, DenL.of t zs (by omega) fun i d x hd' hx => Den.mono (Ex.new hl') d x (k4 i x hx d hd')⟩
      | dic ks t =>
          have hn' : depL t + 2 ≤ n := hn
          obtain ⟨m, rfl⟩ : ∃ m, n = m + 1 := ⟨n - 1, by omega⟩
          have IH := IH m rfl
          have hz' : sizL t < 30000 := by have : siz (.dic ks t) = sizL t + 1 := rfl; omega
          obtain ⟨a, ys, rfl, h2, hl, hnd, h3⟩ := hd
          have hd : Den C H (.dic ks t) (.ref a) := ⟨a, ys, rfl, h2, hl, hnd, h3⟩
          have hl1 := DenL.len t ys h3
          have hl2 := sizL_len t
          have hzl : (ks.zip ys).length = ks.length := by rw [List.length_zip]; omega
          have ev : ∀ {U : String} {b : Bool} (hU' : U ∈ ["int", "bool", "list", "tuple", "dict", "str"]) (hU : isIB (.dic ks t) U = b), EvT (tB (tIsi K (tVar 0) (.ty U))) (start ["_law_thing", "_law_key", "_law_item"] [.ref a]) H b := fun {U b} hU' hU => by
            have := et_B (ev_isD (σ := start ["_law_thing", "_law_key", "_law_item"] [.ref a]) (te := tVar 0) rc hd (ev_var rfl) hU')
            rw [hU] at this
            exact this
          have hu : A.units + 3 + 1 < cLine := by have := hr.un; have e : (A.deeper (envOfC "_law_same" (defScope (top 31)) s.heap.objs.size f cdv)).units = A.units + 3 := rfl; omega
          refine ⟨_, PSs.nox (pss_cons (ps_if (pt_val (pe_isi fr.is_ fr.dict_ bt_dict (pv 0)))
              (pss_one (ps_ret (pe_callTy (call_dictP rfl) rfl fr.dict_ bt_dict (pa_cons (pe_lock (pe_lc (own := [("_law_key", 1)]) (g := gName 1) (tt := tYes) rfl scSm.nd (pi_keys (pv 0)) (blkOk_by (N := ["_law_thing", "_law_key", "_law_item"]) (sc := defScope (top 31)) (by decide +kernel)) (fun _ _ _ _ _ => pg_name (i := 1) scSm.nd rfl (Or.inl rfl)) (fun _ _ _ _ _ => pts_nil)
                (fun _ _ _ _ _ => pe_tup (pa_cons (pv 1) (pa_cons (pe_cl IH hr (pa_cons (pe_dget (hu_of hr) (pv 0) (pv 1) (fun _ _ => rfl)) pa_nil)) pa_nil))))) pa_nil)))) pss_nil) pss_never), ?_⟩
          refine sv_when (ev (by decide) rfl) (fun _ => sv_ret ?_) (fun z => nomatch z)
          let Rr : Nat → V → Hp → Prop := fun i y H' => ∃ T k d v', y = V.ref T ∧ ks[i]? = some k ∧ t[i]? = some d ∧ H' T = some (.tup [kV k, v']) ∧ Den C H' d v'
          have stab : ∀ i v A B, Ex A B → Rr i v A → Rr i v B := fun i v A B e ⟨T, k, d, v', q1, q2, q3, q4, q5⟩ => ⟨T, k, d, v', q1, q2, q3, e _ _ q4, Den.mono e _ _ q5⟩
          refine ep_cb1 (P1 := LcP H ks.length Rr) (ep_lock (P := fun v H' => ∃ od, H' a = some (.frz od (.dK (ks.zip ys))) ∧ LcP (upd H a (.frz od (.dK (ks.zip ys)))) ks.length Rr v H') h2 trivial (fun od => ?_) (fun v H' od e h => ?_)) fun v H' e h => ?_
          · refine Gv.imp (ep_lcK (kvs := ks.zip ys) (o := od) Rr stab (ev_var rfl) upd_same (by omega) (fun x => rfl) fun i k v H' e hk => ?_) fun v H' e h => ⟨od, e _ _ upd_same, ?_⟩
            · have hi : i < ks.length := by have := (List.getElem?_eq_some_iff.mp hk).1; omega
              have hki : ks[i]? = some k ∧ ys[i]? = some v := by
                rw [List.getElem?_zip_eq_some] at hk
                exact hk
              obtain ⟨d, hd1, hd2⟩ := DenL.get t ys h3 i v hki.2
              obtain ⟨k1, k2⟩ := dep_get t i d hd1
              have hd3 : Den C (upd H a (.frz od (.dK (ks.zip ys)))) d v := Den.keep hd d v hd2 (by have : siz (.dic ks t) = sizL t + 1 := rfl; omega)
              refine ep_tup (vs := []) (P1 := fun vs H' => ∃ v', vs = [kV k, v'] ∧ Den C H' d v') (epa_cons (P1 := Eqv (kV k)) (ep_var (by cases k <;> rfl) rfl) fun v1 H2 e2 hv1 => epa_cons (P1 := fun v' H' => Den C H' d v') (ep_call1 (P1 := Eqv v) (fun H3 e3 Q q => ⟨.ref a, rfl, kV k, by cases k <;> rfl, a, v, rfl, ?_, q v H2 H3 (Step.refl e3) rfl⟩) fun v2 H3 e3 hv2 => gv_spP d ⟨v2, rfl, by rw [show v2 = v from hv2]; exact Den.mono ((e.trans e2).trans e3) _ _ hd3, by omega, by omega⟩ fun v3 H4 e4 hv3 => hv3)
                fun v' H3 e3 hv' => epa_nil ⟨v', by rw [show v1 = kV k from hv1], hv'⟩) (fun vs H2 hh => ?_) fun vs H2 T e2 hh hT => ?_
              · exact .inl ⟨ks.zip ys, k, .inr ⟨od, (e.trans e2).trans e3 |> fun z => z _ _ upd_same⟩, rfl, (valV_zip ks ys hl hnd i k v hki.1 hki.2).symm⟩
              · obtain ⟨v', rfl, _⟩ := hh
                show 2 ≤ 100000
                decide
              · obtain ⟨v', rfl, hv'⟩ := hh
                exact ⟨T, k, d, v', rfl, hki.1, hd1, upd_same, Den.mono (Ex.new hT) _ _ hv'⟩
            · rw [hzl] at h
              exact h
          · obtain ⟨od', _, p, zs, rfl, k1, k2, k3, k4⟩ := h
            have npa : p ≠ a := fun z => by rw [z, upd_same] at k1; cases k1
            refine ⟨p, zs, rfl, by rw [← k1, upd_ne npa], by rw [upd_ne npa]; exact k2, k3, fun i y hy => ?_⟩
            obtain ⟨T, k, d, v', q1, q2, q3, q4, q5⟩ := k4 i y hy
            have hda : Den C (upd H a (.frz od (.dK (ks.zip ys)))) d v' → True := fun _ => trivial
            have nTa : T ≠ a := fun z => by
              rw [z, e _ _ upd_same] at q4
              cases q4
            refine ⟨T, k, d, v', q1, q2, q3, by rw [upd_ne nTa]; exact q4, ?_⟩
            -- the item's tree does not hang on a: a holds no tree there
            exact Den.unlock (u := .lst []) (.inr ⟨_, e _ _ upd_same⟩) d v' q5
          · obtain ⟨p, zs, rfl, k1, k2, k3, k4⟩ := h
            obtain ⟨ps, vs', e1, e2, e3, e4⟩ := pairs_of (H := H') (K := K) (C := C) (ks := ks) 0 zs t (by simpa using k3) (by omega) fun i y hy => by rw [List.drop_zero]; exact k4 i y hy
            refine fun H1 e0 Q q => ⟨p, ps, ks.zip vs', rfl, .inl (.inl (by rw [← e1]; exact e0 _ _ k2)), ?_, fun D hD => q _ (upd H' D (.dK (mergeK [] (ks.zip vs')))) _ (Step.new e0 hD) ?_⟩
            · rw [List.drop_zero] at e2
              exact paired_ex e0 e2
            · have hlv : ks.length = vs'.length := by omega
              rw [mergeK_app _ [] (by rw [List.nil_append, zip_keys ks vs' hlv]; exact hnd)]
              exact ⟨D, vs', rfl, upd_same, hlv, hnd, DenL.mono (Ex.new (fresh_back e0 hD)) _ _ e4⟩
theorem ok_same (F : FnT K "_law_same" 31 f fd) (hgf : mg "_law_same" = some (.ref f)) (fr : Fr mg) (rc : RcT K mg C) (n : Nat) : FnOk P w K mg base CX0 (n + 1) f fd ["_law_thing"] (spSm C n) := by
  have bS : Binds K fd ["_law_thing"] [] := F.bindsN fun _ _ _ _ _ _ us hl => match us, hl with | [_], _ => rfl
  induction n with
  | zero => exact step_same F fr rc 0 fun m h => by omega
  | succ m ih =>
    refine step_same F fr rc (m + 1) fun m' h => ?_
    have e : m = m' := by omega
    subst e
    exact ⟨f, fd, ih, hgf, F.kp, bS⟩
end
end G

/-! _law_exact. -/
namespace G
open PySem PySem.Spec PyProof.Rows L2 Evl Tp RZ
abbrev nEx : List Str := ["_law_mine", "_law_theirs", "_law_alike", "_law_a", "_law_b", "_law_key"]
theorem scEx : FnScope nEx ["_law_mine", "_law_theirs"] (defScope (top 32)) := ⟨rfl, rfl, rfl, by decide +kernel, rfl, by decide +kernel, by decide +kernel⟩
def preEx (C : Addr) (n : Nat) (d : D) (vs : List V) (H : Hp) : Prop := ∃ x y, vs = [x, y] ∧ Den C H d x ∧ Den C H d y ∧ dep d ≤ n ∧ okD d ∧ siz d ≤ 30000
def postT : D → V → Hp → Prop := fun _ v _ => v = .bl true
abbrev spEx (C : Addr) (n : Nat) : Sp := spP (preEx C n) postT
section
variable {P : Program} {w : World} {K : PySem.W.Frag} {mg : Str → Option Value} {base : Heap} {f C fe : Addr} {fd fde : FuncData} {H : Hp}
theorem ev_eqB {σ : L2.St} {ta tb : TE} {x y : Bool} (ha : Ev ta σ H (.bl x)) (hb : Ev tb σ H (.bl y)) (e : x = y) : Ev (tOp rEq ta tb) σ H (.bl true) := by
  subst e
  have := ev_op ha hb (rv_eq (H := H) (x := .bl x) (y := .bl x) rfl)
  rw [decide_eq_true rfl] at this
  exact this
theorem scal_flat {v : V} (h : flatV v = true) : scal v v = true := by cases v <;> first | (cases h; done) | rfl
theorem ev_andT {σ : L2.St} {ta tb : TE} (h1 : Ev ta σ H (.bl true)) (h2 : Ev tb σ H (.bl true)) : Ev (tAndV ta tb) σ H (.bl true) := ev_andV h1 fun _ => h2
theorem den_keys {ks : List Key} {p : Addr} (h : H p = some (.lst (ks.map kV))) : Den C H (.seq false (ks.map fun k => .flat (kV k))) (.ref p) := by
  refine ⟨p, ks.map kV, rfl, .inl h, DenL.of _ _ (by simp) fun i d x hd hx => ?_⟩
  rw [List.getElem?_map] at hd hx
  cases q : ks[i]? with
  | none => rw [q] at hd; cases hd
  | some k =>
    rw [q] at hd hx
    cases hd
    cases hx
    exact ⟨rfl, by cases k <;> rfl⟩
theorem keysD_ok : ∀ ks : List Key, depL (ks.map fun k => D.flat (kV k)) = 0 ∧ okDL (ks.map fun k => D.flat (kV k)) ∧ sizL (ks.map fun k => D.flat (kV k)) = ks.length
  | [] => ⟨rfl, trivial, rfl⟩
  | k :: ks => by
    obtain ⟨h1, h2, h3⟩ := keysD_ok ks
    refine ⟨?_, ⟨trivial, h2⟩, ?_⟩
    · show max 0 (depL (ks.map fun k => D.flat (kV k))) = 0
      rw [h1]
      rfl
    · show 1 + sizL (ks.map fun k => D.flat (kV k)) = (k :: ks).length
      rw [h3, List.length_cons]
      omega
theorem step_exact (F : FnT K "_law_exact" 32 f fd) (Fe : FnM K "__eq__" "Recipe.__eq__" 4 fe fde) (hse : PySem.W.findIn K (.ref C) "__eq__" = some (some (.ref fe))) (hfe : PySem.W.isFn K (.ref fe) = true) (fr : Fr mg) (rc : RcT K mg C) (n : Nat)
    (IH : ∀ m, n = m + 1 → Kp P w K mg base CX0 (m + 2) "_law_exact" ["_law_mine", "_law_theirs"] (spEx C m)) : FnOk P w K mg base CX0 (n + 2) f fd ["_law_mine", "_law_theirs"] (spEx C n) := by
  have Ge : FnOk P w K mg base CX0 1 fe fde ["self", "other"] (spEq (REq C)) := ok_eq Fe fr rc
  have be : Binds K fde ["self", "other"] [] := Fe.bindsN fun _ _ _ _ _ _ us hl => match us, hl with | [_, _], _ => rfl
  refine okP F scEx (fun d vs H h => ?_) (fun cdv A outer s H1 vs E d H hr h => ?_)
  · obtain ⟨x, y, rfl, _⟩ := h
    rfl
  · obtain ⟨x, y, rfl, hx, hy, hn, ho, hz⟩ := h
    have ev : ∀ {σ : L2.St} {i : Nat} {z : V} (_ : σ[i]? = some (some z)) (_ : Den C H d z) {U : String} (_ : U ∈ ["int", "bool", "list", "tuple", "dict", "str"]), Ev (tIsi K (tVar i) (.ty U)) σ H (.bl (isIB d U)) := fun {σ i z} hi hz {U} hU => ev_isD rc hz (ev_var hi) hU
    have evLT : EvT (tB (tCB (rIsiT K) (tCons (tVar 0) (tCons (tTup (tCons (tC (.ty "list")) (tCons (tC (.ty "tuple")) tNil))) tNil)))) (start nEx [x, y]) H (isIB d "list" || isIB d "tuple") := et_B (ev_isLT rc hx (ev_var rfl))
    have evD : EvT (tB (tIsi K (tVar 0) (.ty "dict"))) (start nEx [x, y]) H (isIB d "dict") := et_B (ev rfl hx (by decide))
    have LT : ∀ {X : Cx} {p1 p2 p3 p4 p5 p6 : Pos} {kk : Nat}, True := trivial
    -- the last return, whatever == is
    have last : ∀ {r : R2} (b : Bool) (hb : (isIB d "list" || isIB d "tuple") = false) (hb2 : isIB d "dict" = false) (hq : Ev (tOp r (tVar 0) (tVar 1)) ((start nEx [x, y]).set 2 (some (.bl true))) H (.bl true)),
        Sv (tSeq (tIfS (tB (tCB (rIsiT K) (tCons (tVar 0) (tCons (tTup (tCons (tC (.ty "list")) (tCons (tC (.ty "tuple")) tNil))) tNil)))) tNever tNext) (tSeq (tIfS (tB (tIsi K (tVar 0) (.ty "dict"))) tNever tNext)
          (tSeq (tAsg (tOp rEq (tIsi K (tVar 0) (.ty "int")) (tIsi K (tVar 1) (.ty "int"))) (gName 2)) (tRet (tAndV (tVar 2) (tAndV (tOp rEq (tIsi K (tVar 0) (.ty "bool")) (tIsi K (tVar 1) (.ty "bool"))) (tOp r (tVar 0) (tVar 1)))))))) (start nEx [x, y]) H (fun _ H' => postT d .non H') (postT d) := fun {r} b hb hb2 hq => by
      rw [hb] at evLT
      rw [hb2] at evD
      refine sv_when evLT (fun z => nomatch z) fun _ => sv_when evD (fun z => nomatch z) fun _ => ?_
      have q : Sv (tRet (tAndV (tVar 2) (tAndV (tOp rEq (tIsi K (tVar 0) (.ty "bool")) (tIsi K (tVar 1) (.ty "bool"))) (tOp r (tVar 0) (tVar 1))))) ((start nEx [x, y]).set 2 (some (.bl true))) H (fun _ H' => postT d .non H') (postT d) :=
        sv_ret (ep_of (ev_andT (ev_var rfl) (ev_andT (ev_eqB (ev rfl hx (by decide)) (ev rfl hy (by decide)) rfl) hq)))
      intro H1 e D dn dr
      exact ev_eqB (ev (i := 0) rfl hx (by decide)) (ev (i := 1) rfl hy (by decide)) rfl H1 e _ fun H2 e2 => q H2 (e.trans e2) D (fun σ' H' H3 s2 => dn σ' H' H3 ((Step.ex e e2).trans s2)) fun v H' H3 s2 => dr v H' H3 ((Step.ex e e2).trans s2)
    cases d with
    | flat v =>
      refine ⟨_, PSs.nox (pss_cons (ps_if (pt_val (pe_callB call_isiT rfl fr.is_ bt_is (pa_cons (pv 0) (pa_cons (pe_tup (pa_cons (pe_bltn (v := .ty "list") rfl fr.list_ bt_list rfl) (pa_cons (pe_bltn (v := .ty "tuple") rfl fr.tuple_ bt_tuple rfl) pa_nil))) pa_nil)))) pss_never pss_nil)
        (pss_cons (ps_if (pt_val (pe_isi fr.is_ fr.dict_ bt_dict (pv 0))) pss_never pss_nil)
        (pss_cons (ps_set (i := 2) scEx.nd rfl (.inl rfl) (pe_cmpR op_eq (pe_isi fr.is_ fr.int_ bt_int (pv 0)) (pe_isi fr.is_ fr.int_ bt_int (pv 1)) (nomark _)))
        (pss_one (ps_ret (pe_and (pv 2) (pe_and (pe_cmpR op_eq (pe_isi fr.is_ fr.bool_ bt_bool (pv 0)) (pe_isi fr.is_ fr.bool_ bt_bool (pv 1)) (nomark _)) (pe_one (pe_cmpR op_eq (pv 0) (pv 1) (nomark _)))))))))), ?_⟩
      obtain ⟨rfl, hf⟩ := hx
      obtain ⟨rfl, _⟩ := hy
      have hi : ∀ U ∈ ["list", "tuple", "dict"], isIB (.flat y) U = false := fun U hU => by
        cases y <;> first | (cases hf; done) | (simp at hU; rcases hU with rfl | rfl | rfl <;> rfl)
      refine last true (by rw [hi "list" (by decide), hi "tuple" (by decide)]; rfl) (hi "dict" (by decide)) ?_
      have := ev_op (σ := (L2.start nEx [y, y]).set 2 (some (.bl true))) (H := H) (ta := tVar 0) (tb := tVar 1) (ev_var rfl) (ev_var rfl) (rv_eq (H := H) (scal_flat hf))
      rw [decide_eq_true rfl] at this
      exact this
    | rcp a old t =>
      have hr1 : Room 1 (A.deeper (envOfC "_law_exact" (defScope (top 32)) s.heap.objs.size f cdv)) := hr.mono (by omega)
      refine ⟨_, PSs.nox (pss_cons (ps_if (pt_val (pe_callB call_isiT rfl fr.is_ bt_is (pa_cons (pv 0) (pa_cons (pe_tup (pa_cons (pe_bltn (v := .ty "list") rfl fr.list_ bt_list rfl) (pa_cons (pe_bltn (v := .ty "tuple") rfl fr.tuple_ bt_tuple rfl) pa_nil))) pa_nil)))) pss_never pss_nil)
        (pss_cons (ps_if (pt_val (pe_isi fr.is_ fr.dict_ bt_dict (pv 0))) pss_never pss_nil)
        (pss_cons (ps_set (i := 2) scEx.nd rfl (.inl rfl) (pe_cmpR op_eq (pe_isi fr.is_ fr.int_ bt_int (pv 0)) (pe_isi fr.is_ fr.int_ bt_int (pv 1)) (nomark _)))
        (pss_one (ps_ret (pe_and (pv 2) (pe_and (pe_cmpR op_eq (pe_isi fr.is_ fr.bool_ bt_bool (pv 0)) (pe_isi fr.is_ fr.bool_ bt_bool (pv 1)) (nomark _)) (pe_one (pe_cmpR (op_eqG (rcG_ins Ge hse hfe be pass0) hr1) (pv 0) (pv 1) (nomark _)))))))))), ?_⟩
      refine last true rfl rfl ?_
      obtain ⟨rs, rfl⟩ := ho
      obtain ⟨rfl, dx, fs, pr, h2, h3, h4, h5⟩ := hx
      obtain ⟨rfl, _⟩ := hy
      refine fun H1 e Q q => ⟨.ref a, rfl, .ref a, rfl, ⟨a, a, dx, dx, fs, fs, rfl, rfl, e _ _ h2, e _ _ h2, old, rs, ⟨rfl, dx, fs, pr, e _ _ h2, h3, h4, Den.mono e _ _ h5⟩, ⟨rfl, dx, fs, pr, e _ _ h2, h3, h4, Den.mono e _ _ h5⟩⟩, fun H' e' => q H' e'⟩
    | seq tp t =>
      have hn' : depL t + 1 ≤ n := hn
      obtain ⟨m, rfl⟩ : ∃ m, n = m + 1 := ⟨n - 1, by omega⟩
      have IH := IH m rfl
      have hz' : sizL t < 30000 := by have : siz (.seq tp t) = sizL t + 1 := rfl; omega
      obtain ⟨a, xs, rfl, h2, h3⟩ := hx
      obtain ⟨b, ys, rfl, k2, k3⟩ := hy
      have hx : Den C H (.seq tp t) (.ref a) := ⟨a, xs, rfl, h2, h3⟩
      have hy : Den C H (.seq tp t) (.ref b) := ⟨b, ys, rfl, k2, k3⟩
      have l1 := DenL.len t xs h3
      have l2 := DenL.len t ys k3
      have l3 := sizL_len t
      refine ⟨_, PSs.nox (pss_cons (ps_if (pt_val (pe_callB call_isiT rfl fr.is_ bt_is (pa_cons (pv 0) (pa_cons (pe_tup (pa_cons (pe_bltn (v := .ty "list") rfl fr.list_ bt_list rfl) (pa_cons (pe_bltn (v := .ty "tuple") rfl fr.tuple_ bt_tuple rfl) pa_nil))) pa_nil))))
        (pss_cons (ps_set (i := 2) scEx.nd rfl (.inl rfl) (pe_and (pe_cmpR op_eq (pe_isi fr.is_ fr.list_ bt_list (pv 1)) (pe_isi fr.is_ fr.list_ bt_list (pv 0)) (nomark _)) (pe_one (pe_cmpR op_eq (pe_isi fr.is_ fr.tuple_ bt_tuple (pv 1)) (pe_isi fr.is_ fr.tuple_ bt_tuple (pv 0)) (nomark _)))))
        (pss_one (ps_ret (pe_and (pv 2) (pe_and (pe_cmpR op_eq (pe_callB call_len_seq rfl fr.len_ bt_len (pa_cons (pv 0) pa_nil)) (pe_callB call_len_seq rfl fr.len_ bt_len (pa_cons (pv 1) pa_nil)) (nomark _)) (pe_one (pe_callB (cr_all rfl) rfl fr.all_ bt_all
          (pa_cons (pe_lc (own := [("_law_a", 3), ("_law_b", 4)]) (g := gTup _ 2 (gCons (gName 3) (gCons (gName 4) gNil))) (tt := tYes) rfl scEx.nd (pi_zipA rfl fr.zip_ (pa_cons (pv 0) (pa_cons (pv 1) pa_nil))) (blkOk_by (N := nEx) (sc := defScope (top 32)) (by decide +kernel))
            (fun _ _ _ _ _ => pg_tup rfl (pgs_cons (pg_name (i := 3) scEx.nd rfl (Or.inl rfl)) (pgs_cons (pg_name (i := 4) scEx.nd rfl (Or.inl rfl)) pgs_nil))) (fun _ _ _ _ _ => pts_nil) (fun _ _ _ _ _ => pe_cl IH hr (pa_cons (pv 3) (pa_cons (pv 4) pa_nil)))) pa_nil)))))))) pss_nil) pss_never), ?_⟩
      have eb : (isIB (.seq tp t) "list" || isIB (.seq tp t) "tuple") = true := by cases tp <;> rfl
      rw [eb] at evLT
      refine sv_when evLT (fun _ => ?_) (fun z => nomatch z)
      refine sv_set (ep_of (ev_andT (ev_eqB (ev rfl hy (by decide)) (ev rfl hx (by decide)) rfl) (ev_eqB (ev rfl hy (by decide)) (ev rfl hx (by decide)) rfl))) fun v H' e hv => ?_
      cases (show v = .bl true from hv)
      have sX : SqL K H a xs ∨ SqT K H a xs := by cases tp; exact .inl (.inl h2); exact .inr (.inl h2)
      have sY : SqL K H b ys ∨ SqT K H b ys := by cases tp; exact .inl (.inl k2); exact .inr (.inl k2)
      have evl : Ev (tOp rEq (tCB (fun zs H1 Q => ∃ p us, zs = [.ref p] ∧ (SqL K H1 p us ∨ SqT K H1 p us) ∧ Q (.int us.length) H1) (tCons (tVar 0) tNil)) (tCB (fun zs H1 Q => ∃ p us, zs = [.ref p] ∧ (SqL K H1 p us ∨ SqT K H1 p us) ∧ Q (.int us.length) H1) (tCons (tVar 1) tNil)))
          ((start nEx [.ref a, .ref b]).set 2 (some (.bl true))) H' (.bl true) := fun H3 e3 Q q => ⟨.ref a, rfl, a, xs, rfl, sX.imp (ex_l (e.trans e3)) (ex_t (e.trans e3)), .ref b, rfl, b, ys, rfl, sY.imp (ex_l (e.trans e3)) (ex_t (e.trans e3)), rfl, by
        rw [l1, l2, decide_eq_true rfl]
        exact q H3 (Ex.refl _)⟩
      refine sv_ret (ep_of (ev_andT (ev_var rfl) (ev_andT evl (EvP.ev ?_))))
      refine ep_cb1 (ep_lcZ (tp := tp) (fun _ y _ => y = .bl true) (fun _ _ _ _ _ h => h) (ea_cons (ev_var rfl) (ea_cons (ev_var rfl) ea_nil)) (rd_mono e h2) (rd_mono e k2) (by omega) (by omega) (fun x y => rfl) fun i x y H3 e3 hi hj => ?_) fun v H3 e3 h => ?_
      · obtain ⟨d, hd1, hd2⟩ := DenL.get t xs h3 i x hi
        obtain ⟨d', hd1', hd2'⟩ := DenL.get t ys k3 i y hj
        rw [hd1] at hd1'
        cases hd1'
        obtain ⟨q1, q2⟩ := dep_get t i d hd1
        exact ep_callA (ea_cons (ev_var rfl) (ea_cons (ev_var rfl) ea_nil)) (gv_spP d ⟨x, y, rfl, Den.mono (e.trans e3) d x hd2, Den.mono (e.trans e3) d y hd2', by omega, okDL_get t i d ho hd1, by omega⟩ fun v H4 e4 hp => hp)
      · obtain ⟨p, zs, rfl, _, q2, q3, q4⟩ := h
        have ez := bls_of (f := fun _ => true) q3 q4
        rw [ez] at q2
        exact gv_all (ys := zs) _ q2 (by rw [all_range_true fun _ _ => rfl]; rfl)
    | dic ks t =>
      have hn' : depL t + 2 ≤ n := hn
      obtain ⟨m, rfl⟩ : ∃ m, n = m + 1 := ⟨n - 1, by omega⟩
      have IH := IH m rfl
      have hz' : sizL t < 30000 := by have : siz (.dic ks t) = sizL t + 1 := rfl; omega
      obtain ⟨a, xs, rfl, h2, hl, hnd, h3⟩ := hx
      obtain ⟨b, ys, rfl, k2, kl, _, k3⟩ := hy
      have hx : Den C H (.dic ks t) (.ref a) := ⟨a, xs, rfl, h2, hl, hnd, h3⟩
      have hy : Den C H (.dic ks t) (.ref b) := ⟨b, ys, rfl, k2, kl, hnd, k3⟩
      have l1 := DenL.len t xs h3
      have l2 := DenL.len t ys k3
      have l3 := sizL_len t
      have hzl : (ks.zip xs).length = ks.length := by rw [List.length_zip]; omega
      refine ⟨_, PSs.nox (pss_cons (ps_if (pt_val (pe_callB call_isiT rfl fr.is_ bt_is (pa_cons (pv 0) (pa_cons (pe_tup (pa_cons (pe_bltn (v := .ty "list") rfl fr.list_ bt_list rfl) (pa_cons (pe_bltn (v := .ty "tuple") rfl fr.tuple_ bt_tuple rfl) pa_nil))) pa_nil)))) pss_never pss_nil)
        (pss_cons (ps_if (pt_val (pe_isi fr.is_ fr.dict_ bt_dict (pv 0)))
          (pss_cons (ps_set (i := 2) scEx.nd rfl (.inl rfl) (pe_and (pe_isi fr.is_ fr.dict_ bt_dict (pv 1)) (pe_one (pe_cl IH hr (pa_cons (pe_callTy (call_list_dK rfl) rfl fr.list_ bt_list (pa_cons (pv 0) pa_nil)) (pa_cons (pe_callTy (call_list_dK rfl) rfl fr.list_ bt_list (pa_cons (pv 1) pa_nil)) pa_nil))))))
          (pss_one (ps_ret (pe_and (pv 2) (pe_one (pe_callB (cr_all rfl) rfl fr.all_ bt_all (pa_cons (pe_lock (pe_lc (own := [("_law_key", 5)]) (g := gName 5) (tt := tYes) rfl scEx.nd (pi_keys (pv 0)) (blkOk_by (N := nEx) (sc := defScope (top 32)) (by decide +kernel))
            (fun _ _ _ _ _ => pg_name (i := 5) scEx.nd rfl (Or.inl rfl)) (fun _ _ _ _ _ => pts_nil) (fun _ _ _ _ _ => pe_cl IH hr (pa_cons (pe_dget (hu_of hr) (pv 0) (pv 5) (fun _ _ => rfl)) (pa_cons (pe_dget (hu_of hr) (pv 1) (pv 5) (fun _ _ => rfl)) pa_nil))))) pa_nil))))))) pss_nil) pss_never)), ?_⟩
      refine sv_when evLT (fun z => nomatch z) fun _ => sv_when evD (fun _ => ?_) (fun z => nomatch z)
      have kxs : (ks.zip xs).map (fun kv => kV kv.1) = ks.map kV := by
        have := congrArg (List.map kV) (zip_keys ks xs hl)
        rw [List.map_map] at this
        exact this
      have kys : (ks.zip ys).map (fun kv => kV kv.1) = ks.map kV := by
        have := congrArg (List.map kV) (zip_keys ks ys kl)
        rw [List.map_map] at this
        exact this
      have gl : ∀ {c : Addr} {zs : List V} (H' : Hp), H' c = some (.dK (ks.zip zs)) → (ks.zip zs).map (fun kv => kV kv.1) = ks.map kV → Gv (rListD [.ref c]) H' (fun v H'' => ∃ q, v = .ref q ∧ H'' q = some (.lst (ks.map kV))) := fun {c zs} H' hc hk H1 e Q q => ⟨c, ks.zip zs, rfl, e _ _ hc, fun l hl => by
        rw [hk]
        exact q _ _ _ (Step.new e hl) ⟨l, rfl, upd_same⟩⟩
      obtain ⟨o1, o2, o3⟩ := keysD_ok ks
      refine sv_set (P := Eqv (.bl true)) (ep_of (ev_andT (ev rfl hy (by decide)) (EvP.ev (ep_call2 (P1 := fun v H' => ∃ q, v = .ref q ∧ H' q = some (.lst (ks.map kV))) (P2 := fun x y H' => (∃ q, x = .ref q ∧ H' q = some (.lst (ks.map kV))) ∧ ∃ q, y = .ref q ∧ H' q = some (.lst (ks.map kV)))
        (ep_cb1 (ep_of (ev_var rfl)) fun v H' e hv => by cases (show v = .ref a from hv); exact gl H' (e _ _ h2) kxs)
        (fun x H' e hx' => ep_cb1 (ep_of (ev_var rfl)) fun v H'' e2 hv => by
          cases (show v = .ref b from hv)
          refine Gv.imp (gl H'' (e2 _ _ (e _ _ k2)) kys) fun v H3 e3 hv => ⟨?_, hv⟩
          obtain ⟨q, rfl, hq⟩ := hx'
          exact ⟨q, rfl, e3 _ _ (e2 _ _ hq)⟩)
        fun x y H' e hxy => by
          obtain ⟨⟨q1, rfl, hq1⟩, q2, rfl, hq2⟩ := hxy
          exact gv_spP (.seq false (ks.map fun k => .flat (kV k))) ⟨_, _, rfl, den_keys hq1, den_keys hq2, by show depL _ + 1 ≤ m; omega, o2, by show sizL _ + 1 ≤ 30000; omega⟩ fun v H4 e4 hp => hp)))) fun v H' e hv => ?_
      cases (show v = .bl true from hv)
      refine sv_ret (ep_of (ev_andT (ev_var rfl) (EvP.ev ?_)))
      have hx' := Den.mono e _ _ hx
      have hy' := Den.mono e _ _ hy
      refine ep_cb1 (P1 := LcP H' ks.length (fun _ y _ => y = .bl true)) (ep_lock (P := LcP H' ks.length (fun _ y _ => y = .bl true)) (e _ _ h2) trivial (fun od => ?_) (fun v H2 od e2 h => ?_)) fun v H3 e3 h => ?_
      · refine Gv.imp (ep_lcK (kvs := ks.zip xs) (o := od) (fun _ y _ => y = .bl true) (fun _ _ _ _ _ h => h) (ev_var rfl) upd_same (by omega) (fun x => rfl) fun i k v H3 e3 hk => ?_) fun v H3 e3 h => ?_
        · have hki : ks[i]? = some k ∧ xs[i]? = some v := by
            rw [List.getElem?_zip_eq_some] at hk
            exact hk
          have hi : i < ks.length := (List.getElem?_eq_some_iff.mp hki.1).1
          have hyi : ys[i]? = some (ys[i]'(by omega)) := List.getElem?_eq_getElem (by omega)
          obtain ⟨d, hd1, hd2⟩ := DenL.get t xs h3 i v hki.2
          obtain ⟨d', hd1', hd2'⟩ := DenL.get t ys k3 i _ hyi
          rw [hd1] at hd1'
          cases hd1'
          obtain ⟨q1, q2⟩ := dep_get t i d hd1
          have hsz : siz d < siz (.dic ks t) := by have : siz (.dic ks t) = sizL t + 1 := rfl; omega
          have hd3 : Den C (upd H' a (.frz od (.dK (ks.zip xs)))) d v := Den.keep hx' d v (Den.mono e _ _ hd2) hsz
          have hd4 : Den C (upd H' a (.frz od (.dK (ks.zip xs)))) d _ := Den.keep hx' d _ (Den.mono e _ _ hd2') hsz
          have rb : ∀ H4, Ex (upd H' a (.frz od (.dK (ks.zip xs)))) H4 → DGet H4 b (kV k) (some (ys[i]'(by omega))) := fun H4 e4 => by
            by_cases hab : b = a
            · subst hab
              have ee := h2.symm.trans k2
              injection ee with ee
              injection ee with ee
              obtain ⟨_, exy⟩ := zip_inj _ _ _ _ hl kl ee
              subst exy
              exact .inl ⟨ks.zip xs, k, .inr ⟨od, e4 _ _ upd_same⟩, rfl, (valV_zip ks xs hl hnd i k _ hki.1 hyi).symm⟩
            · exact .inl ⟨ks.zip ys, k, .inl (e4 _ _ (by rw [upd_ne hab]; exact e _ _ k2)), rfl, (valV_zip ks ys kl hnd i k _ hki.1 hyi).symm⟩
          refine ep_call2 (P1 := Eqv v) (P2 := fun x y _ => x = v ∧ y = ys[i]'(by omega)) (fun H4 e4 Q q => ⟨.ref a, rfl, kV k, by cases k <;> rfl, a, v, rfl, .inl ⟨ks.zip xs, k, .inr ⟨od, e4 _ _ (e3 _ _ upd_same)⟩, rfl, (valV_zip ks xs hl hnd i k v hki.1 hki.2).symm⟩, q v H3 H4 (Step.refl e4) rfl⟩)
            (fun x H4 e4 hx H5 e5 Q q => ⟨.ref b, rfl, kV k, by cases k <;> rfl, b, _, rfl, rb H5 ((e3.trans e4).trans e5), q _ H4 H5 (Step.refl e5) ⟨hx, rfl⟩⟩) fun x y H4 e4 hxy => ?_
          obtain ⟨rfl, rfl⟩ := hxy
          exact gv_spP d ⟨_, _, rfl, Den.mono (e3.trans e4) _ _ hd3, Den.mono (e3.trans e4) _ _ hd4, by omega, okDL_get t i d ho hd1, by omega⟩ fun v H6 e6 hp => hp
        · obtain ⟨p, zs, rfl, q1, q2, q3, q4⟩ := h
          have npa : p ≠ a := fun z => by rw [z, upd_same] at q1; cases q1
          exact ⟨p, zs, rfl, by rw [← q1, upd_ne npa], q2, by omega, q4⟩
      · obtain ⟨p, zs, rfl, q1, q2, q3, q4⟩ := h
        have npa : p ≠ a := fun z => by rw [z, e _ _ h2] at q1; cases q1
        exact ⟨p, zs, rfl, q1, by rw [upd_ne npa]; exact q2, q3, q4⟩
      · obtain ⟨p, zs, rfl, _, q2, q3, q4⟩ := h
        have ez := bls_of (f := fun _ => true) q3 q4
        rw [ez] at q2
        exact gv_all (ys := zs) _ q2 (by rw [all_range_true fun _ _ => rfl]; rfl)
theorem ok_exact (F : FnT K "_law_exact" 32 f fd) (hgf : mg "_law_exact" = some (.ref f)) (Fe : FnM K "__eq__" "Recipe.__eq__" 4 fe fde) (hse : PySem.W.findIn K (.ref C) "__eq__" = some (some (.ref fe))) (hfe : PySem.W.isFn K (.ref fe) = true) (fr : Fr mg) (rc : RcT K mg C) (n : Nat) :
    FnOk P w K mg base CX0 (n + 2) f fd ["_law_mine", "_law_theirs"] (spEx C n) := by
  have bS : Binds K fd ["_law_mine", "_law_theirs"] [] := F.bindsN fun _ _ _ _ _ _ us hl => match us, hl with | [_, _], _ => rfl
  induction n with
  | zero => exact step_exact F Fe hse hfe fr rc 0 fun m h => by omega
  | succ m ih =>
    refine step_exact F Fe hse hfe fr rc (m + 1) fun m' h => ?_
    have e : m = m' := by omega
    subst e
    exact ⟨f, fd, ih, hgf, F.kp, bS⟩
end
end G

/-! is_count, is_rising, is_rising_list, bits_of. -/
namespace G
open PySem PySem.Spec PyProof.Rows L2 Evl Tp RZ
/-! ### what the tests say of trees -/
abbrev nV (n : Nat) : V := .int (n : Int)
def cntD : D → Option Nat
  | .flat (.int i) => if 0 ≤ i then some i.toNat else none
  | _ => none
def rowD : D → Option (List Nat)
  | .seq false t => Pap.allSome (t.map cntD)
  | _ => none
def isRl (d : D) : Bool := match rowD d with
  | some ns => Pap.rising ns
  | none => false
def isRm (m : Nat) (d : D) : Bool := match rowD d with
  | some ns => ns.all (fun n => decide (n < m)) && Pap.rising ns
  | none => false
theorem cntD_some {d : D} {n : Nat} (h : cntD d = some n) : d = .flat (nV n) := by
  unfold cntD at h
  split at h
  · rename_i i
    split at h
    · injection h with h
      subst h
      rw [show nV i.toNat = V.int i by show V.int _ = _; congr 1; omega]
    · cases h
  · cases h
theorem rowD_some {d : D} {ns : List Nat} (h : rowD d = some ns) : d = .seq false (ns.map fun n => .flat (nV n)) := by
  unfold rowD at h
  split at h
  · rename_i t
    rw [Pap.map_some_of (g := fun n => D.flat (nV n)) (fun a b => cntD_some) (Pap.allSome_some h)]
  · cases h
theorem cntD_nV (n : Nat) : cntD (.flat (nV n)) = some n := by
  show (if (0 : Int) ≤ (n : Int) then some (n : Int).toNat else none) = some n
  rw [if_pos (by omega)]
  rfl
theorem rowD_ns (ns : List Nat) : rowD (.seq false (ns.map fun n => .flat (nV n))) = some ns := by
  show Pap.allSome ((ns.map fun n => D.flat (nV n)).map cntD) = some ns
  rw [List.map_map, show (cntD ∘ fun n : Nat => D.flat (nV n)) = some from funext cntD_nV]
  exact Pap.allSome_map ns
def ltB (m : Nat) (d : D) : Bool := match cntD d with
  | some n => decide (n < m)
  | none => false
theorem allSome_dec (t : List D) : (∃ ns, Pap.allSome (t.map cntD) = some ns) ∨ (Pap.allSome (t.map cntD) = none ∧ ∃ d ∈ t, cntD d = none) := by
  cases h : Pap.allSome (t.map cntD) with
  | some ns => exact .inl ⟨ns, rfl⟩
  | none =>
    have := Pap.allSome_none.mp h
    obtain ⟨d, hd, e⟩ := List.mem_map.mp this
    exact .inr ⟨rfl, d, hd, e⟩
section
variable {P : Program} {w : World} {K : PySem.W.Frag} {mg : Str → Option Value} {base : Heap} {f C : Addr} {fd : FuncData} {H : Hp}
theorem den_ns {ns : List Nat} : ∀ {xs : List V}, DenL C H (ns.map fun n => .flat (nV n)) xs → xs = ns.map nV := by
  induction ns with
  | nil => intro xs h; exact h
  | cons n ns ih =>
    intro xs ⟨y, r, h1, h2, h3⟩
    rw [h1, h2.1, ih h3]
    rfl
/-! ### is_count -/
theorem scCt : FnScope ["value"] ["value"] (defScope (top 9)) := ⟨rfl, rfl, rfl, by decide +kernel, rfl, by decide +kernel, by decide +kernel⟩
def preD (C : Addr) (d : D) (vs : List V) (H : Hp) : Prop := ∃ x, vs = [x] ∧ Den C H d x
abbrev spCt (C : Addr) : Sp := spP (preD C) (fun d v _ => v = .bl (cntD d).isSome)
theorem ok_count (F : FnT K "is_count" 9 f fd) (fr : Fr mg) (rc : RcT K mg C) : FnOk P w K mg base CX0 1 f fd ["value"] (spCt C) := by
  refine okP F scCt (fun d vs H h => ?_) (fun cdv A outer s H1 vs E d H hr h => ?_)
  · obtain ⟨x, rfl, _⟩ := h
    rfl
  · obtain ⟨x, rfl, hx⟩ := h
    refine ⟨_, PSs.nox (pss_one (ps_ret (pe_and (pe_isi fr.is_ fr.int_ bt_int (pv 0)) (pe_and (pe_not (pe_isi fr.is_ fr.bool_ bt_bool (pv 0))) (pe_one (pe_cmpR op_ge (pv 0) pe_int (nomark _))))))), ?_⟩
    refine sv_ret (ep_ofP (v := .bl (isIB d "int" && (!isIB d "bool" && (cntD d).isSome))) (ev_andV (ev_isD rc hx (ev_var rfl) (by decide)) fun h1 => ev_andV (ev_notV (ev_isD rc hx (ev_var rfl) (by decide))) fun h2 => ?_) ?_)
    · -- an int
      cases d with
      | flat v =>
        obtain ⟨rfl, hf⟩ := hx
        cases x with
        | int i =>
          have := ev_op (σ := L2.start ["value"] [.int i]) (ta := tVar 0) (tb := tC (.int 0)) (ev_var rfl) ev_c (rv_I0 (H := H) (g := fun i j => .bl (decide (j ≤ i))) (i := i) (j := 0))
          have e : (cntD (.flat (.int i))).isSome = decide (0 ≤ i) := by
            show (if 0 ≤ i then some i.toNat else none).isSome = _
            by_cases h : 0 ≤ i
            · rw [if_pos h, decide_eq_true h]; rfl
            · rw [if_neg h, decide_eq_false h]; rfl
          rw [e]
          exact this
        | _ => first | (cases hf; done) | (exact absurd h1 Bool.false_ne_true) | (exact absurd h2 Bool.false_ne_true)
      | rcp a old t => cases h1
      | seq tp t => cases tp <;> cases h1
      | dic ks t => cases h1
    · cases d with
      | flat v =>
        cases v with
        | int i => rfl
        | bl b => cases b <;> rfl
        | _ => rfl
      | rcp a old t => rfl
      | seq tp t => cases tp <;> rfl
      | dic ks t => rfl
/-! ### the numbers of a list rise -/
theorem bls_ofL {ys : List V} {bs : List Bool} (hl : ys.length = bs.length) (h : ∀ (i : Nat) (y : V), ys[i]? = some y → ∃ b, bs[i]? = some b ∧ y = V.bl b) : ys = bs.map V.bl := by
  refine List.ext_getElem? fun i => ?_
  by_cases hi : i < ys.length
  · have h1 : ys[i]? = some ys[i] := List.getElem?_eq_getElem hi
    obtain ⟨b, hb, e⟩ := h i _ h1
    rw [h1, List.getElem?_map, hb, e]
    rfl
  · rw [List.getElem?_eq_none (by omega), List.getElem?_eq_none (by simp; omega)]
abbrev tLenS (K : PySem.W.Frag) (te : TE) : TE := tCB (fun zs H1 Q => ∃ p us, zs = [.ref p] ∧ (SqL K H1 p us ∨ SqT K H1 p us) ∧ Q (.int us.length) H1) (tCons te tNil)
theorem ev_lenL {σ : L2.St} {te : TE} {p : Addr} {xs : List V} (h : Ev te σ H (.ref p)) (hx : SqL K H p xs) : Ev (tLenS K te) σ H (.int (xs.length : Int)) := ev_len h hx
/-- all([xs[at - 1] < xs[at] for at in range(1, len(xs))]) -/
abbrev tRise (K : PySem.W.Frag) (i j : Nat) : TE := tCB (rAll K) (tCons (tLc (iRng2 (tCons (tC (.int 1)) (tCons (tLenS K (tVar i)) tNil))) (gName j) tYes
  (tOp (rI0 fun i j => .bl (decide (i < j))) (tOp (rIxL K) (tVar i) (tOp (rI0 fun i j => .int (i - j)) (tVar j) (tC (.int 1)))) (tOp (rIxL K) (tVar i) (tVar j))) [j]) tNil)
theorem ep_rise {σ : L2.St} {i j : Nat} {a : Addr} {ns : List Nat} (hi : σ[i]? = some (some (.ref a))) (hij : i ≠ j) (hj : j < σ.length) (ha : SqL K H a (ns.map nV)) (hz : ns.length ≤ 30000) : EvP (tRise K i j) σ H (Eqv (.bl (Pap.rising ns))) := by
  have hw : ∀ x, wipe ((wipe σ [j]).set j (some x)) [j] = wipe σ [j] := fun x => by
    show ((σ.set j none).set j (some x)).set j none = σ.set j none
    rw [List.set_set, List.set_set]
  have gi : ∀ x, ((wipe σ [j]).set j (some x))[i]? = some (some (.ref a)) := fun x => by
    show ((σ.set j none).set j (some x))[i]? = _
    rw [List.set_set, List.getElem?_set_ne (Ne.symm hij)]
    exact hi
  have gj : ∀ x, ((wipe σ [j]).set j (some x))[j]? = some (some x) := fun x => by
    show ((σ.set j none).set j (some x))[j]? = _
    rw [List.set_set, List.getElem?_set_self hj]
  refine ep_cb1 (ep_lcR2 (lo := 1) (n := (ns.length : Int)) (fun k y _ => y = .bl (decide (ns.getD k 0 < ns.getD (k + 1) 0))) (fun _ _ _ _ _ h => h) (ea_cons ev_c (ea_cons ?_ ea_nil)) (by omega) (by omega) (by omega) hw fun k H' e hk => ?_) fun v H' e h => ?_
  · have := ev_lenL (te := tVar i) (ev_var hi) ha
    rw [List.length_map] at this
    exact this
  · have hk1 : k < ns.length := by omega
    have hk2 : k + 1 < ns.length := by omega
    have g1 : atI (ns.map nV) ((k : Nat) : Int) = some (nV (ns.getD k 0)) := atI_nat (by rw [List.getElem?_map, List.getElem?_eq_getElem hk1, List.getD_eq_getElem?_getD, List.getElem?_eq_getElem hk1]; rfl)
    have g2 : atI (ns.map nV) ((k + 1 : Nat) : Int) = some (nV (ns.getD (k + 1) 0)) := atI_nat (by rw [List.getElem?_map, List.getElem?_eq_getElem hk2, List.getD_eq_getElem?_getD, List.getElem?_eq_getElem hk2]; rfl)
    have e1 : (1 : Int) + (k : Int) - 1 = ((k : Nat) : Int) := by omega
    have e2 : (1 : Int) + (k : Int) = ((k + 1 : Nat) : Int) := by omega
    have r1 : Ev (tOp (rIxL K) (tVar i) (tOp (rI0 fun i j => .int (i - j)) (tVar j) (tC (.int 1)))) ((wipe σ [j]).set j (some (.int (1 + (k : Int))))) H' (nV (ns.getD k 0)) :=
      ev_op (ev_var (gi _)) (ev_op (ev_var (gj _)) ev_c rv_I0) (by rw [e1]; exact rv_ixL (ex_l e ha) g1)
    have r2 : Ev (tOp (rIxL K) (tVar i) (tVar j)) ((wipe σ [j]).set j (some (.int (1 + (k : Int))))) H' (nV (ns.getD (k + 1) 0)) :=
      ev_op (ev_var (gi _)) (ev_var (gj _)) (by rw [e2]; exact rv_ixL (ex_l e ha) g2)
    refine ep_ofP (ev_op r1 r2 rv_I0) ?_
    show V.bl _ = V.bl _
    congr 1
    exact decide_eq_decide.mpr (by omega)
  · obtain ⟨p, ys, rfl, _, h2, h3, h4⟩ := h
    have ez := bls_of (f := fun k => decide (ns.getD k 0 < ns.getD (k + 1) 0)) h3 h4
    rw [ez] at h2
    have el : ((ns.length : Int) - 1).toNat = ns.length - 1 := by omega
    refine gv_all (ys := ys) _ h2 ?_
    rw [el, List.all_map, Pap.rising_at]
    rfl
/-! ### is_rising -/
abbrev nIr : List Str := ["value", "many", "late", "at"]
theorem scIr : FnScope nIr ["value", "many"] (defScope (top 10)) := ⟨rfl, rfl, rfl, by decide +kernel, rfl, by decide +kernel, by decide +kernel⟩
def preIr (C : Addr) (q : D × Nat) (vs : List V) (H : Hp) : Prop := ∃ x, vs = [x, nV q.2] ∧ Den C H q.1 x ∧ siz q.1 ≤ 30000
abbrev spIr (C : Addr) : Sp := spP (preIr C) (fun q v _ => v = .bl (isRm q.2 q.1))
theorem ok_rising (F : FnT K "is_rising" 10 f fd) (KC : Kp P w K mg base CX0 1 "is_count" ["value"] (spCt C)) (fr : Fr mg) (rc : RcT K mg C) : FnOk P w K mg base CX0 2 f fd ["value", "many"] (spIr C) := by
  refine okP F scIr (fun d vs H h => ?_) (fun cdv A outer s H1 vs E q H hr h => ?_)
  · obtain ⟨x, rfl, _⟩ := h
    rfl
  · obtain ⟨d, m⟩ := q
    obtain ⟨x, rfl, hx, hz⟩ := h
    have hz : siz d ≤ 30000 := hz
    have hx : Den C H d x := hx
    show ∃ t, PSs _ (defBody (top 10)) t ∧ Sv t (L2.start nIr [x, nV m]) H _ _
    refine ⟨_, PSs.nox (pss_cons (ps_if (PW.pt (pw_or (pt_not (pt_val (pe_isi fr.is_ fr.list_ bt_list (pv 0)))) (pw_or1 (pt_not (pt_val (pe_callB (cr_all rfl) rfl fr.all_ bt_all
      (pa_cons (pe_lc (own := [("late", 2)]) (g := gName 2) (tt := tYes) rfl scIr.nd (pi_list (pv 0)) (blkOk_by (N := nIr) (sc := defScope (top 10)) (by decide +kernel)) (fun _ _ _ _ _ => pg_name (i := 2) scIr.nd rfl (Or.inl rfl)) (fun _ _ _ _ _ => pts_nil)
        (fun _ _ _ _ _ => pe_and (pe_cl KC hr (pa_cons (pv 2) pa_nil)) (pe_one (pe_cmpR op_lt (pv 2) (pv 1) (nomark _))))) pa_nil))))))) (pss_one (ps_ret pe_bl)) pss_nil)
      (pss_one (ps_ret (pe_callB (cr_all rfl) rfl fr.all_ bt_all (pa_cons (pe_lc (own := [("at", 3)]) (g := gName 3) (tt := tYes) rfl scIr.nd (pi_range2 rfl fr.range_ (pa_cons pe_int (pa_cons (pe_callB call_len_seq rfl fr.len_ bt_len (pa_cons (pv 0) pa_nil)) pa_nil))) (blkOk_by (N := nIr) (sc := defScope (top 10)) (by decide +kernel))
        (fun _ _ _ _ _ => pg_name (i := 3) scIr.nd rfl (Or.inl rfl)) (fun _ _ _ _ _ => pts_nil) (fun _ _ _ _ _ => pe_cmpR op_lt (pe_ix (r := rIxL K) ix_list (pv 0) (pe_op op_sub (pv 3) pe_int) (fun _ _ => rfl)) (pe_ix (r := rIxL K) ix_list (pv 0) (pv 3) (fun _ _ => rfl)) (nomark _))) pa_nil))))), ?_⟩
    have evL := et_B (ev_isD (σ := L2.start nIr [x, nV m]) (te := tVar 0) rc hx (ev_var rfl) (U := "list") (by decide))
    by_cases hl : isIB d "list" = true
    · obtain ⟨t, rfl⟩ : ∃ t, d = .seq false t := by
        cases d with
        | flat v => cases v <;> cases hl
        | rcp a old t => cases hl
        | seq tp t => cases tp with | false => exact ⟨t, rfl⟩ | true => cases hl
        | dic ks t => cases hl
      obtain ⟨a, xs, rfl, h2, h3⟩ := hx
      have hx : Den C H (.seq false t) (.ref a) := ⟨a, xs, rfl, h2, h3⟩
      have l1 := DenL.len t xs h3
      have l2 := sizL_len t
      have hz' : sizL t < 30000 := by have : siz (.seq false t) = sizL t + 1 := rfl; omega
      have evA : EvT (tB (tCB (rAll K) (tCons (tLc (iList K (tVar 0)) (gName 2) tYes (tAndV (tCall (spCt C) [] E0 (tCons (tVar 2) tNil)) (tOp (rI0 fun i j => .bl (decide (i < j))) (tVar 2) (tVar 1))) [2]) tNil))) (L2.start nIr [.ref a, nV m]) H (t.all (ltB m)) := by
        refine et_B (EvP.ev (ep_cb1 (ep_lcL (fun i y _ => ∃ b, (t.map (ltB m))[i]? = some b ∧ y = V.bl b) (fun _ _ _ _ _ h => h) (ev_var rfl) (.inl h2) (by omega) (fun x => rfl) fun i x H' e hx' => ?_) fun v H' e h => ?_))
        · obtain ⟨d, hd1, hd2⟩ := DenL.get t xs h3 i x hx'
          have c1 : Ev (tCall (spCt C) [] E0 (tCons (tVar 2) tNil)) ((wipe (L2.start nIr [.ref a, nV m]) [2]).set 2 (some x)) H' (.bl (cntD d).isSome) :=
            EvP.ev (ep_callA (ea_cons (ev_var rfl) ea_nil) (gv_spP d ⟨x, rfl, Den.mono e d x hd2⟩ fun v H4 e4 hp => hp))
          refine ep_ofP (v := .bl ((cntD d).isSome && ltB m d)) (ev_andV c1 fun hc => ?_) ⟨ltB m d, by rw [List.getElem?_map, hd1]; rfl, ?_⟩
          · obtain ⟨n, hn⟩ := Option.isSome_iff_exists.mp hc
            have ed := cntD_some hn
            subst ed
            obtain ⟨rfl, _⟩ := hd2
            have r := ev_op (σ := (wipe (L2.start nIr [.ref a, nV m]) [2]).set 2 (some (nV n))) (H := H') (ta := tVar 2) (tb := tVar 1) (ev_var rfl) (ev_var rfl) (rv_I0 (g := fun i j => .bl (decide (i < j))) (i := (n : Int)) (j := (m : Int)))
            have e2 : ltB m (.flat (nV n)) = decide ((n : Int) < (m : Int)) := by
              unfold ltB
              rw [hn]
              exact decide_eq_decide.mpr (by omega)
            rw [e2]
            exact r
          · unfold ltB
            cases cntD d with
            | none => rfl
            | some n => rfl
        · obtain ⟨p, ys, rfl, _, q2, q3, q4⟩ := h
          have ez := bls_ofL (bs := t.map (ltB m)) (by rw [List.length_map]; omega) q4
          rw [ez] at q2
          refine gv_all (ys := ys) _ q2 ?_
          show V.bl _ = V.bl _
          rw [List.all_map]
          rfl
      rw [hl] at evL
      by_cases hall : t.all (ltB m) = true
      · rw [hall] at evA
        refine sv_when (b := false) (et_or (et_not evL) fun _ => et_not evA) (fun z => nomatch z) fun _ => ?_
        rcases allSome_dec t with ⟨ns, hns⟩ | ⟨_, d, hd, hn⟩
        · have es : D.seq false t = .seq false (ns.map fun n => .flat (nV n)) := rowD_some hns
          injection es with _ es
          subst es
          have exs := den_ns h3
          subst exs
          refine sv_ret (Gv.imp (ep_rise (ns := ns) rfl (by decide) (by show 3 < 4; decide) (.inl h2) (by rw [List.length_map] at l2; omega)) fun v H' e hv => ?_)
          rw [show v = _ from hv]
          show V.bl _ = V.bl (isRm m _)
          unfold isRm
          rw [rowD_ns]
          show V.bl _ = V.bl (ns.all (fun n => decide (n < m)) && Pap.rising ns)
          rw [List.all_map] at hall
          rw [show ns.all (fun n => decide (n < m)) = true by
            rw [← hall]
            refine congrArg (fun g => ns.all g) (funext fun n => ?_)
            show _ = ltB m (.flat (nV n))
            unfold ltB
            rw [cntD_nV], Bool.true_and]
        · have := List.all_eq_true.mp hall d hd
          unfold ltB at this
          rw [hn] at this
          cases this
      · have hall : t.all (ltB m) = false := by simpa using hall
        rw [hall] at evA
        refine sv_when (b := true) (et_or (et_not evL) fun _ => et_not evA) (fun _ => sv_ret (ep_ofP ev_c ?_)) (fun z => nomatch z)
        show V.bl false = V.bl (isRm m _)
        unfold isRm
        cases hr : rowD (.seq false t) with
        | none => rfl
        | some ns =>
          have es := rowD_some hr
          injection es with _ es
          subst es
          show V.bl false = V.bl (ns.all (fun n => decide (n < m)) && Pap.rising ns)
          rw [List.all_map] at hall
          rw [show ns.all (fun n => decide (n < m)) = false by
            rw [← hall]
            refine congrArg (fun g => ns.all g) (funext fun n => ?_)
            show _ = ltB m (.flat (nV n))
            unfold ltB
            rw [cntD_nV]]
          rfl
    · have hl : isIB d "list" = false := by simpa using hl
      rw [hl] at evL
      refine sv_when (b := true) (et_is (et_or (b := true) (et_not evL) fun z => nomatch z) rfl) (fun _ => sv_ret (ep_ofP ev_c ?_)) (fun z => nomatch z)
      show V.bl false = V.bl (isRm m d)
      unfold isRm
      cases hr : rowD d with
      | none => rfl
      | some ns =>
        have es := rowD_some hr
        subst es
        cases hl
end
end G

/-! is_rising_list, bits_of, numbers_in, row_in. -/
namespace G
open PySem PySem.Spec PyProof.Rows L2 Evl Tp RZ
def ltN (d : D) : Bool := (cntD d).isSome
section
variable {P : Program} {w : World} {K : PySem.W.Frag} {mg : Str → Option Value} {base : Heap} {f C : Addr} {fd : FuncData} {H : Hp}
/-! ### is_rising_list -/
abbrev nIl : List Str := ["value", "late", "at"]
theorem scIl : FnScope nIl ["value"] (defScope (top 21)) := ⟨rfl, rfl, rfl, by decide +kernel, rfl, by decide +kernel, by decide +kernel⟩
def preIl (C : Addr) (d : D) (vs : List V) (H : Hp) : Prop := ∃ x, vs = [x] ∧ Den C H d x ∧ siz d ≤ 30000
abbrev spIl (C : Addr) : Sp := spP (preIl C) (fun d v _ => v = .bl (isRl d))
theorem ok_rising_list (F : FnT K "is_rising_list" 21 f fd) (KC : Kp P w K mg base CX0 1 "is_count" ["value"] (spCt C)) (fr : Fr mg) (rc : RcT K mg C) : FnOk P w K mg base CX0 2 f fd ["value"] (spIl C) := by
  refine okP F scIl (fun d vs H h => ?_) (fun cdv A outer s H1 vs E d H hr h => ?_)
  · obtain ⟨x, rfl, _⟩ := h
    rfl
  · obtain ⟨x, rfl, hx, hz⟩ := h
    have hz : siz d ≤ 30000 := hz
    have hx : Den C H d x := hx
    show ∃ t, PSs _ (defBody (top 21)) t ∧ Sv t (L2.start nIl [x]) H _ _
    refine ⟨_, PSs.nox (pss_cons (ps_if (PW.pt (pw_or (pt_not (pt_val (pe_isi fr.is_ fr.list_ bt_list (pv 0)))) (pw_or1 (pt_not (pt_val (pe_callB (cr_all rfl) rfl fr.all_ bt_all
      (pa_cons (pe_lc (own := [("late", 1)]) (g := gName 1) (tt := tYes) rfl scIl.nd (pi_list (pv 0)) (blkOk_by (N := nIl) (sc := defScope (top 21)) (by decide +kernel)) (fun _ _ _ _ _ => pg_name (i := 1) scIl.nd rfl (Or.inl rfl)) (fun _ _ _ _ _ => pts_nil)
        (fun _ _ _ _ _ => pe_cl KC hr (pa_cons (pv 1) pa_nil))) pa_nil))))))) (pss_one (ps_ret pe_bl)) pss_nil)
      (pss_one (ps_ret (pe_callB (cr_all rfl) rfl fr.all_ bt_all (pa_cons (pe_lc (own := [("at", 2)]) (g := gName 2) (tt := tYes) rfl scIl.nd (pi_range2 rfl fr.range_ (pa_cons pe_int (pa_cons (pe_callB call_len_seq rfl fr.len_ bt_len (pa_cons (pv 0) pa_nil)) pa_nil))) (blkOk_by (N := nIl) (sc := defScope (top 21)) (by decide +kernel))
        (fun _ _ _ _ _ => pg_name (i := 2) scIl.nd rfl (Or.inl rfl)) (fun _ _ _ _ _ => pts_nil) (fun _ _ _ _ _ => pe_cmpR op_lt (pe_ix (r := rIxL K) ix_list (pv 0) (pe_op op_sub (pv 2) pe_int) (fun _ _ => rfl)) (pe_ix (r := rIxL K) ix_list (pv 0) (pv 2) (fun _ _ => rfl)) (nomark _))) pa_nil))))), ?_⟩
    have evL := et_B (ev_isD (σ := L2.start nIl [x]) (te := tVar 0) rc hx (ev_var rfl) (U := "list") (by decide))
    by_cases hl : isIB d "list" = true
    · obtain ⟨t, rfl⟩ : ∃ t, d = .seq false t := by
        cases d with
        | flat v => cases v <;> cases hl
        | rcp a old t => cases hl
        | seq tp t => cases tp with | false => exact ⟨t, rfl⟩ | true => cases hl
        | dic ks t => cases hl
      obtain ⟨a, xs, rfl, h2, h3⟩ := hx
      have hx : Den C H (.seq false t) (.ref a) := ⟨a, xs, rfl, h2, h3⟩
      have l1 := DenL.len t xs h3
      have l2 := sizL_len t
      have hz' : sizL t < 30000 := by have : siz (.seq false t) = sizL t + 1 := rfl; omega
      have evA : EvT (tB (tCB (rAll K) (tCons (tLc (iList K (tVar 0)) (gName 1) tYes (tCall (spCt C) [] E0 (tCons (tVar 1) tNil)) [1]) tNil))) (L2.start nIl [.ref a]) H (t.all ltN) := by
        refine et_B (EvP.ev (ep_cb1 (ep_lcL (fun i y _ => ∃ b, (t.map ltN)[i]? = some b ∧ y = V.bl b) (fun _ _ _ _ _ h => h) (ev_var rfl) (.inl h2) (by omega) (fun x => rfl) fun i x H' e hx' => ?_) fun v H' e h => ?_))
        · obtain ⟨d, hd1, hd2⟩ := DenL.get t xs h3 i x hx'
          exact ep_ofP (EvP.ev (ep_callA (ea_cons (ev_var rfl) ea_nil) (gv_spP d ⟨x, rfl, Den.mono e d x hd2⟩ fun v H4 e4 hp => hp))) ⟨ltN d, by rw [List.getElem?_map, hd1]; rfl, rfl⟩
        · obtain ⟨p, ys, rfl, _, q2, q3, q4⟩ := h
          have ez := bls_ofL (bs := t.map ltN) (by rw [List.length_map]; omega) q4
          rw [ez] at q2
          refine gv_all (ys := ys) _ q2 ?_
          show V.bl _ = V.bl _
          rw [List.all_map]
          rfl
      rw [hl] at evL
      by_cases hall : t.all ltN = true
      · rw [hall] at evA
        refine sv_when (b := false) (et_or (et_not evL) fun _ => et_not evA) (fun z => nomatch z) fun _ => ?_
        rcases allSome_dec t with ⟨ns, hns⟩ | ⟨_, d, hd, hn⟩
        · have es : D.seq false t = .seq false (ns.map fun n => .flat (nV n)) := rowD_some hns
          injection es with _ es
          subst es
          have exs := den_ns h3
          subst exs
          refine sv_ret (Gv.imp (ep_rise (ns := ns) rfl (by decide) (by show 2 < 3; decide) (.inl h2) (by rw [List.length_map] at l2; omega)) fun v H' e hv => ?_)
          rw [show v = _ from hv]
          show V.bl _ = V.bl (isRl _)
          unfold isRl
          rw [rowD_ns]
        · have := List.all_eq_true.mp hall d hd
          unfold ltN at this
          rw [hn] at this
          cases this
      · have hall : t.all ltN = false := by simpa using hall
        rw [hall] at evA
        refine sv_when (b := true) (et_or (et_not evL) fun _ => et_not evA) (fun _ => sv_ret (ep_ofP ev_c ?_)) (fun z => nomatch z)
        show V.bl false = V.bl (isRl _)
        unfold isRl
        cases hr : rowD (.seq false t) with
        | none => rfl
        | some ns =>
          have es := rowD_some hr
          injection es with _ es
          subst es
          rw [List.all_map] at hall
          have : ns.all (ltN ∘ fun n => D.flat (nV n)) = true := List.all_eq_true.mpr fun n _ => by
            show ltN (.flat (nV n)) = true
            unfold ltN
            rw [cntD_nV]
            rfl
          rw [this] at hall
          cases hall
    · have hl : isIB d "list" = false := by simpa using hl
      rw [hl] at evL
      refine sv_when (b := true) (et_is (et_or (b := true) (et_not evL) fun z => nomatch z) rfl) (fun _ => sv_ret (ep_ofP ev_c ?_)) (fun z => nomatch z)
      show V.bl false = V.bl (isRl d)
      unfold isRl
      cases hr : rowD d with
      | none => rfl
      | some ns =>
        have es := rowD_some hr
        subst es
        cases hl
end
end G

/-! numbers_in, row_in, bits_of, many, needs. -/
namespace G
open PySem PySem.Spec PyProof.Rows L2 Evl Tp RZ TL
/-! ### texts -/
theorem str_dec (x y : Str) : decide (V.str x = V.str y) = decide (tl x = tl y) := decide_eq_decide.mpr ⟨fun h => by injection h with h; rw [h], fun h => by rw [ext_tl h]⟩
abbrev cSc (l : List (Str × NameKind)) : Scope := { kind := .function, names := l, isGenerator := false, isCoroutine := false }
/-- no run of digits in t is longer than k -/
def Run (k : Nat) (t : Pap.Tx) : Prop := ∀ l p r, t = l ++ (p ++ r) → NumText.AllDigits p → p.length ≤ k
theorem Run.sub {k : Nat} {t a s b : Pap.Tx} (h : Run k t) (e : t = a ++ (s ++ b)) : Run k s := fun l p r e2 hp => h (a ++ l) p (r ++ b) (by rw [e, e2]; simp) hp
theorem Run.cut {k s : Nat} {t p : Pap.Tx} (h : Run k t) (hp : p ∈ Pap.cut s t) : Run k p := by
  obtain ⟨l, r, e⟩ := Pap.part_of (S := [s]) hp
  rw [Pap.join_cut] at e
  exact h.sub e
theorem cut_len (s : Nat) (t : Pap.Tx) : (Pap.cut s t).length ≤ t.length + 1 := by
  have : ∀ (t acc : Pap.Tx), (spl [s] 0 acc t).length ≤ t.length + 1 := by
    intro t
    induction t with
    | nil => intro acc; rw [spl_nil]; simp
    | cons c r ih =>
      intro acc
      cases h : pre [s] (c :: r) with
      | true =>
        rw [spl_hit h]
        have := ih []
        simp only [List.length_cons]
        show (spl [s] 0 [] r).length + 1 ≤ _
        omega
      | false =>
        rw [spl_miss h]
        have := ih (acc ++ [c])
        simp only [List.length_cons]
        omega
  exact this t []
theorem cut_part {s : Nat} {t p : Pap.Tx} (hp : p ∈ Pap.cut s t) : p.length ≤ t.length := by
  obtain ⟨l, r, e⟩ := Pap.part_of (S := [s]) hp
  rw [Pap.join_cut] at e
  rw [e]
  simp only [List.length_append]
  omega
/-- an optional list of numbers -/
def ONs (o : Option (List Nat)) (v : V) (H : Hp) : Prop := match o with
  | none => v = .non
  | some ns => ∃ p, v = .ref p ∧ H p = some (.lst (ns.map nV))
theorem ONs.mono {o : Option (List Nat)} {v : V} {H H' : Hp} (e : Ex H H') (h : ONs o v H) : ONs o v H' := by
  cases o with
  | none => exact h
  | some ns =>
    obtain ⟨p, h1, h2⟩ := h
    exact ⟨p, h1, e _ _ h2⟩
def oD : Option (List Nat) → D
  | none => .flat .non
  | some ns => .seq false (ns.map fun n => .flat (nV n))
theorem den_nsL {C : Addr} {H : Hp} : ∀ ns : List Nat, DenL C H (ns.map fun n => .flat (nV n)) (ns.map nV)
  | [] => rfl
  | n :: ns => ⟨nV n, ns.map nV, rfl, ⟨rfl, rfl⟩, den_nsL ns⟩
theorem ONs.den {C : Addr} {o : Option (List Nat)} {v : V} {H : Hp} (h : ONs o v H) : Den C H (oD o) v := by
  cases o with
  | none => exact ⟨h, rfl⟩
  | some ns =>
    obtain ⟨p, rfl, h2⟩ := h
    exact ⟨p, ns.map nV, rfl, .inl h2, den_nsL ns⟩
section
variable {P : Program} {w : World} {K : PySem.W.Frag} {mg : Str → Option Value} {base : Heap} {f C : Addr} {fd : FuncData} {H : Hp} {σ : L2.St}
abbrev tSplit (ta tb : TE) : TE := tM1 (fun x xs H Q => ∃ a b, x = .str a ∧ xs = [.str b] ∧ (b.length == 0) = false ∧ a.length + 2 ≤ sizeLine ∧ rNewStrs (Txt.split a b) H Q) ta tb
theorem el_split {ta tb : TE} {x y : Str} (ha : Ev ta σ H (.str x)) (hb : Ev tb σ H (.str y)) (hy : (y.length == 0) = false) (hz : (tl x).length ≤ 100000) : EvL (tSplit ta tb) σ H ((Txt.split x y).map V.str) := fun H1 e Q q =>
  ha H1 e _ fun H2 e2 => ⟨⟨x, rfl⟩, hb H2 (e.trans e2) _ fun H3 e3 => ⟨x, y, rfl, rfl, hy, by rw [len_tl, sizeLine_eq]; omega, fun p hp => q p _ (fresh_back (e2.trans e3) hp) ((e2.trans e3).trans (Ex.new hp)) upd_same⟩⟩
theorem split_cut {x : Str} {s : Nat} {y : Str} (hy : tl y = [s]) (hs : y.cps.all (· < 256) = true) : (Txt.split x y).map tl = Pap.cut s (tl x) := by
  rw [split_spl x y (by rw [hy]; simp) (kind_ok hs), hy]
  rfl
abbrev tJoin (K : PySem.W.Frag) (ta tb : TE) : TE := tM1 (fun x xs H Q => ∃ a p, ∃ ys : List Str, x = .str a ∧ xs = [.ref p] ∧ (SqL K H p (ys.map V.str) ∨ SqT K H p (ys.map V.str)) ∧ (ys.map (·.length)).sum + ys.length * a.length ≤ 16777216 ∧ Q (.str (Txt.join a ys)) H) ta tb
/-- sep.join(xs), the list told -/
theorem ep_join {ta tb : TE} {y : Str} {P1 Pq : V → Hp → Prop} (ha : Ev ta σ H (.str y)) (hb : EvP tb σ H P1) (h : ∀ v H', Ex H H' → P1 v H' → ∃ p, ∃ ys : List Str, v = .ref p ∧ H' p = some (.lst (ys.map V.str)) ∧ (ys.map (·.length)).sum + ys.length * y.length ≤ 16777216 ∧ Pq (.str (Txt.join y ys)) H') :
    EvP (tJoin K ta tb) σ H Pq := fun H1 e Q q =>
  ha H1 e _ fun H2 e2 => ⟨⟨y, rfl⟩, hb H2 (e.trans e2) _ fun v H' H3 s p => by
    obtain ⟨a, ys, rfl, h1, h2, h3⟩ := h v H' s.loc p
    exact ⟨y, a, ys, rfl, rfl, .inl (.inl (.inl (s.inn _ _ h1))), h2, q _ H' H3 ((Step.ex e e2).trans s) h3⟩⟩
/-- over the signs of a text -/
theorem ep_lcS {te tl' : TE} {x : Str} {j : Nat} {vs : List Nat} (R : Nat → V → Hp → Prop) (stab : ∀ i v A B, Ex A B → R i v A → R i v B) (h : Ev tl' σ H (.str x)) (hz : (tl x).length ≤ 40000) (hw : ∀ x, wipe ((wipe σ vs).set j (some x)) vs = wipe σ vs)
    (he : ∀ (i : Nat) (c : Nat) H', Ex H H' → (tl x)[i]? = some c → EvP te ((wipe σ vs).set j (some (.str ⟨#[c]⟩))) H' (R i)) : EvP (tLc (iStr tl') (gName j) tYes te vs) σ H (LcP H (tl x).length R) := fun H0 e Q q =>
  h H0 e _ fun H1 e1 => ⟨x, rfl, by
    have hsz : x.cps.size = (tl x).length := by simp [tl]
    refine lcG (J := Its x) R stab hz (e.trans e1) (fun i H2 hi _ => by show i < x.cps.size; omega) (fun H2 _ => by show x.cps.size ≤ _; omega) (fun i H2 v H3 hi e2 y => by
      obtain ⟨e3, c, hc, rfl⟩ := y
      subst e3
      exact ⟨_, Ex.refl _, fun Qg z => z, hw _, fun H' e' => he i c H' e' (by rw [tl, ← hc]; simp)⟩) fun v H' H3 s r => q v H' H3 ((Step.ex e e1).trans s) r⟩
/-! ### numbers_in -/
abbrev nNi : List Str := ["line", "pieces", "piece", "sign"]
theorem scNi : FnScope nNi ["line"] (defScope (top 12)) := ⟨rfl, rfl, rfl, by decide +kernel, rfl, by decide +kernel, by decide +kernel⟩
def preTx (x : Str) (vs : List V) (H : Hp) : Prop := vs = [.str x] ∧ (tl x).length ≤ 30000 ∧ Run 600 (tl x)
abbrev spNi : Sp := spP preTx (fun x v H => ONs (Pap.pNums (tl x)) v H)
theorem digs : tl ("0123456789" : Str) = [48, 49, 50, 51, 52, 53, 54, 55, 56, 57] := by decide +kernel
theorem dig_mem (c : Nat) : decide (c ∈ tl ("0123456789" : Str)) = Pap.isD c := by
  rw [digs]
  rw [Bool.eq_iff_iff, decide_eq_true_iff, Pap.isD_iff]
  simp only [List.mem_cons, List.not_mem_nil, or_false]
  omega
theorem all_map_range {l : List Nat} {g : Nat → Bool} : (l.map g).all id = l.all g := by rw [List.all_map]; rfl
theorem emp_dec (x : Str) : (!decide (V.str x = V.str (""  : Str))) = !(tl x).isEmpty := by
  rw [str_dec]
  have : tl ("" : Str) = [] := by decide +kernel
  rw [this]
  cases tl x <;> rfl
/-- piece != '' and all([sign in digits for sign in piece]) -/
theorem ep_digits {K : PySem.W.Frag} {x : Str} {i j : Nat} (hi : σ[i]? = some (some (.str x))) (hij : i ≠ j) (hj : j < σ.length) (hz : (tl x).length ≤ 30000) :
    EvP (tCB (rAll K) (tCons (tLc (iStr (tVar i)) (gName j) tYes (tOp (fun x y H Q => ∃ (c : Nat) (z : Str), x = .str ⟨#[c]⟩ ∧ y = .str z ∧ Q (.bl (decide (c ∈ z.cps.toList))) H) (tVar j) (tC (.str ("0123456789" : Str)))) [j]) tNil)) σ H (Eqv (.bl ((tl x).all Pap.isD))) := by
  have hw : ∀ x, wipe ((wipe σ [j]).set j (some x)) [j] = wipe σ [j] := fun x => by
    show ((σ.set j none).set j (some x)).set j none = σ.set j none
    rw [List.set_set, List.set_set]
  have gj : ∀ x, ((wipe σ [j]).set j (some x))[j]? = some (some x) := fun x => by
    show ((σ.set j none).set j (some x))[j]? = _
    rw [List.set_set, List.getElem?_set_self hj]
  refine ep_cb1 (ep_lcS (fun k y _ => ∃ b, ((tl x).map Pap.isD)[k]? = some b ∧ y = V.bl b) (fun _ _ _ _ _ h => h) (ev_var hi) (by omega) hw fun k c H' e hc => ?_) fun v H' e h => ?_
  · refine fun H1 e1 Q q => ⟨_, gj _, c, ("0123456789" : Str), rfl, rfl, q _ H' H1 (Step.refl e1) ⟨Pap.isD c, by rw [List.getElem?_map, hc]; rfl, ?_⟩⟩
    show V.bl (decide (c ∈ tl ("0123456789" : Str))) = V.bl (Pap.isD c)
    rw [dig_mem]
  · obtain ⟨p, ys, rfl, _, h2, h3, h4⟩ := h
    have ez := bls_ofL (bs := (tl x).map Pap.isD) (by rw [List.length_map]; omega) h4
    rw [ez] at h2
    refine gv_all (ys := ys) _ h2 ?_
    rw [all_map_range]
    rfl
theorem ok_numbers (F : FnT K "numbers_in" 12 f fd) (fr : Fr mg) : FnOk P w K mg base CX0 1 f fd ["line"] spNi := by
  refine okP F scNi (fun x vs H h => ?_) (fun cdv A outer s H1 vs E x H hr h => ?_)
  · obtain ⟨rfl, _⟩ := h
    rfl
  · obtain ⟨rfl, hz, hrun⟩ := h
    refine ⟨_, PSs.nox (pss_cons (ps_set (i := 1) scNi.nd rfl (.inl rfl) (pe_split (pv 0) pe_str))
      (pss_cons (ps_if (pt_not (pt_val (pe_callB (cr_all rfl) rfl fr.all_ bt_all (pa_cons (pe_lc (own := [("piece", 2)]) (g := gName 2) (tt := tYes) rfl scNi.nd (pi_list (pv 1)) (blkOk_by (N := nNi) (sc := defScope (top 12)) (by decide +kernel)) (fun _ _ _ _ _ => pg_name (i := 2) scNi.nd rfl (Or.inl rfl)) (fun _ _ _ _ _ => pts_nil)
        (fun _ _ _ _ _ => pe_and (pe_cmpR op_ne (pv 2) pe_str (nomark _)) (pe_one (pe_callB (r := rAll K) (cr_all rfl) rfl fr.all_ bt_all (pa_cons (pe_lc (own := [("sign", 3)]) (g := gName 3) (tt := tYes) rfl scNi.nd (pi_str (pv 2))
          (blkOk_by (N := nNi) (sc := cSc [(".0", .local), ("piece", .local), ("all", .globalImplicit)]) (by decide +kernel)) (fun _ _ _ _ _ => pg_name (i := 3) scNi.nd rfl (Or.inl rfl)) (fun _ _ _ _ _ => pts_nil) (fun _ _ _ _ _ => pe_cmpR op_in_sign (pv 3) pe_str rfl)) pa_nil))))) pa_nil)))) (pss_one (ps_ret pe_non)) pss_nil)
      (pss_one (ps_ret (pe_lc (own := [("piece", 2)]) (g := gName 2) (tt := tYes) rfl scNi.nd (pi_list (pv 1)) (blkOk_by (N := nNi) (sc := defScope (top 12)) (by decide +kernel)) (fun _ _ _ _ _ => pg_name (i := 2) scNi.nd rfl (Or.inl rfl)) (fun _ _ _ _ _ => pts_nil)
        (fun _ _ _ _ _ => pe_callTy call_int_str rfl fr.int_ bt_int (pa_cons (pv 2) pa_nil))))))), ?_⟩
    have hsc := split_cut (x := x) (y := (" " : Str)) (s := 32) (by decide +kernel) (by decide +kernel)
    have hcl := cut_len 32 (tl x)
    have hlen : (Txt.split x (" " : Str)).length = (Pap.cut 32 (tl x)).length := by rw [← hsc, List.length_map]
    have pie : ∀ (i : Nat) (v : V), ((Txt.split x (" " : Str)).map V.str)[i]? = some v → ∃ z, v = V.str z ∧ (Pap.cut 32 (tl x))[i]? = some (tl z) ∧ tl z ∈ Pap.cut 32 (tl x) ∧ (tl z).length ≤ 30000 := fun i v hv => by
      rw [List.getElem?_map] at hv
      obtain ⟨z, hz1, rfl⟩ := Option.map_eq_some_iff.mp hv
      have hz2 : (Pap.cut 32 (tl x))[i]? = some (tl z) := by rw [← hsc, List.getElem?_map, hz1]; rfl
      have hm := List.mem_of_getElem? hz2
      exact ⟨z, rfl, hz2, hm, Nat.le_trans (cut_part hm) hz⟩
    refine sv_set (ep_ofL (el_split (ev_var rfl) ev_c (by decide +kernel) (by omega))) fun v H' e hv => ?_
    obtain ⟨p, rfl, _, hp⟩ := hv
    have evA : EvT (tB (tCB (rAll K) (tCons (tLc (iList K (tVar 1)) (gName 2) tYes (tAndV (tOp rNe (tVar 2) (tC (.str ("" : Str)))) (tCB (rAll K) (tCons (tLc (iStr (tVar 2)) (gName 3) tYes (tOp (fun x y H Q => ∃ (c : Nat) (z : Str), x = .str ⟨#[c]⟩ ∧ y = .str z ∧ Q (.bl (decide (c ∈ z.cps.toList))) H) (tVar 3) (tC (.str ("0123456789" : Str)))) [3]) tNil))) [2]) tNil)))
        ((L2.start nNi [.str x]).set 1 (some (.ref p))) H' ((Pap.cut 32 (tl x)).all Pap.numP) := by
      refine et_B (EvP.ev (ep_cb1 (ep_lcL (fun i y _ => ∃ b, ((Pap.cut 32 (tl x)).map Pap.numP)[i]? = some b ∧ y = V.bl b) (fun _ _ _ _ _ h => h) (ev_var rfl) (.inl (.inl hp)) (by rw [List.length_map]; omega) (fun x => rfl) fun i v H2 e2 hv => ?_) fun v H2 e2 h => ?_))
      · obtain ⟨z, rfl, hz2, hm, hzl⟩ := pie i v hv
        refine ep_ofP (v := .bl (!(tl z).isEmpty && (tl z).all Pap.isD)) (ev_andV ?_ fun _ => EvP.ev (ep_digits rfl (by decide) (by show 3 < 4; decide) hzl)) ⟨Pap.numP (tl z), by rw [List.getElem?_map, hz2]; rfl, rfl⟩
        have := ev_op (σ := (wipe ((L2.start nNi [.str x]).set 1 (some (.ref p))) [2]).set 2 (some (.str z))) (ta := tVar 2) (tb := tC (.str ("" : Str))) (ev_var rfl) ev_c (rv_ne (H := H2) (x := .str z) (y := .str ("" : Str)) rfl)
        rw [emp_dec] at this
        exact this
      · obtain ⟨q, ys, rfl, _, h2, h3, h4⟩ := h
        have ez := bls_ofL (bs := (Pap.cut 32 (tl x)).map Pap.numP) (by rw [List.length_map] at *; omega) h4
        rw [ez] at h2
        refine gv_all (ys := ys) _ h2 ?_
        rw [List.all_map]
        rfl
    by_cases hall : (Pap.cut 32 (tl x)).all Pap.numP = true
    · rw [hall] at evA
      refine sv_when (et_not evA) (fun z => nomatch z) fun _ => sv_ret ?_
      refine Gv.imp (ep_lcL (fun i y _ => y = nV (Pap.val ((Pap.cut 32 (tl x)).getD i []))) (fun _ _ _ _ _ h => h) (ev_var rfl) (.inl (.inl hp)) (by rw [List.length_map]; omega) (fun x => rfl) fun i v H2 e2 hv => ?_) fun v H2 e2 h => ?_
      · obtain ⟨z, rfl, hz2, hm, hzl⟩ := pie i v hv
        obtain ⟨n1, n2⟩ := Pap.numP_iff.mp (List.all_eq_true.mp hall _ hm)
        have hzr : (tl z).length ≤ 600 := hrun.cut hm [] (tl z) [] (by simp) n2
        have hint := intText_digits (x := z) n2 n1 (by rw [len_tl]; omega)
        refine fun H3 e3 Q q => ⟨.str z, rfl, z, _, rfl, hint, by rw [len_tl]; omega, q _ H2 H3 (Step.refl e3) ?_⟩
        rw [List.getD_eq_getElem?_getD, hz2]
        rfl
      · obtain ⟨q, ys, rfl, _, h2, h3, h4⟩ := h
        rw [Pap.pNums, if_pos hall]
        refine ⟨q, rfl, ?_⟩
        rw [h2]
        congr 2
        refine List.ext_getElem? fun i => ?_
        by_cases hi : i < ys.length
        · have h1 : ys[i]? = some ys[i] := List.getElem?_eq_getElem hi
          have hi2 : i < (Pap.cut 32 (tl x)).length := by rw [h3, List.length_map] at hi; omega
          rw [h1, h4 i _ h1, List.getElem?_map, List.getElem?_map, List.getElem?_eq_getElem hi2, List.getD_eq_getElem?_getD, List.getElem?_eq_getElem hi2]
          rfl
        · rw [List.getElem?_eq_none (by omega), List.getElem?_eq_none (by rw [h3, List.length_map] at hi; simp; omega)]
    · have hall' : (Pap.cut 32 (tl x)).all Pap.numP = false := by simpa using hall
      rw [hall'] at evA
      refine sv_when (et_not evA) (fun _ => sv_ret (ep_ofP ev_c ?_)) (fun z => nomatch z)
      rw [Pap.pNums, if_neg hall]
      rfl
end
end G

/-! row_in, bits_of, line_of, lines_of, many, needs. -/
namespace G
open PySem PySem.Spec PyProof.Rows L2 Evl Tp RZ TL
open StX
theorem cut_take (x : Str) (k : Nat) : tl (cutS x none (some ((k : Nat) : Int))) = (tl x).take k := by
  unfold cutS
  rw [tl_mk, HT.sIx_none, HT.sIx_nat, Nat.sub_zero, List.drop_zero]
  by_cases h : k ≤ x.length
  · rw [Nat.min_eq_left h]
  · have h2 := len_tl x
    rw [Nat.min_eq_right (by omega), List.take_of_length_le (by show (tl x).length ≤ _; omega), List.take_of_length_le (by omega)]
theorem cut_drop (x : Str) (k : Nat) : tl (cutS x (some ((k : Nat) : Int)) none) = (tl x).drop k := by
  unfold cutS
  rw [tl_mk, HT.sIx_none, HT.sIx_nat]
  by_cases h : k ≤ x.length
  · rw [Nat.min_eq_left h, List.take_of_length_le (by rw [List.length_drop]; have := len_tl x; show (tl x).length - k ≤ _; omega)]
  · have h2 := len_tl x
    rw [Nat.min_eq_right (by omega), List.drop_of_length_le (by show (tl x).length ≤ _; omega), List.drop_of_length_le (by omega), List.take_nil]
theorem Run.drop {k n : Nat} {t : Pap.Tx} (h : Run k t) : Run k (t.drop n) := h.sub (a := t.take n) (b := []) (by simp)
theorem Run.take {k n : Nat} {t : Pap.Tx} (h : Run k t) : Run k (t.take n) := h.sub (a := []) (b := t.drop n) (by simp)
theorem joinL_len {S : Pap.Tx} : ∀ {ps : List Pap.Tx}, ps ≠ [] → (ps.map List.length).sum + ps.length * S.length = (joinL S ps).length + S.length
  | [p], _ => by simp [joinL]
  | p :: q :: r, _ => by
    have := joinL_len (S := S) (ps := q :: r) (by simp)
    rw [List.map_cons, List.sum_cons, List.length_cons, Nat.add_mul, Nat.one_mul]
    show _ = (p ++ (S ++ joinL S (q :: r))).length + S.length
    rw [List.length_append, List.length_append]
    omega
theorem join_part {S : Pap.Tx} {ps : List Pap.Tx} {p : Pap.Tx} (h : p ∈ ps) : p.length ≤ (joinL S ps).length := by
  obtain ⟨l, r, e⟩ := Pap.part_of (S := S) h
  rw [e]
  simp only [List.length_append]
  omega
section
variable {P : Program} {w : World} {K : PySem.W.Frag} {mg : Str → Option Value} {base : Heap} {f C : Addr} {fd : FuncData} {H : Hp} {σ : L2.St}
theorem ev_slS {te : TE} {tlo thi : TO} {z : Str} {lo hi : Option Int} (h : Ev te σ H (.str z)) (h1 : EvO tlo σ H lo) (h2 : EvO thi σ H hi) (hz : (tl z).length ≤ 100000) : Ev (tSl rSlS te tlo thi) σ H (.str (cutS z lo hi)) := fun H1 e Q q =>
  h H1 e _ fun H2 e2 => h1 H2 (e.trans e2) _ fun H3 e3 => h2 H3 ((e.trans e2).trans e3) _ fun H4 e4 => ⟨z, rfl, by rw [len_tl, sizeLine_eq]; omega, q H4 ((e2.trans e3).trans e4)⟩
theorem ev_eqS {ta tb : TE} {x y : Str} {b : Bool} (ha : Ev ta σ H (.str x)) (hb : Ev tb σ H (.str y)) (e : decide (tl x = tl y) = b) : Ev (tOp rEq ta tb) σ H (.bl b) := by
  have := ev_op ha hb (rv_eq (H := H) (x := .str x) (y := .str y) rfl)
  rw [str_dec, e] at this
  exact this
theorem ev_neS {ta tb : TE} {x y : Str} {b : Bool} (ha : Ev ta σ H (.str x)) (hb : Ev tb σ H (.str y)) (e : (!decide (tl x = tl y)) = b) : Ev (tOp rNe ta tb) σ H (.bl b) := by
  have := ev_op ha hb (rv_ne (H := H) (x := .str x) (y := .str y) rfl)
  rw [str_dec, e] at this
  exact this
/-! ### row_in -/
theorem scRi : FnScope ["line"] ["line"] (defScope (top 19)) := ⟨rfl, rfl, rfl, by decide +kernel, rfl, by decide +kernel, by decide +kernel⟩
abbrev spRi : Sp := spP preTx (fun x v H => ONs (Pap.pRow (tl x)) v H)
theorem tNeeds : tl ("needs" : Str) = Pap.cNeeds := by decide +kernel
theorem tNeeds_ : tl ("needs " : Str) = Pap.cNeeds ++ [32] := by decide +kernel
theorem ok_row_in (F : FnT K "row_in" 19 f fd) (KN : Kp P w K mg base CX0 1 "numbers_in" ["line"] spNi) : FnOk P w K mg base CX0 2 f fd ["line"] spRi := by
  refine okP F scRi (fun x vs H h => ?_) (fun cdv A outer s H1 vs E x H hr h => ?_)
  · obtain ⟨rfl, _⟩ := h
    rfl
  · obtain ⟨rfl, hz, hrun⟩ := h
    refine ⟨_, PSs.nox (pss_cons (ps_if (pt_cmpR op_eq (pv 0) pe_str (nomark _)) (pss_one (ps_ret (pe_lst pa_nil))) pss_nil)
      (pss_one (ps_ret (pe_ifExp (pt_cmpR op_eq (pe_slice sl_str (pv 0) po_none (po_some pe_int)) pe_str (nomark _)) (pe_cl KN hr (pa_cons (pe_slice sl_str (pv 0) (po_some pe_int) po_none) pa_nil)) pe_non)))), ?_⟩
    by_cases h1 : tl x = Pap.cNeeds
    · refine sv_when (b := true) (et_test (ev_eqS (ev_var rfl) ev_c (by rw [tNeeds, decide_eq_true h1]))) (fun _ => sv_ret ?_) (fun z => nomatch z)
      refine Gv.imp (ep_ofL (el_lst ea_nil (by decide))) fun v H' e hv => ?_
      obtain ⟨p, rfl, _, h2⟩ := hv
      rw [Pap.pRow, if_pos h1]
      exact ⟨p, rfl, h2⟩
    · refine sv_when (b := false) (et_test (ev_eqS (ev_var rfl) ev_c (by rw [tNeeds, decide_eq_false h1]))) (fun z => nomatch z) fun _ => sv_ret ?_
      have evc : ∀ b, decide ((tl x).take 6 = Pap.cNeeds ++ [32]) = b → EvT (tTest (tOp rEq (tSl rSlS (tVar 0) tNoPart (tPart (tC (.int 6)))) (tC (.str ("needs " : Str))))) (L2.start ["line"] [.str x]) H b := fun b hb =>
        et_test (ev_eqS (ev_slS (ev_var rfl) eo_none (eo_some ev_c) (by omega)) ev_c (by rw [tNeeds_, show cutS x none (some 6) = cutS x none (some ((6 : Nat) : Int)) from rfl, cut_take]; exact hb))
      rw [Pap.pRow, if_neg h1]
      by_cases h2 : (tl x).take 6 = Pap.cNeeds ++ [32]
      · refine ep_if (evc true (decide_eq_true h2)) (fun _ => ?_) (fun z => nomatch z)
        refine ep_callA (ea_cons (ev_slS (ev_var rfl) (eo_some ev_c) eo_none (by omega)) ea_nil) (gv_spP (cutS x (some ((6 : Nat) : Int)) none) ⟨rfl, by rw [cut_drop, List.length_drop]; omega, by rw [cut_drop]; exact hrun.drop⟩ fun v H' e hv => ?_)
        rw [if_pos h2]
        rw [cut_drop] at hv
        exact hv
      · refine ep_if (evc false (decide_eq_false h2)) (fun z => nomatch z) (fun _ => ep_ofP ev_c ?_)
        rw [if_neg h2]
        rfl
/-! ### loops over a list -/
theorem sv_forL {a : Addr} {xs : List V} {tl' : TE} {j : Nat} {tu : TS} {Nx : L2.St → Hp → Prop} {Rt : V → Hp → Prop} (h : Ev tl' σ H (.ref a)) (hx : SqL K H a xs) (Pv : Nat → L2.St → Hp → Prop) (h0 : Pv 0 σ H)
    (hs : ∀ i x σ' H', Ex H H' → xs[i]? = some x → Pv i σ' H' → Sv tu (σ'.set j (some x)) H' (fun σ2 H2 => Pv (i + 1) σ2 H2) Rt) (hd : ∀ σ' H', Ex H H' → Pv xs.length σ' H' → Nx σ' H') : Sv (tFor (iList K tl') (gName j) tu) σ H Nx Rt := fun H1 e D dn dr =>
  s_forL (h.mono e) (ex_l e hx) (fun i σ' Ht => ∃ H', Step H H1 H' Ht ∧ Pv i σ' H') (fun H2 e2 => ⟨H, Step.ex e e2, h0⟩) (fun i σ' Ht _ ⟨H', s, _⟩ => ex_l (s.loc.trans s.inn) hx)
    (fun i x σ' Ht hi ⟨H', s, p⟩ => hs i x σ' H' s.loc hi p Ht s.inn _ (fun σ2 H2 H3 s2 q => ⟨H2, s.trans s2, q⟩) fun v H2 H3 s2 q => dr v H2 H3 (s.trans s2) q)
    (fun σ' Ht ⟨H', s, p⟩ => dn σ' H' Ht s (hd σ' H' s.loc p))
theorem sv_forLq {a : Addr} {xs : List V} {tl' : TE} {j : Nat} {tu tz : TS} {Nx : L2.St → Hp → Prop} {Rt : V → Hp → Prop} (h : Ev tl' σ H (.ref a)) (hx : SqL K H a xs) (Pv : Nat → L2.St → Hp → Prop) (h0 : Pv 0 σ H)
    (hs : ∀ i x σ' H', Ex H H' → xs[i]? = some x → Pv i σ' H' → Sv tu (σ'.set j (some x)) H' (fun σ2 H2 => Pv (i + 1) σ2 H2) Rt) (hd : ∀ σ' H', Ex H H' → Pv xs.length σ' H' → Sv tz σ' H' Nx Rt) : Sv (tSeq (tFor (iList K tl') (gName j) tu) tz) σ H Nx Rt :=
  sv_seq (sv_forL h hx Pv h0 hs (Nx := fun σ' H' => Ex H H' ∧ Pv xs.length σ' H') fun σ' H' e p => ⟨e, p⟩) fun σ' H' e p => hd σ' H' e p.2
/-! ### bits_of -/
theorem scBo : FnScope ["blocks", "found", "block"] ["blocks"] (defScope (top 11)) := ⟨rfl, rfl, rfl, by decide +kernel, rfl, by decide +kernel, by decide +kernel⟩
def preBo (K : PySem.W.Frag) (ns : List Nat) (vs : List V) (H : Hp) : Prop := ∃ a, vs = [.ref a] ∧ SqL K H a (ns.map nV) ∧ ∀ n ∈ ns, n ≤ 1000000
abbrev spBo (K : PySem.W.Frag) : Sp := spP (preBo K) (fun _ v _ => ∃ z, v = .int z)
theorem ok_bits (F : FnT K "bits_of" 11 f fd) : FnOk P w K mg base CX0 1 f fd ["blocks"] (spBo K) := by
  refine okP F scBo (fun x vs H h => ?_) (fun cdv A outer s H1 vs E ns H hr h => ?_)
  · obtain ⟨a, rfl, _⟩ := h
    rfl
  · obtain ⟨a, rfl, ha, hb⟩ := h
    refine ⟨_, PSs.nox (pss_cons (ps_set (i := 1) scBo.nd rfl (.inl rfl) pe_int)
      (pss_cons (ps_for PassesOwn.never rfl (pi_list (pv 0)) (pg_name (i := 2) scBo.nd rfl (.inl rfl)) (pss_one (ps_aug (i := 1) (ti := rI0 fun i j => .int (Builtin.bitOr i j)) scBo.nd rfl (.inl rfl) (pe_op op_shl pe_int (pv 2)) iop_or)))
      (pss_one (ps_ret (pv 1))))), ?_⟩
    refine sv_set (ep_of ev_c) fun v H' e hv => ?_
    cases (show v = .int 0 from hv)
    refine sv_forLq (ev_var rfl) (ex_l e ha) (fun i σ' H' => ∃ z y, σ' = [some (.ref a), some (.int z), y]) ⟨0, none, rfl⟩ (fun i x σ' H2 e2 hx ⟨z, y, hσ⟩ => ?_) fun σ' H2 e2 ⟨z, y, hσ⟩ => ?_
    · subst hσ
      rw [List.getElem?_map] at hx
      obtain ⟨n, hn, rfl⟩ := Option.map_eq_some_iff.mp hx
      have hn' := hb n (List.mem_of_getElem? hn)
      intro H3 e3 D dn dr
      exact ⟨.int z, rfl, nV n, rfl, 1, (n : Int), rfl, rfl, ⟨by omega, by omega, by decide⟩, z, _, rfl, rfl, dn _ H2 H3 (Step.refl e3) ⟨_, _, rfl⟩⟩
    · subst hσ
      exact sv_ret (ep_var rfl ⟨z, rfl⟩)
/-! ### str of numbers, join -/
abbrev nS (n : Nat) : Str := Str.ofString (toString ((n : Nat) : Int))
theorem log_ok {n : Nat} (h : n < 2 ^ 1000) : ((n : Nat) : Int).natAbs.log2 < 1920 := by
  show n.log2 < 1920
  by_cases h0 : n = 0
  · subst h0; decide
  · have := (Nat.log2_lt h0).mpr h
    omega
abbrev tStrI (te : TE) : TE := tCB (fun xs H Q => ∃ i : Int, xs = [.int i] ∧ i.natAbs.log2 < 1920 ∧ Q (.str (Str.ofString (toString i))) H) (tCons te tNil)
theorem ev_str {te : TE} {n : Nat} (h : Ev te σ H (nV n)) (hn : n < 2 ^ 1000) : Ev (tStrI te) σ H (.str (nS n)) := ev_cb (ea_cons h ea_nil) fun H1 e Q q => ⟨(n : Int), rfl, log_ok hn, q H1 (Ex.refl _)⟩
/-- [str(n) for n in ns] -/
theorem ep_strs {tl' : TE} {a : Addr} {ns : List Nat} {j : Nat} (h : Ev tl' σ H (.ref a)) (ha : SqL K H a (ns.map nV)) (hz : ns.length ≤ 40000) (hn : ∀ n ∈ ns, n < 2 ^ 1000) (hj : j < σ.length) :
    EvP (tLc (iList K tl') (gName j) tYes (tStrI (tVar j)) [j]) σ H (fun v H' => ∃ p, v = .ref p ∧ H p = none ∧ H' p = some (.lst ((ns.map nS).map V.str))) := by
  have hw : ∀ x, wipe ((wipe σ [j]).set j (some x)) [j] = wipe σ [j] := fun x => by
    show ((σ.set j none).set j (some x)).set j none = σ.set j none
    rw [List.set_set, List.set_set]
  have gj : ∀ x, ((wipe σ [j]).set j (some x))[j]? = some (some x) := fun x => by
    show ((σ.set j none).set j (some x))[j]? = _
    rw [List.set_set, List.getElem?_set_self hj]
  refine Gv.imp (ep_lcL (fun i y _ => y = V.str (nS (ns.getD i 0))) (fun _ _ _ _ _ h => h) h ha (by rw [List.length_map]; exact hz) hw fun i x H' e hx => ?_) fun v H' e h => ?_
  · rw [List.getElem?_map] at hx
    obtain ⟨n, hn', rfl⟩ := Option.map_eq_some_iff.mp hx
    refine ep_ofP (ev_str (ev_var (gj _)) (hn n (List.mem_of_getElem? hn'))) ?_
    rw [List.getD_eq_getElem?_getD, hn']
    rfl
  · obtain ⟨p, ys, rfl, h1, h2, h3, h4⟩ := h
    refine ⟨p, rfl, h1, ?_⟩
    rw [h2]
    congr 2
    rw [List.length_map] at h3
    refine List.ext_getElem? fun i => ?_
    by_cases hi : i < ns.length
    · have q : ys[i]? = some ys[i] := List.getElem?_eq_getElem (by omega)
      rw [q, h4 i _ q, List.getElem?_map, List.getElem?_map, List.getElem?_eq_getElem hi, List.getD_eq_getElem?_getD, List.getElem?_eq_getElem hi]
      rfl
    · rw [List.getElem?_eq_none (by omega), List.getElem?_eq_none (by simp; omega)]
theorem tl_nS (ns : List Nat) : (ns.map nS).map tl = ns.map numL := by
  rw [List.map_map]
  exact congrArg (fun g => ns.map g) (funext fun n => tl_num n)
theorem sum_len (ys : List Str) : (ys.map (·.length)).sum = ((ys.map tl).map List.length).sum := by
  rw [List.map_map]
  refine congrArg List.sum (congrArg (fun g => ys.map g) (funext fun y => ?_))
  exact len_tl y
theorem join_ok {y : Str} {ys : List Str} (h : (joinL (tl y) (ys.map tl)).length ≤ 1000000) (hy : (tl y).length ≤ 10) : (ys.map (·.length)).sum + ys.length * y.length ≤ 16777216 := by
  by_cases h0 : ys = []
  · subst h0
    simp
  · have := joinL_len (S := tl y) (ps := ys.map tl) (by simpa using h0)
    rw [sum_len, len_tl y]
    rw [List.length_map] at this
    omega
/-! ### line_of -/
theorem scLo : FnScope ["lot", "block"] ["lot"] (defScope (top 22)) := ⟨rfl, rfl, rfl, by decide +kernel, rfl, by decide +kernel, by decide +kernel⟩
def preLo (K : PySem.W.Frag) (ns : List Nat) (vs : List V) (H : Hp) : Prop := ∃ a, vs = [.ref a] ∧ SqL K H a (ns.map nV) ∧ ns.length ≤ 30000 ∧ (∀ n ∈ ns, n < 2 ^ 1000) ∧ (Pap.lineOf ns).length ≤ 1000000
def isStr (t : Pap.Tx) (v : V) (_ : Hp) : Prop := ∃ x, v = .str x ∧ tl x = t
abbrev spLo (K : PySem.W.Frag) : Sp := spP (preLo K) (fun ns v H => isStr (Pap.lineOf ns) v H)
theorem dp_ns (K : PySem.W.Frag) (H : Hp) : ∀ ns : List Nat, DpAll K H (ns.map nV) ((ns.map fun n : Nat => (n : Int)).map PyData.int)
  | [] => .nil
  | n :: ns => .cons (.int _) (dp_ns K H ns)
theorem shaped_ints (r : List Int) : SeqAt.shaped (intsP r) = true := by
  obtain ⟨h1, h2⟩ := lay_ints r
  show (PyData.canLayAll0 (r.map PyData.int) && decide (PyData.depthAll (r.map PyData.int) + 1 ≤ 64)) = true
  rw [h1, h2]
  rfl
theorem ints_emp (ns : List Nat) : PyData.eqv (intsP (ns.map fun n : Nat => (n : Int))) (.list []) = ns.isEmpty := by
  cases ns with
  | nil => rfl
  | cons n ns => rfl
/-- xs != [], xs == [] -/
theorem ev_neE {ta : TE} {a : Addr} {ns : List Nat} (h : Ev ta σ H (.ref a)) (ha : SqL K H a (ns.map nV)) : Ev (tOp (rNeD K) ta (tLst tNil)) σ H (.bl (!ns.isEmpty)) :=
  ev_opL h (el_lst ea_nil (by decide)) fun p H1 hp e => fun H2 e2 Q q => ⟨_, _, .lst (ex_l (e.trans e2) ha) (dp_ns K H2 ns), .lst (.inl (.inl (e2 _ _ hp))) .nil, shaped_ints _, rfl, by
    have := q H2 (Ex.refl _)
    rw [← ints_emp] at this
    exact this⟩
theorem ev_eqE {ta : TE} {a : Addr} {ns : List Nat} (h : Ev ta σ H (.ref a)) (ha : SqL K H a (ns.map nV)) : Ev (tOp (rEqD K) ta (tLst tNil)) σ H (.bl ns.isEmpty) :=
  ev_opL h (el_lst ea_nil (by decide)) fun p H1 hp e => fun H2 e2 Q q => ⟨_, _, .lst (ex_l (e.trans e2) ha) (dp_ns K H2 ns), .lst (.inl (.inl (e2 _ _ hp))) .nil, shaped_ints _, rfl, by
    have := q H2 (Ex.refl _)
    rw [← ints_emp] at this
    exact this⟩
theorem tSp : tl (" " : Str) = [32] := by decide +kernel
theorem tDash : tl ("-" : Str) = [45] := by decide +kernel
theorem tNl : tl ("\n" : Str) = [10] := by decide +kernel
theorem ok_line_of (F : FnT K "line_of" 22 f fd) (fr : Fr mg) : FnOk P w K mg base CX0 1 f fd ["lot"] (spLo K) := by
  refine okP F scLo (fun x vs H h => ?_) (fun cdv A outer s H1 vs E ns H hr h => ?_)
  · obtain ⟨a, rfl, _⟩ := h
    rfl
  · obtain ⟨a, rfl, ha, hz, hn, hl⟩ := h
    refine ⟨_, PSs.nox (pss_one (ps_ret (pe_ifExp (pt_cmpR (op_neD hr.units) (pv 0) (pe_lst pa_nil) (nomark _)) (pe_join pe_str
      (pe_lc (own := [("block", 1)]) (g := gName 1) (tt := tYes) rfl scLo.nd (pi_list (pv 0)) (blkOk_by (N := ["lot", "block"]) (sc := defScope (top 22)) (by decide +kernel)) (fun _ _ _ _ _ => pg_name (i := 1) scLo.nd rfl (Or.inl rfl)) (fun _ _ _ _ _ => pts_nil)
        (fun _ _ _ _ _ => pe_callTy call_str_int rfl fr.str_ bt_str (pa_cons (pv 1) pa_nil)))) pe_str))), ?_⟩
    refine sv_ret (ep_if (et_test (ev_neE (ev_var rfl) ha)) (fun hne => ?_) fun he => ep_ofP ev_c ⟨_, rfl, ?_⟩)
    · have hns : ns ≠ [] := by intro z; subst z; cases hne
      have elo : Pap.lineOf ns = joinL [32] (ns.map numL) := by rw [Pap.lineOf, if_neg hns]
      refine ep_join ev_c (ep_strs (ev_var rfl) ha (by omega) hn (by show 1 < 2; decide)) fun v H' e hv => ?_
      obtain ⟨p, rfl, _, hp⟩ := hv
      have ej : tl (Txt.join (" " : Str) (ns.map nS)) = Pap.lineOf ns := by
        rw [join_eq, tl_join, tSp, tl_nS, elo]
      exact ⟨p, _, rfl, hp, join_ok (by rw [tSp, tl_nS, ← elo]; exact hl) (by rw [tSp]; decide), _, rfl, ej⟩
    · have hns : ns = [] := by cases ns with | nil => rfl | cons => cases he
      subst hns
      rw [tDash]
      rfl
/-! ### a recipe's text -/
abbrev natR (rows : List (List Nat)) : List (List Int) := rows.map fun r => r.map fun n : Nat => (n : Int)
/-- a recipe of the natural numbers m, rows -/
abbrev rcN (a : Addr) (m : Nat) (rows : List (List Nat)) : D := rcpD a (m : Int) (natR rows)
/-- at p a list of the rows -/
def LLx (C : Addr) (H : Hp) (rows : List (List Nat)) (v : V) : Prop := Den C H (rowsD (natR rows)) v
theorem intsD_nat (r : List Nat) : intsD (r.map fun n : Nat => (n : Int)) = .seq false (r.map fun n => .flat (nV n)) := by
  unfold intsD
  rw [List.map_map]
  rfl
theorem LLx.get {C : Addr} {H : Hp} {rows : List (List Nat)} {v : V} (h : LLx C H rows v) : ∃ p ys, v = .ref p ∧ Rd H p (.lst ys) ∧ ys.length = rows.length ∧ ∀ (i : Nat) (y : V), ys[i]? = some y → ∃ (r : List Nat) (a : Addr), rows[i]? = some r ∧ y = V.ref a ∧ Rd H a (.lst (r.map nV)) := by
  obtain ⟨p, ys, rfl, h2, h3⟩ := h
  refine ⟨p, ys, rfl, h2, by rw [DenL.len _ _ h3]; simp, fun i y hy => ?_⟩
  obtain ⟨d, hd1, hd2⟩ := DenL.get _ ys h3 i y hy
  rw [List.getElem?_map, List.getElem?_map] at hd1
  cases q : rows[i]? with
  | none => rw [q] at hd1; cases hd1
  | some r =>
    rw [q] at hd1
    have e : intsD (r.map fun n : Nat => (n : Int)) = d := Option.some.inj hd1
    subst e
    rw [intsD_nat] at hd2
    obtain ⟨a, xs, rfl, k2, k3⟩ := hd2
    rw [den_ns k3] at k2
    exact ⟨r, a, rfl, rfl, k2⟩
theorem LLx.of {C : Addr} {H : Hp} {rows : List (List Nat)} {p : Addr} {ys : List V} (h2 : Rd H p (.lst ys)) (hl : ys.length = rows.length) (h : ∀ (i : Nat) (r : List Nat) (y : V), rows[i]? = some r → ys[i]? = some y → ∃ a, y = V.ref a ∧ Rd H a (.lst (r.map nV))) : LLx C H rows (.ref p) := by
  refine ⟨p, ys, rfl, h2, DenL.of _ _ (by simp [hl]) fun i d y hd hy => ?_⟩
  rw [List.getElem?_map, List.getElem?_map] at hd
  cases q : rows[i]? with
  | none => rw [q] at hd; cases hd
  | some r =>
    rw [q] at hd
    have e : intsD (r.map fun n : Nat => (n : Int)) = d := Option.some.inj hd
    subst e
    obtain ⟨a, rfl, k⟩ := h i r y q hy
    rw [intsD_nat]
    exact ⟨a, r.map nV, rfl, k, den_nsL r⟩
theorem LLx.mono {C : Addr} {H H' : Hp} {rows : List (List Nat)} {v : V} (e : Ex H H') (h : LLx C H rows v) : LLx C H' rows v := Den.mono e _ _ h
/-- numbers and sizes within bounds -/
def okN (m : Nat) (rows : List (List Nat)) : Prop := m < 2 ^ 1000 ∧ (∀ r ∈ rows, r.length ≤ 30000 ∧ ∀ n ∈ r, n < 2 ^ 1000) ∧ rows.length ≤ 30000 ∧ (Pap.recText m rows).length ≤ 1000000
theorem tOld : tl ("old " : Str) = Pap.cOld ++ [32] := by decide +kernel
theorem scLi : FnScope ["recipe", "row", "block"] ["recipe"] (defScope (top 17)) := ⟨rfl, rfl, rfl, by decide +kernel, rfl, by decide +kernel, by decide +kernel⟩
def preRc (C : Addr) (q : Addr × Nat × List (List Nat)) (vs : List V) (H : Hp) : Prop := vs = [.ref q.1] ∧ Den C H (rcN q.1 q.2.1 q.2.2) (.ref q.1) ∧ okN q.2.1 q.2.2
def isStrs (ts : List Pap.Tx) (v : V) (H : Hp) : Prop := ∃ p, ∃ ys : List Str, v = .ref p ∧ H p = some (.lst (ys.map V.str)) ∧ ys.map tl = ts
abbrev spLi (C : Addr) : Sp := spP (preRc C) (fun q v H => isStrs (Pap.recLines q.2.1 q.2.2) v H)
theorem strs_of {ys : List V} {ts : List Pap.Tx} (hl : ys.length = ts.length) (h : ∀ (i : Nat) (y : V), ys[i]? = some y → ∃ x, y = V.str x ∧ ts[i]? = some (tl x)) : ∃ xs : List Str, ys = xs.map V.str ∧ xs.map tl = ts := by
  refine ⟨ts.map fun t => ⟨t.toArray⟩, ?_, ?_⟩
  · refine List.ext_getElem? fun i => ?_
    by_cases hi : i < ys.length
    · have q : ys[i]? = some ys[i] := List.getElem?_eq_getElem hi
      obtain ⟨x, e1, e2⟩ := h i _ q
      rw [q, e1, List.getElem?_map, List.getElem?_map, e2]
      show some (V.str x) = some (V.str ⟨(tl x).toArray⟩)
      rw [mk_tl]
    · rw [List.getElem?_eq_none (by omega), List.getElem?_eq_none (by simp; omega)]
  · rw [List.map_map]
    exact List.map_id ts
/-- [*xs, ..]: the items of a list -/
theorem epa_star {te : TE} {tr : TA} {P1 : V → Hp → Prop} {Pq : List V → Hp → Prop} (h : EvP te σ H P1) (k : ∀ v H', Ex H H' → P1 v H' → ∃ a xs, v = .ref a ∧ SqL K H' a xs ∧ EvPA tr σ H' (fun r H'' => Pq (xs ++ r) H'')) : EvPA (tStar K te tr) σ H Pq := fun H1 e Q q =>
  h H1 e _ fun v H' H2 s p => by
    obtain ⟨a, xs, rfl, hx, hr⟩ := k v H' s.loc p
    exact ⟨a, xs, rfl, .inr (ex_l s.inn hx), hr H2 s.inn _ fun r H'' H3 s2 p2 => q _ _ _ (s.trans s2) p2⟩
theorem ev_fld {te : TE} {a C dx : Addr} {fs : List (Str × V)} {fn : Str} {v : V} (h : Ev te σ H (.ref a)) (hi : H a = some (.ins C dx fs)) (cl : Cls K C) (nf : NoAttr K C fn) (l : fs.lookup fn = some v) : Ev (tFld K te fn) σ H v := fun H1 e Q q =>
  h H1 e _ fun H2 e2 => ⟨a, C, dx, fs, v, rfl, (e.trans e2) _ _ hi, cl, nf, l, q H2 e2⟩
abbrev tNeed (K : PySem.W.Frag) (i j : Nat) : TE := tJoin K (tC (.str (" " : Str))) (tLst (tCons (tC (.str ("needs" : Str))) (tStar K (tLc (iList K (tVar i)) (gName j) tYes (tStrI (tVar j)) [j]) tNil)))
theorem ep_needs {tl' : TE} {a : Addr} {ns : List Nat} {j : Nat} (h : Ev tl' σ H (.ref a)) (ha : SqL K H a (ns.map nV)) (hz : ns.length ≤ 40000) (hn : ∀ n ∈ ns, n < 2 ^ 1000) (hj : j < σ.length) (hl : (Pap.needLine ns).length ≤ 1000000) :
    EvP (tJoin K (tC (.str (" " : Str))) (tLst (tCons (tC (.str ("needs" : Str))) (tStar K (tLc (iList K tl') (gName j) tYes (tStrI (tVar j)) [j]) tNil)))) σ H (isStr (Pap.needLine ns)) := by
  refine ep_join (P1 := fun v H' => ∃ p, v = .ref p ∧ H' p = some (.lst (((("needs" : Str) :: ns.map nS)).map V.str))) ev_c (ep_lst (vs := []) (P1 := fun vs _ => vs = (("needs" : Str) :: ns.map nS).map V.str) (epa_cons (P1 := Eqv (.str ("needs" : Str))) (ep_of ev_c) fun v H' e hv => epa_star (Gv.mono e (ep_strs h ha hz hn hj) fun v H0 H1 e ⟨p, h1, h2, h3⟩ => ⟨p, h1, h2, e _ _ h3⟩) fun v2 H2 e2 hv2 => ?_) (fun vs H' hvs => ?_) fun vs H' p e hvs hp => ?_) fun v H' e hv => ?_
  · obtain ⟨p, rfl, _, hp⟩ := hv2
    refine ⟨p, _, rfl, .inl (.inl hp), epa_nil ?_⟩
    rw [show v = .str ("needs" : Str) from hv, List.append_nil]
    rfl
  · rw [hvs, List.length_map, List.length_cons, List.length_map]
    omega
  · rw [hvs]
    exact ⟨p, rfl, upd_same⟩
  · obtain ⟨p, rfl, hp⟩ := hv
    have em : (("needs" : Str) :: ns.map nS).map tl = Pap.cNeeds :: ns.map numL := by rw [List.map_cons, tl_nS, tNeeds]
    refine ⟨p, _, rfl, hp, join_ok (by rw [tSp, em]; exact hl) (by rw [tSp]; decide), _, rfl, ?_⟩
    rw [join_eq, tl_join, tSp, em]
    rfl
theorem ok_lines_of (F : FnT K "lines_of" 17 f fd) (fr : Fr mg) (rc : RcT K mg C) : FnOk P w K mg base CX0 1 f fd ["recipe"] (spLi C) := by
  refine okP F scLi (fun x vs H h => ?_) (fun cdv A outer s H1 vs E q H hr h => ?_)
  · obtain ⟨rfl, _⟩ := h
    rfl
  · obtain ⟨a, m, rows⟩ := q
    obtain ⟨rfl, hd, hb⟩ := h
    have hd : Den C H (rcN a m rows) (.ref a) := hd
    have hb : okN m rows := hb
    obtain ⟨hb1, hb2, hb3, hb4⟩ := hb
    obtain ⟨_, dx, fs, pr, h2, h3, h4, h5⟩ := hd
    show ∃ t, PSs _ (defBody (top 17)) t ∧ Sv t (L2.start ["recipe", "row", "block"] [.ref a]) H _ (fun v H => isStrs (Pap.recLines m rows) v H)
    refine ⟨_, PSs.nox (pss_one (ps_ret (pe_lst (pa_cons (pe_op op_add_str pe_str (pe_callTy call_str_int rfl fr.str_ bt_str (pa_cons (pe_fld (f := "old") (pv 0) rfl) pa_nil)))
      (pa_star (pe_lc (own := [("row", 1)]) (g := gName 1) (tt := tYes) (te := tNeed K 1 2) rfl scLi.nd (pi_list (pe_fld (f := "rows") (pv 0) rfl)) (blkOk_by (N := ["recipe", "row", "block"]) (sc := defScope (top 17)) (by decide +kernel)) (fun _ _ _ _ _ => pg_name (i := 1) scLi.nd rfl (Or.inl rfl)) (fun _ _ _ _ _ => pts_nil)
        (fun _ _ _ _ _ => pe_join pe_str
          (pe_lst (pa_cons pe_str (pa_star (pe_lc (own := [("block", 2)]) (g := gName 2) (tt := tYes) rfl scLi.nd (pi_list (pv 1)) (blkOk_by (N := ["recipe", "row", "block"]) (sc := cSc [(".0", .local), ("row", .local)]) (by decide +kernel)) (fun _ _ _ _ _ => pg_name (i := 2) scLi.nd rfl (Or.inl rfl)) (fun _ _ _ _ _ => pts_nil)
            (fun _ _ _ _ _ => pe_callTy call_str_int rfl fr.str_ bt_str (pa_cons (pv 2) pa_nil))) pa_nil))))) pa_nil))))), ?_⟩
    obtain ⟨rp, ys, epr, hry, hrl, hrow⟩ := LLx.get (C := C) (H := H) (rows := rows) (v := .ref pr) h5
    cases epr
    have hne : Pap.recLines m rows ≠ [] := by simp [Pap.recLines]
    have hl1 : (Pap.cOld ++ 32 :: numL m).length ≤ 1000000 := Nat.le_trans (join_part (S := [10]) (ps := Pap.recLines m rows) (by simp [Pap.recLines])) hb4
    have e1 : tl (("old " : Str) ++ nS m) = Pap.cOld ++ 32 :: numL m := by
      rw [tl_append, tOld, tl_num]
      simp
    have ev1 : Ev (tOp (fun x y H Q => ∃ i j : Str, x = .str i ∧ y = .str j ∧ i.length + j.length ≤ sizeLine ∧ Q (.str (i ++ j)) H) (tC (.str ("old " : Str))) (tStrI (tFld K (tVar 0) "old"))) (L2.start ["recipe", "row", "block"] [.ref a]) H (.str (("old " : Str) ++ nS m)) :=
      ev_op ev_c (ev_str (ev_fld (ev_var rfl) h2 rc.cl rc.nOld h3) hb1) fun H1 e Q q => ⟨_, _, rfl, rfl, by
        rw [len_tl, len_tl, tl_num, tOld, sizeLine_eq]
        rw [List.length_append, List.length_cons] at hl1
        rw [List.length_append, List.length_singleton]
        omega, q H1 (Ex.refl _)⟩
    refine sv_ret (ep_lst (vs := []) (P1 := fun vs _ => ∃ xs : List Str, vs = xs.map V.str ∧ xs.map tl = Pap.recLines m rows) (epa_cons (P1 := Eqv (.str (("old " : Str) ++ nS m))) (ep_of ev1) fun v H' e hv => epa_star (P1 := LcP H' rows.length (fun i y _ => ∃ x, y = V.str x ∧ (rows.map Pap.needLine)[i]? = some (tl x))) ?_ fun v2 H2 e2 hv2 => ?_) (fun vs H' ⟨xs, h1, h2⟩ => ?_) fun vs H' p e ⟨xs, h1, h2⟩ hp => ?_)
    · rw [← hrl]
      refine ep_lcL (xs := ys) (fun i y _ => ∃ x, y = V.str x ∧ (rows.map Pap.needLine)[i]? = some (tl x)) (fun _ _ _ _ _ h => h) ((ev_fld (ev_var rfl) h2 rc.cl rc.nRows h4.1).mono e) (.inl (rd_mono e hry)) (by omega) (fun x => rfl) fun i x H2 e2 hx => ?_
      obtain ⟨r, b, hr1, rfl, hr3⟩ := hrow i x hx
      have hm := List.mem_of_getElem? hr1
      obtain ⟨k1, k2⟩ := hb2 r hm
      have hnl : (Pap.needLine r).length ≤ 1000000 := Nat.le_trans (join_part (S := [10]) (ps := Pap.recLines m rows) (List.mem_cons_of_mem _ (List.mem_map_of_mem hm))) hb4
      refine Gv.imp (ep_needs (tl' := tVar 1) (j := 2) (ev_var rfl) (.inl (rd_mono (e.trans e2) hr3)) (by omega) k2 (by show 2 < 3; decide) hnl) fun v H3 e3 ⟨x, h1, h2⟩ => ⟨x, h1, ?_⟩
      rw [List.getElem?_map, hr1, h2]
      rfl
    · obtain ⟨p, zs, rfl, _, q2, q3, q4⟩ := hv2
      refine ⟨p, zs, rfl, .inl (.inl q2), epa_nil ?_⟩
      obtain ⟨xs, ex1, ex2⟩ := strs_of (ts := rows.map Pap.needLine) (by simp [q3]) q4
      refine ⟨(("old " : Str) ++ nS m) :: xs, by rw [show v = _ from hv, ex1, List.append_nil]; rfl, ?_⟩
      rw [List.map_cons, e1, ex2]
      rfl
    · have := congrArg List.length h2
      rw [List.length_map] at this
      rw [h1, List.length_map, this]
      show (Pap.recLines m rows).length ≤ _
      unfold Pap.recLines
      rw [List.length_cons, List.length_map]
      omega
    · rw [h1]
      exact ⟨p, xs, rfl, upd_same, h2⟩
end
end G

/-! many, needs, Recipe.__init__. -/
namespace G
open PySem PySem.Spec PyProof.Rows L2 Evl Tp RZ TL L2X
open PySem.ExX (ExT PrOk)
section
variable {P : Program} {w : World} {K : PySem.W.Frag} {mg : Str → Option Value} {base : Heap} {f C CN fN : Addr} {fd : FuncData} {H : Hp} {σ : L2.St}
/-! ### many, needs -/
theorem scMa : FnScope ["self"] ["self"] (defScope (meth 1)) := ⟨rfl, rfl, rfl, by decide +kernel, rfl, by decide +kernel, by decide +kernel⟩
def preMe (C : Addr) (q : Addr × Nat × List (List Nat)) (vs : List V) (H : Hp) : Prop := vs = [.ref q.1] ∧ Den C H (rcN q.1 q.2.1 q.2.2) (.ref q.1) ∧ q.2.2.length ≤ 30000
abbrev spMa (C : Addr) : Sp := spP (preMe C) (fun q v _ => v = nV q.2.1)
theorem ok_many (F : FnM K "many" "Recipe.many" 1 f fd) (rc : RcT K mg C) : FnOk P w K mg base CX0 1 f fd ["self"] (spMa C) := by
  refine okP F scMa (fun x vs H h => ?_) (fun cdv A outer s H1 vs E q H hr h => ?_)
  · obtain ⟨rfl, _⟩ := h
    rfl
  · obtain ⟨a, m, rows⟩ := q
    obtain ⟨rfl, hd, hb⟩ := h
    have hd : Den C H (rcN a m rows) (.ref a) := hd
    obtain ⟨_, dx, fs, pr, h2, h3, h4, h5⟩ := hd
    exact ⟨_, PSs.nox (pss_one (ps_ret (pe_fld (f := "old") (pv 0) rfl))), sv_ret (ep_of (ev_fld (ev_var rfl) h2 rc.cl rc.nOld h3))⟩
theorem scNe : FnScope ["self", "row"] ["self"] (defScope (meth 2)) := ⟨rfl, rfl, rfl, by decide +kernel, rfl, by decide +kernel, by decide +kernel⟩
/-- a new list of new rows -/
def NewRows (C : Addr) (H : Hp) (rows : List (List Nat)) (v : V) (H' : Hp) : Prop := LLx C H' rows v ∧ ∃ p, v = .ref p ∧ H p = none ∧ ∃ ys, H' p = some (.lst ys)
abbrev spNe (C : Addr) : Sp := spP (preMe C) (fun q v H => LLx C H q.2.2 v ∧ ∃ p ys, v = V.ref p ∧ H p = some (.lst ys))
abbrev tListOf (K : PySem.W.Frag) (te : TE) : TE := tCB (fun xs H Q => ∃ p ys, xs = [.ref p] ∧ (SqL K H p ys ∨ SqT K H p ys) ∧ ∀ l, H l = none → Q (.ref l) (upd H l (.lst ys))) (tCons te tNil)
/-- [list(row) for row in rows] -/
theorem ep_copy {tl' : TE} {v : V} {rows : List (List Nat)} {j : Nat} (h : Ev tl' σ H v) (hv : LLx C H rows v) (hz : rows.length ≤ 40000) (hj : j < σ.length) :
    EvP (tLc (iList K tl') (gName j) tYes (tListOf K (tVar j)) [j]) σ H (NewRows C H rows) := by
  obtain ⟨p, ys, rfl, h2, hl, hrow⟩ := hv.get
  have hw : ∀ x, wipe ((wipe σ [j]).set j (some x)) [j] = wipe σ [j] := fun x => by
    show ((σ.set j none).set j (some x)).set j none = σ.set j none
    rw [List.set_set, List.set_set]
  have gj : ∀ x, ((wipe σ [j]).set j (some x))[j]? = some (some x) := fun x => by
    show ((σ.set j none).set j (some x))[j]? = _
    rw [List.set_set, List.getElem?_set_self hj]
  refine Gv.imp (ep_lcL (fun i y H' => ∃ r b, rows[i]? = some r ∧ y = V.ref b ∧ H' b = some (.lst (r.map nV))) (fun i v A B e ⟨r, b, q1, q2, q3⟩ => ⟨r, b, q1, q2, e _ _ q3⟩) h (.inl h2) (by omega) hw fun i x H' e hx => ?_) fun v H' e h => ?_
  · obtain ⟨r, a, hr, rfl, ha⟩ := hrow i x hx
    exact ep_cb1 (P1 := Eqv (.ref a)) (ep_of (ev_var (gj _))) fun v H2 e2 hv => by
      cases (show v = .ref a from hv)
      exact gv_list (.inl (.inl (rd_mono (e.trans e2) ha))) fun l hl => ⟨r, l, hr, rfl, upd_same⟩
  · obtain ⟨q, zs, rfl, q1, q2, q3, q4⟩ := h
    refine ⟨LLx.of (.inl q2) (by omega) fun i r y hr hy => ?_, q, rfl, q1, zs, q2⟩
    obtain ⟨r', b, k1, k2, k3⟩ := q4 i y hy
    rw [hr] at k1
    cases k1
    exact ⟨b, k2, .inl k3⟩
theorem ok_needs (F : FnM K "needs" "Recipe.needs" 2 f fd) (fr : Fr mg) (rc : RcT K mg C) : FnOk P w K mg base CX0 1 f fd ["self"] (spNe C) := by
  refine okP F scNe (fun x vs H h => ?_) (fun cdv A outer s H1 vs E q H hr h => ?_)
  · obtain ⟨rfl, _⟩ := h
    rfl
  · obtain ⟨a, m, rows⟩ := q
    obtain ⟨rfl, hd, hb⟩ := h
    have hd : Den C H (rcN a m rows) (.ref a) := hd
    have hb : rows.length ≤ 30000 := hb
    obtain ⟨_, dx, fs, pr, h2, h3, h4, h5⟩ := hd
    refine ⟨_, PSs.nox (pss_one (ps_ret (pe_lc (own := [("row", 1)]) (g := gName 1) (tt := tYes) (te := tListOf K (tVar 1)) rfl scNe.nd (pi_list (pe_fld (f := "rows") (pv 0) rfl)) (blkOk_by (N := ["self", "row"]) (sc := defScope (meth 2)) (by decide +kernel)) (fun _ _ _ _ _ => pg_name (i := 1) scNe.nd rfl (Or.inl rfl)) (fun _ _ _ _ _ => pts_nil)
      (fun _ _ _ _ _ => pe_callTy call_list_of rfl fr.list_ bt_list (pa_cons (pv 1) pa_nil))))), sv_ret ?_⟩
    exact Gv.imp (ep_copy (C := C) (ev_fld (ev_var rfl) h2 rc.cl rc.nRows h4.1) h5 (by omega) (by show 1 < 2; decide)) fun v H' e h => ⟨h.1, by
      obtain ⟨_, p, h1, _, ys, h2⟩ := h
      exact ⟨p, ys, h1, h2⟩⟩
/-! ### steps where an object of ours is written meanwhile -/
structure Mid (H H1 : Hp) (x : Addr) (H' H2 : Hp) : Prop where
  loc : Ex H H'
  tot : ∀ b o, b ≠ x → H1 b = some o → H2 b = some o
  inn : Ex H' H2
  fre : ∀ b, H' b ≠ none → H b ≠ none ∨ H1 b = none
  out : H' x = none
  at_ : H2 x ≠ none
theorem Mid.step {H1 H' H2 H'' H3 : Hp} {x : Addr} (m : Mid H H1 x H' H2) (s : Step H' H2 H'' H3) : Mid H H1 x H'' H3 where
  loc := m.loc.trans s.loc
  tot := fun b o hb h => s.tot b o (m.tot b o hb h)
  inn := s.inn
  fre := fun b hb => (s.fre b hb).elim (fun z => m.fre b z) fun z => by
    by_cases hbx : b = x
    · subst hbx; exact absurd z m.at_
    · right
      cases q : H1 b with
      | none => rfl
      | some o => rw [m.tot b o hbx q] at z; cases z
  out := by
    cases q : H'' x with
    | none => rfl
    | some o =>
      rcases s.fre x (by rw [q]; exact fun z => nomatch z) with z | z
      · exact absurd m.out z
      · exact absurd z m.at_
  at_ := fun z => by
    cases q : H2 x with
    | none => exact m.at_ q
    | some o => rw [s.tot x o q] at z; cases z
theorem Mid.put {H1 H' H2 : Hp} {x : Addr} {o : HO} (m : Mid H H1 x H' H2) : Mid H H1 x H' (upd H2 x o) where
  loc := m.loc
  tot := fun b o' hb h => by rw [upd_ne hb]; exact m.tot b o' hb h
  inn := m.inn.mut m.out
  fre := m.fre
  out := m.out
  at_ := by rw [upd_same]; exact fun z => nomatch z
/-! ### direct steps (defs that raise) -/
theorem d_when {t : TT} {ts tz : TS} {D : Ends} {H1 : Hp} {b : Bool} (h : EvT t σ H b) (e : Ex H H1) (k1 : b = true → ∀ H2, Ex H1 H2 → ts { D with nx := tz D } σ H2) (k2 : b = false → ∀ H2, Ex H1 H2 → tz D σ H2) : tSeq (tIfS t ts tNext) tz D σ H1 :=
  h H1 e _ fun H2 e2 => by
    cases b with
    | true => exact k1 rfl H2 e2
    | false => exact k2 rfl H2 e2
theorem d_set {te : TE} {tz : TS} {i : Nat} {D : Ends} {H1 : Hp} {Pq : V → Hp → Prop} (h : EvP te σ H Pq) (e : Ex H H1) (k : ∀ v H' H2, Step H H1 H' H2 → Pq v H' → tz D (σ.set i (some v)) H2) : tSeq (tAsg te (gName i)) tz D σ H1 := h H1 e _ fun v H' H2 s p => k v H' H2 s p
theorem d_ret {te : TE} {D : Ends} {H1 : Hp} {Pq : V → Hp → Prop} (h : EvP te σ H Pq) (e : Ex H H1) (k : ∀ v H' H2, Step H H1 H' H2 → Pq v H' → D.rt v H2) : tRet te D σ H1 := h H1 e _ fun v H' H2 s p => k v H' H2 s p
theorem d_raise {CE : Addr} {W : WX} {te : TE} {D : Ends} {H1 : Hp} {v : V} (h : Ev te σ H v) (e : Ex H H1) (k : ∀ d H2, Ex H1 H2 → H1 d = none → H2 d = some (.xd (valueV v)) → W (.ref CE) (some d) σ H2) : tRaiseEx CE W (tCons te tNil) D σ H1 :=
  h H1 e _ fun H2 e2 => ⟨v, rfl, fun d hd => k d _ (e2.trans (Ex.new hd)) (fresh_back e2 hd) upd_same⟩
theorem d_fld {te : TE} {tz : TS} {D : Ends} {H1 H0 : Hp} {x dx : Addr} {fs : List (Str × V)} {fn : Str} {i : Nat} {H' : Hp} {Pq : V → Hp → Prop} (h : EvP te σ H' Pq) (hi : σ[i]? = some (some (.ref x))) (m : Mid H H0 x H' H1) (hx : H1 x = some (.ins C dx fs)) (cl : Cls K C) (nf : NoAttr K C fn) (hl : fs.length < 1000)
    (k : ∀ v H'' H2, Ex H' H'' → Mid H H0 x H'' (upd H2 x (.ins C dx (putF fn v fs))) → Pq v H'' → tz D σ (upd H2 x (.ins C dx (putF fn v fs)))) : tSeq (sFld K (tVar i) te fn) tz D σ H1 :=
  h H1 m.inn _ fun v H'' H2 s p => ⟨.ref x, hi, x, C, dx, fs, rfl, s.tot _ _ hx, cl, nf, hl, k v H'' H2 s.loc ((m.step s).put) p⟩
/-! ### __init__ -/
abbrev nIn : List Str := ["self", "many", "needs", "row"]
theorem scIn : FnScope nIn ["self", "many", "needs"] (defScope (meth 0)) := ⟨rfl, rfl, rfl, by decide +kernel, rfl, by decide +kernel, by decide +kernel⟩
def okOs (m : Nat) (os : List (Option (List Nat))) : Bool := match Pap.allSome os with
  | some rows => Pap.okRec m rows
  | none => false
def spIn (C CN : Addr) : Sp := fun vs H1 Q E => ∃ (H : Hp) (x dx : Addr) (m : Nat) (q : Addr) (zs : List V) (os : List (Option (List Nat))), vs = [.ref x, nV m, .ref q] ∧ Ex H H1 ∧ H x = none ∧ H1 x = some (.ins C dx []) ∧ H q = some (.lst zs) ∧ DenL C H (os.map oD) zs ∧
  sizL (os.map oD) ≤ 30000 ∧ (∀ rows, os = rows.map some → Pap.okRec m rows = true → ∀ r ∈ rows, ∀ n ∈ r, n ≤ 1000000) ∧
  (∀ rows, os = rows.map some → Pap.okRec m rows = true → ∀ H' H2 fs pr, Mid H H1 x H' H2 → H2 x = some (.ins C dx fs) → fs.lookup ("old" : Str) = some (nV m) → RowsF fs pr → LLx C H' rows (.ref pr) → Q .non H2) ∧
  (okOs m os = false → ∀ d H2, Ex H1 H2 → H1 d = none → H2 d = some (.xd (valueV (.ref q))) → E (.ref CN) (some d) H2)
theorem dp_o {o : Option (List Nat)} {v : V} (h : Den C H (oD o) v) : ∃ d, Dp K H v d ∧ PyData.canLay0 d = true ∧ d.depth ≤ 1 := by
  cases o with
  | none =>
    cases (show v = .non from h.1)
    exact ⟨.none, .non, rfl, Nat.zero_le _⟩
  | some ns =>
    obtain ⟨a, ys, rfl, h2, h3⟩ := h
    rw [den_ns h3] at h2
    obtain ⟨k1, k2⟩ := lay_ints (ns.map fun n : Nat => (n : Int))
    exact ⟨intsP (ns.map fun n : Nat => (n : Int)), .lst (.inl h2) (dp_ns K H ns), k1, by show PyData.depthAll _ + 1 ≤ 1; rw [k2]; omega⟩
theorem dp_os : ∀ (os : List (Option (List Nat))) (zs : List V), DenL C H (os.map oD) zs → ∃ ds, DpAll K H zs ds ∧ PyData.canLayAll0 ds = true ∧ PyData.depthAll ds ≤ 1 ∧ ds.length = os.length
  | [], zs, h => by cases (show zs = [] from h); exact ⟨[], .nil, rfl, Nat.zero_le _, rfl⟩
  | o :: os, zs, ⟨y, r, h1, h2, h3⟩ => by
    subst h1
    obtain ⟨d, k1, k2, k3⟩ := dp_o (K := K) h2
    obtain ⟨ds, q1, q2, q3, q4⟩ := dp_os os r h3
    refine ⟨d :: ds, .cons k1 q1, ?_, ?_, by simp [q4]⟩
    · show (PyData.canLay0 d && PyData.canLayAll0 ds) = true
      rw [k2, q2]
      rfl
    · show max d.depth (PyData.depthAll ds) ≤ 1
      omega
/-- needs == [] -/
theorem ev_eqO {ta : TE} {a : Addr} {os : List (Option (List Nat))} {zs : List V} (h : Ev ta σ H (.ref a)) (ha : H a = some (.lst zs)) (hd : DenL C H (os.map oD) zs) : Ev (tOp (rEqD K) ta (tLst tNil)) σ H (.bl os.isEmpty) :=
  ev_opL h (el_lst ea_nil (by decide)) fun p H1 hp e => fun H2 e2 Q q => by
    obtain ⟨ds, q1, q2, q3, q4⟩ := dp_os (K := K) os zs (DenL.mono (e.trans e2) _ _ hd)
    refine ⟨.list ds, .list [], .lst (.inl (.inl ((e.trans e2) _ _ ha))) q1, .lst (.inl (.inl (e2 _ _ hp))) .nil, ?_, rfl, ?_⟩
    · show (PyData.canLayAll0 ds && decide (PyData.depthAll ds + 1 ≤ 64)) = true
      rw [q2, decide_eq_true (by omega)]
      rfl
    · have e3 : PyData.eqv (.list ds) (.list []) = os.isEmpty := by
        cases ds with
        | nil => cases os with | nil => rfl | cons => cases q4
        | cons d ds => cases os with | nil => cases q4 | cons => rfl
      rw [e3]
      exact q H2 (Ex.refl _)
theorem isRm_o (m : Nat) (o : Option (List Nat)) : isRm m (oD o) = match o with | none => false | some ns => ns.all (fun n => decide (n < m)) && Pap.rising ns := by
  cases o with
  | none => rfl
  | some ns =>
    unfold isRm
    show (match rowD (.seq false (ns.map fun n => .flat (nV n))) with | some ns => ns.all (fun n => decide (n < m)) && Pap.rising ns | none => false) = _
    rw [rowD_ns]
theorem okOs_iff {m : Nat} {os : List (Option (List Nat))} : okOs m os = (!os.isEmpty && os.all fun o => isRm m (oD o)) := by
  unfold okOs
  cases h : Pap.allSome os with
  | some rows =>
    rw [Pap.allSome_some h]
    show Pap.okRec m rows = _
    unfold Pap.okRec
    rw [List.all_map, List.isEmpty_map]
    congr 2
    funext r
    show _ = isRm m (oD (some r))
    rw [isRm_o]
    exact Bool.and_comm _ _
  | none =>
    have hn := Pap.allSome_none.mp h
    have : (os.all fun o => isRm m (oD o)) = false := by
      rw [← Bool.not_eq_true]
      intro z
      have := List.all_eq_true.mp z none hn
      rw [isRm_o] at this
      cases this
    rw [this, Bool.and_false]
end
end G

/-! Recipe.__init__, check_recipe, recipe_text. -/
namespace G
open PySem PySem.Spec PyProof.Rows L2 Evl Tp RZ TL L2X
open PySem.ExX (ExT PrOk)
section
variable {P : Program} {w : World} {K : PySem.W.Frag} {mg : Str → Option Value} {base : Heap} {f C CN fN : Addr} {fd : FuncData} {H : Hp} {σ : L2.St}
theorem putF_lt (f : Str) (v : V) : ∀ {fs : List (Str × V)} {n : Nat}, fs.length < n → (putF f v fs).length < n + 1
  | [], n, h => by show 1 < n + 1; simp at h; omega
  | (g, x) :: r, n, h => by
    show (if g = f then (g, v) :: r else (g, x) :: putF f v r).length < n + 1
    simp only [List.length_cons] at h
    have := putF_lt f v (fs := r) (n := n - 1) (by omega)
    by_cases e : g = f
    · rw [if_pos e, List.length_cons]; omega
    · rw [if_neg e, List.length_cons]; omega
theorem len_In {vs : List V} {H : Hp} {Q : VK} {E : XK} (h : spIn C CN vs H Q E) : vs.length = 3 := by
  obtain ⟨H0, x, dx, m, q, zs, os, rfl, _⟩ := h
  rfl
theorem isRm_some {m : Nat} {ns : List Nat} (h : isRm m (oD (some ns)) = true) : ns.all (fun n => decide (n < m)) = true := by
  rw [isRm_o] at h
  exact (Bool.and_eq_true_iff.mp h).1
theorem ok_init (F : FnM K "__init__" "Recipe.__init__" 0 f fd) (TN : ExT K mg "InvalidNeeds" CN fN) (PO : PrOk P) (KC : Kp P w K mg base CX0 1 "is_count" ["value"] (spCt C)) (KR : Kp P w K mg base CX0 2 "is_rising" ["value", "many"] (spIr C)) (KB : Kp P w K mg base CX0 1 "bits_of" ["blocks"] (spBo K))
    (fr : Fr mg) (rc : RcT K mg C) : FnOk P w K mg base (L2N.CX P w) 3 f fd ["self", "many", "needs"] (spIn C CN) := by
  refine F.ok scIn (fun vs H Q E h => len_In h) (fun cdv A outer s H1 vs Q E hr h => ?_)
  obtain ⟨H, x, dx, m, q, zs, os, rfl, e, hx, h1, hq, hd, hz, hbig, good, bad⟩ := h
  have hl := DenL.len _ _ hd
  have hl2 := sizL_len (os.map oD)
  rw [List.length_map] at hl hl2
  have hdp : (A.deeper (envOfC "Recipe.__init__" (defScope (meth 0)) s.heap.objs.size f cdv)).depth + 1 < recursionLimit := by have := hr.dp; omega
  refine ⟨_, pss_cons (ps_if (pt_not (pt_val (pe_cl KC (hr.mono (by decide)) (pa_cons (pv 1) pa_nil)))) pss_never pss_nil)
    (pss_cons (ps_if (PW.pt (pw_or (pt_not (pt_val (pe_isi fr.is_ fr.list_ bt_list (pv 2)))) (pw_or (pt_cmpR (op_eqD hr.units) (pv 2) (pe_lst pa_nil) (nomark _)) (pw_or1 (pt_not (pt_val (pe_callB (cr_all rfl) rfl fr.all_ bt_all
        (pa_cons (pe_lc (own := [("row", 3)]) (g := gName 3) (tt := tYes) rfl scIn.nd (pi_list (pv 2)) (blkOk_by (N := nIn) (sc := defScope (meth 0)) (by decide +kernel)) (fun _ _ _ _ _ => pg_name (i := 3) scIn.nd rfl (Or.inl rfl)) (fun _ _ _ _ _ => pts_nil)
          (fun _ _ _ _ _ => pe_cl KR hr (pa_cons (pv 3) (pa_cons (pv 1) pa_nil)))) pa_nil))))))))
      (pss_one (ps_raiseExN rfl TN PO hdp (L2N.takes_of rfl rfl rfl rfl) (pa_cons (pv 2) pa_nil) rfl)) pss_nil)
    (pss_cons (ps_fld (f := "old") (pv 0) (pv 1) rfl)
    (pss_cons (ps_fld (f := "rows") (pv 0) (pe_lc (own := [("row", 3)]) (g := gName 3) (tt := tYes) (te := tListOf K (tVar 3)) rfl scIn.nd (pi_list (pv 2)) (blkOk_by (N := nIn) (sc := defScope (meth 0)) (by decide +kernel)) (fun _ _ _ _ _ => pg_name (i := 3) scIn.nd rfl (Or.inl rfl)) (fun _ _ _ _ _ => pts_nil)
      (fun _ _ _ _ _ => pe_callTy call_list_of rfl fr.list_ bt_list (pa_cons (pv 3) pa_nil))) rfl)
    (pss_cons (ps_fld (f := "bits") (pv 0) (pe_lc (own := [("row", 3)]) (g := gName 3) (tt := tYes) rfl scIn.nd (pi_list (pv 2)) (blkOk_by (N := nIn) (sc := defScope (meth 0)) (by decide +kernel)) (fun _ _ _ _ _ => pg_name (i := 3) scIn.nd rfl (Or.inl rfl)) (fun _ _ _ _ _ => pts_nil)
      (fun _ _ _ _ _ => pe_cl KB (hr.mono (by decide)) (pa_cons (pv 3) pa_nil))) rfl)
    (pss_one (ps_fld (f := "known") (pv 0) pe_dnewK rfl)))))), ?_⟩
  have st0 : L2.start nIn [.ref x, nV m, .ref q] = [some (.ref x), some (nV m), some (.ref q), none] := rfl
  rw [st0]
  -- many is a count
  refine d_when (b := false) (et_not (et_B (b := true) (EvP.ev (ep_callA (ea_cons (ev_var rfl) ea_nil) (gv_spP (.flat (nV m)) ⟨nV m, rfl, rfl, rfl⟩ fun v H' e' hv => by
    rw [show v = _ from hv, cntD_nV]
    rfl))))) e (fun z => nomatch z) fun _ H2 e2 => ?_
  have e12 := e.trans e2
  have hdq : Den C H (.seq false (os.map oD)) (.ref q) := ⟨q, zs, rfl, .inl hq, hd⟩
  -- needs
  have evA : EvT (tB (tCB (rAll K) (tCons (tLc (iList K (tVar 2)) (gName 3) tYes (tCall (spIr C) [] E0 (tCons (tVar 3) (tCons (tVar 1) tNil))) [3]) tNil))) [some (.ref x), some (nV m), some (.ref q), none] H (os.all fun o => isRm m (oD o)) := by
    refine et_B (EvP.ev (ep_cb1 (ep_lcL (fun i y _ => ∃ b, (os.map fun o => isRm m (oD o))[i]? = some b ∧ y = V.bl b) (fun _ _ _ _ _ h => h) (ev_var rfl) (.inl (.inl hq)) (by omega) (fun x => rfl) fun i v H' e' hv => ?_) fun v H' e' h => ?_))
    · obtain ⟨d, hd1, hd2⟩ := DenL.get _ zs hd i v hv
      obtain ⟨q1, q2⟩ := dep_get _ i d hd1
      refine ep_callA (ea_cons (ev_var rfl) (ea_cons (ev_var rfl) ea_nil)) (gv_spP (d, m) ⟨v, rfl, Den.mono e' d v hd2, by show siz d ≤ 30000; omega⟩ fun v2 H3 e3 hv2 => ⟨isRm m d, ?_, hv2⟩)
      rw [List.getElem?_map] at hd1 ⊢
      cases ho : os[i]? with
      | none => rw [ho] at hd1; cases hd1
      | some o =>
        rw [ho] at hd1
        rw [← Option.some.inj hd1]
        rfl
    · obtain ⟨p, ys, rfl, _, k2, k3, k4⟩ := h
      have ez := bls_ofL (bs := os.map fun o => isRm m (oD o)) (by rw [List.length_map]; omega) k4
      rw [ez] at k2
      refine gv_all (ys := ys) _ k2 ?_
      show V.bl _ = V.bl _
      rw [List.all_map]
      rfl
  have evB := et_or (et_not (et_B (ev_isD (σ := [some (.ref x), some (nV m), some (.ref q), none]) (te := tVar 2) rc hdq (ev_var rfl) (U := "list") (by decide)))) fun _ => et_or (et_test (ev_eqO (K := K) (ta := tVar 2) (ev_var rfl) hq hd)) fun _ => et_not evA
  by_cases hok : okOs m os = true
  · have hall := hok
    rw [okOs_iff, Bool.and_eq_true_iff] at hall
    have eb : ((!(isIB (.seq false (os.map oD)) "list")) || (os.isEmpty || !(os.all fun o => isRm m (oD o)))) = false := by
      rw [hall.2, show os.isEmpty = false by simpa using hall.1]
      rfl
    rw [eb] at evB
    refine d_when evB e12 (fun z => nomatch z) fun _ H3 e3 => ?_
    obtain ⟨rows, hrows, hrec⟩ : ∃ rows, os = rows.map some ∧ Pap.okRec m rows = true := by
      unfold okOs at hok
      cases h : Pap.allSome os with
      | none => rw [h] at hok; cases hok
      | some rows =>
        rw [h] at hok
        exact ⟨rows, Pap.allSome_some h, hok⟩
    have hbig' := hbig rows hrows hrec
    have good' := good rows hrows hrec
    have e13 := e12.trans e3
    have hx3 : H3 x = some (.ins C dx []) := (e2.trans e3) _ _ h1
    have m0 : Mid H H1 x H H3 := ⟨Ex.refl _, fun b o _ h => (e2.trans e3) _ _ h, e13, fun b hb => .inl hb, hx, by rw [hx3]; exact fun z => nomatch z⟩
    have hll : ∀ H', Ex H H' → LLx C H' rows (.ref q) := fun H' e' => LLx.of (.inl (e' _ _ hq)) (by rw [hl, hrows, List.length_map]) fun i r y hr hy => by
      obtain ⟨d, hd1, hd2⟩ := DenL.get _ zs hd i y hy
      rw [hrows, List.map_map, List.getElem?_map, hr] at hd1
      have ed : oD (some r) = d := Option.some.inj hd1
      subst ed
      obtain ⟨a, ys, rfl, k2, k3⟩ := hd2
      rw [den_ns k3] at k2
      exact ⟨a, rfl, rd_mono e' k2⟩
    have hrl : rows.length ≤ 40000 := by
      have : os.length = rows.length := by rw [hrows, List.length_map]
      omega
    -- the fields
    refine d_fld (Pq := Eqv (nV m)) (ep_of (ev_var rfl)) rfl m0 hx3 rc.cl rc.nOld (by decide) fun v Ha Hb ea ma hv => ?_
    cases (show v = nV m from hv)
    refine d_fld (ep_copy (C := C) (rows := rows) (ev_var rfl) (hll Ha ea) hrl (by show 3 < 4; decide)) rfl ma upd_same rc.cl rc.nRows (putF_lt (n := 999) _ _ (by decide)) fun v Hc Hd ec mc hv => ?_
    obtain ⟨hv1, pr, rfl, hv3, _⟩ := hv
    refine d_fld (Pq := fun v H' => True) (Gv.imp (ep_lcL (fun i y _ => True) (fun _ _ _ _ _ h => h) (ev_var rfl) (.inl (.inl (ec _ _ (ea _ _ hq)))) (by omega) (fun x => rfl) fun i v H' e' hv => ?_) fun _ _ _ _ => trivial) rfl mc upd_same rc.cl rc.nBits (putF_lt (n := 999) _ _ (putF_lt (n := 998) _ _ (by decide))) fun v He Hf ee me _ => ?_
    · obtain ⟨p', ys', k1, k2, k3, k4⟩ := (hll H' ((ea.trans ec).trans e')).get
      injection k1 with k1
      subst k1
      have ezs : ys' = zs := by
        have := rd_inj k2 (.inl (((ea.trans ec).trans e') _ _ hq)) (fun _ _ z => nomatch z) (fun _ _ z => nomatch z)
        injection this
      subst ezs
      obtain ⟨r, b, hr, rfl, hb⟩ := k4 i v hv
      exact ep_callA (ea_cons (ev_var rfl) ea_nil) (gv_spP r ⟨b, rfl, .inl hb, hbig' r (List.mem_of_getElem? hr)⟩ fun _ _ _ _ => trivial)
    · refine fun p hp => ⟨.ref x, rfl, x, C, dx, _, rfl, by
        have : x ≠ p := fun z => by rw [← z, upd_same] at hp; cases hp
        rw [upd_ne this]
        exact upd_same, rc.cl, rc.nKnown, putF_lt (n := 999) _ _ (putF_lt (n := 998) _ _ (putF_lt (n := 997) _ _ (by decide))), ?_⟩
      have hpe : p ≠ x := fun z => by rw [z, upd_same] at hp; cases hp
      have mf : Mid H H1 x He (upd (upd Hf x (.ins C dx (putF "bits" v (putF "rows" (.ref pr) (putF "old" (nV m) []))))) p (.dK [])) :=
        me.step ⟨Ex.refl _, Ex.new hp, me.inn.trans (Ex.new hp), fun b hb => .inl hb⟩
      exact good' He _ _ pr mf.put upd_same rfl ⟨rfl, rfl, rfl⟩ (LLx.mono ee hv1)
  · have hok' : okOs m os = false := by simpa using hok
    have eb : ((!(isIB (.seq false (os.map oD)) "list")) || (os.isEmpty || !(os.all fun o => isRm m (oD o)))) = true := by
      rw [okOs_iff] at hok'
      cases h1 : os.isEmpty <;> cases h2 : (os.all fun o => isRm m (oD o)) <;> rw [h1, h2] at hok' <;> first | rfl | (cases hok'; done)
    rw [eb] at evB
    refine d_when evB e12 (fun _ H3 e3 => ?_) (fun z => nomatch z)
    exact d_raise (ev_var rfl) (e12.trans e3) fun d H4 e4 hd4 k => bad hok' d H4 ((e2.trans e3).trans e4) (fresh_back (e2.trans e3) hd4) k
end
end G

/-! check_recipe, recipe_text, read_recipe. -/
namespace G
open PySem PySem.Spec PyProof.Rows L2 Evl Tp RZ TL L2X
open PySem.ExX (ExT PrOk)
/-- a call of a def that may raise -/
theorem pe_clS {X : Cx} {k : Nat} {x : Str} {ps : List Str} {sp : Sp} {W : WX} {p pos : Pos} {e : Expr} {es : List Expr} {t : TA} (kp0 : Kp X.prog X.w X.K X.mg X.base (L2.CX X.prog X.w) k x ps sp) (hr : Room k X.A) (tk : L2.Takes X W) (ha : PA X (e :: es) t) (hg : Gl X x := by rfl)
    (hdb : (x == ("__debug__" : Str)) = false := by decide)
    (he : starEach (e :: es) X.env = (false, eval e X.env) :: starEach es X.env := by rfl) (hpl : (backTo pos (starEach es X.env)).any (·.1) = false := by rfl) : PE X (.Call (.Name x p) (e :: es) [] pos) (tCallS sp (WE W) t) := by
  obtain ⟨f, fd, F, g, kp, b⟩ := kp0
  exact pe_callS F hr hg g kp b (fun σ => L2.passAt tk σ) ha hdb he hpl
/-- what is raised: an error of the class at CE that holds v -/
def Bad (CE : Addr) (v : V) (H1 : Hp) (E : XK) : Prop := ∀ d H2, Ex H1 H2 → H1 d = none → H2 d = some (.xd (valueV v)) → E (.ref CE) (some d) H2
theorem Bad.mono {CE : Addr} {v : V} {H1 H2 : Hp} {E : XK} (e : Ex H1 H2) (h : Bad CE v H1 E) : Bad CE v H2 E := fun d H3 e3 hd k => h d H3 (e.trans e3) (fresh_back e hd) k
def isR : D → Bool
  | .rcp _ _ _ => true
  | _ => false
section
variable {P : Program} {w : World} {K : PySem.W.Frag} {mg : Str → Option Value} {base : Heap} {f C CN fN CR fR CT fT CC fI : Addr} {fd fdI : FuncData} {H : Hp} {σ : L2.St}
/-! ### check_recipe -/
theorem scCk : FnScope ["value"] ["value"] (defScope (top 15)) := ⟨rfl, rfl, rfl, by decide +kernel, rfl, by decide +kernel, by decide +kernel⟩
def spCk (C CR : Addr) : Sp := fun vs H1 Q E => ∃ (H : Hp) (d : D) (x : V), vs = [x] ∧ Ex H H1 ∧ Den C H d x ∧ (isR d = true → ∀ H2, Ex H1 H2 → Q .non H2) ∧ (isR d = false → Bad CR x H1 E)
theorem kit_rc (rc : RcT K mg C) : ∀ {d : D} {x : V}, Den C H d x → PySem.W.kitOne K (dTy C d) (.ref C) = some (isR d)
  | .flat v, x, ⟨h1, h2⟩ => rc.oth _ (flat_mem h2)
  | .rcp a old t, x, h => rc.own
  | .seq tp t, x, _ => by
    cases tp with
    | false => exact rc.oth "list" (by simp)
    | true => exact rc.oth "tuple" (by simp)
  | .dic ks t, x, _ => rc.oth "dict" (by simp)
theorem ok_check (F : FnT K "check_recipe" 15 f fd) (TR : ExT K mg "InvalidRecipe" CR fR) (PO : PrOk P) (fr : Fr mg) (rc : RcT K mg C) : FnOk P w K mg base (L2.CX P w) 2 f fd ["value"] (spCk C CR) := by
  refine F.ok scCk (fun vs H Q E h => ?_) (fun cdv A outer s H1 vs Q E hr h => ?_)
  · obtain ⟨H, d, x, rfl, _⟩ := h
    rfl
  · obtain ⟨H, d, x, rfl, e, hd, good, bad⟩ := h
    have hdp : (A.deeper (envOfC "check_recipe" (defScope (top 15)) s.heap.objs.size f cdv)).depth + 1 < recursionLimit := by have := hr.dp; omega
    refine ⟨_, pss_one (ps_if (pt_not (pt_val (pe_isiC fr.is_ rc.gC (pv 0)))) (pss_one (ps_raiseEx rfl TR PO hdp (L2.takes_of rfl rfl rfl rfl) (pa_cons (pv 0) pa_nil) rfl)) pss_nil), ?_⟩
    have ev := et_not (et_B (ev_isi (σ := L2.start ["value"] [x]) (te := tVar 0) (ev_var rfl) (ty_den rc hd) (.own C) (kit_rc rc hd)))
    refine ev H1 e _ fun H2 e2 => ?_
    cases hR : isR d with
    | true => exact good hR H2 e2
    | false => exact d_raise (CE := CR) (W := fun cls d _ H => E cls d H) (D := { nx := fun _ H' => Q .non H', rt := Q }) (H := H) (ev_var rfl) (e.trans e2) fun d' H4 e4 k1 k2 => bad hR d' H4 (e2.trans e4) (fresh_back e2 k1) k2
/-! ### recipe_text -/
theorem scRt : FnScope ["recipe"] ["recipe"] (defScope (top 18)) := ⟨rfl, rfl, rfl, by decide +kernel, rfl, by decide +kernel, by decide +kernel⟩
def spRt (C CR : Addr) : Sp := fun vs H1 Q E => ∃ (H : Hp) (d : D) (x : V), vs = [x] ∧ Ex H H1 ∧ Den C H d x ∧ (isR d = true → ∃ a m rows, d = rcN a m rows ∧ okN m rows ∧ ∀ v H2, Ex H1 H2 → isStr (Pap.recText m rows) v H2 → Q v H2) ∧ (isR d = false → Bad CR x H1 E)
theorem rec_join {ys : List Str} {m : Nat} {rows : List (List Nat)} (h : ys.map tl = Pap.recLines m rows) (hn : (Pap.recText m rows).length ≤ 1000000) : (ys.map (·.length)).sum + ys.length * ("\n" : Str).length ≤ 16777216 ∧ tl (Txt.join ("\n" : Str) ys) = Pap.recText m rows :=
  ⟨join_ok (by rw [tNl, h]; exact hn) (by rw [tNl]; decide), by rw [join_eq, tl_join, tNl, h]; rfl⟩
theorem ok_recipe_text (F : FnT K "recipe_text" 18 f fd) (KK : Kp P w K mg base (L2.CX P w) 2 "check_recipe" ["value"] (spCk C CR)) (KL : Kp P w K mg base CX0 1 "lines_of" ["recipe"] (spLi C)) : FnOk P w K mg base (L2.CX P w) 3 f fd ["recipe"] (spRt C CR) := by
  refine F.ok scRt (fun vs H Q E h => ?_) (fun cdv A outer s H1 vs Q E hr h => ?_)
  · obtain ⟨H, d, x, rfl, _⟩ := h
    rfl
  · obtain ⟨H, d, x, rfl, e, hd, good, bad⟩ := h
    refine ⟨_, pss_cons (ps_expr (pe_clS KK hr (L2.takes_of rfl rfl rfl rfl) (pa_cons (pv 0) pa_nil))) (pss_one (ps_ret (pe_join pe_str (pe_cl KL (hr.mono (by decide)) (pa_cons (pv 0) pa_nil))))), ?_⟩
    refine ⟨x, rfl, H, d, x, rfl, e, hd, fun hR H2 e2 => ?_, bad⟩
    obtain ⟨a, m, rows, rfl, hb, good⟩ := good hR
    cases hd.1
    refine d_ret (H := H) (Pq := isStr (Pap.recText m rows)) (ep_join (P1 := isStrs (Pap.recLines m rows)) ev_c (ep_callA (ea_cons (ev_var rfl) ea_nil) (gv_spP (a, m, rows) ⟨rfl, hd, hb⟩ fun v H' e' hv => hv)) fun v H' e' hv => ?_) (e.trans e2) fun v H' H3 s p => good v H3 (e2.trans s.tot) p
    obtain ⟨p, ys, rfl, h1, h2⟩ := hv
    obtain ⟨k1, k2⟩ := rec_join h2 hb.2.2.2
    exact ⟨p, ys, rfl, h1, k1, _, rfl, k2⟩
end
/-! ### sizes of what is read -/
theorem val_lt : ∀ (p : Pap.Tx) (a : Nat), NumText.AllDigits p → p.foldl (fun acc c => acc * 10 + (c - 48)) a < (a + 1) * 10 ^ p.length
  | [], a, _ => by simp
  | c :: r, a, h => by
    have hc := h.head
    have := val_lt r (a * 10 + (c - 48)) h.tail
    rw [List.foldl_cons, List.length_cons, Nat.pow_succ]
    have h2 : (a * 10 + (c - 48) + 1) * 10 ^ r.length ≤ (a + 1) * (10 ^ r.length * 10) := by
      have : (a + 1) * (10 ^ r.length * 10) = ((a + 1) * 10) * 10 ^ r.length := by rw [Nat.mul_comm (10 ^ r.length) 10, ← Nat.mul_assoc]
      rw [this]
      exact Nat.mul_le_mul_right _ (by omega)
    omega
theorem val_pow {p : Pap.Tx} {k : Nat} (h : NumText.AllDigits p) (hk : p.length ≤ k) : Pap.val p < 10 ^ k := by
  have h1 := val_lt p 0 h
  rw [Nat.zero_add, Nat.one_mul] at h1
  exact Nat.lt_of_lt_of_le h1 (Nat.pow_le_pow_right (by decide) hk)
theorem numL_val_le {p : Pap.Tx} (h : NumText.AllDigits p) (h0 : p ≠ []) : (numL (Pap.val p)).length ≤ p.length := numL_len (by cases p with | nil => exact absurd rfl h0 | cons => simp) (val_pow h (Nat.le_refl _))
theorem joinL_le {S : Pap.Tx} : ∀ {ps qs : List Pap.Tx}, ps.length = qs.length → (∀ (i : Nat) (p q : Pap.Tx), ps[i]? = some p → qs[i]? = some q → p.length ≤ q.length) → (joinL S ps).length ≤ (joinL S qs).length
  | [], [], _, _ => Nat.le_refl _
  | [p], [q], _, h => h 0 p q rfl rfl
  | p :: p' :: ps, q :: q' :: qs, hl, h => by
    have h0 := h 0 p q rfl rfl
    have := joinL_le (S := S) (ps := p' :: ps) (qs := q' :: qs) (by simpa using hl) fun i a b h1 h2 => h (i + 1) a b (by simpa using h1) (by simpa using h2)
    show (p ++ (S ++ joinL S (p' :: ps))).length ≤ (q ++ (S ++ joinL S (q' :: qs))).length
    simp only [List.length_append]
    omega
  | [], _ :: _, hl, _ => by cases hl
  | _ :: _, [], hl, _ => by cases hl
  | [_], _ :: _ :: _, hl, _ => by simp at hl
  | _ :: _ :: _, [_], hl, _ => by simp at hl
theorem pNums_le {l : Pap.Tx} {ns : List Nat} (h : Pap.pNums l = some ns) : (joinL [32] (ns.map numL)).length ≤ l.length ∧ ns.length ≤ l.length + 1 ∧ ∀ k, Run k l → ∀ n ∈ ns, n < 10 ^ k := by
  unfold Pap.pNums at h
  split at h
  · rename_i hall
    injection h with h
    subst h
    have hd : ∀ p ∈ Pap.cut 32 l, p ≠ [] ∧ NumText.AllDigits p := fun p hp => Pap.numP_iff.mp (List.all_eq_true.mp hall p hp)
    refine ⟨?_, by rw [List.length_map]; exact cut_len 32 l, fun k hk n hn => ?_⟩
    · have e : l.length = (joinL [32] (Pap.cut 32 l)).length := by rw [Pap.join_cut]
      rw [e]
      refine joinL_le (by simp) fun i p q h1 h2 => ?_
      rw [List.getElem?_map, List.getElem?_map, h2] at h1
      rw [← Option.some.inj h1]
      obtain ⟨k1, k2⟩ := hd q (List.mem_of_getElem? h2)
      exact numL_val_le k2 k1
    · obtain ⟨p, hp, rfl⟩ := List.mem_map.mp hn
      exact val_pow (hd p hp).2 ((hk.cut hp) [] p [] (by simp) (hd p hp).2)
  · cases h
theorem pRow_le {l : Pap.Tx} {ns : List Nat} (h : Pap.pRow l = some ns) : (Pap.needLine ns).length ≤ l.length ∧ ns.length ≤ l.length + 1 ∧ ∀ k, Run k l → ∀ n ∈ ns, n < 10 ^ k := by
  unfold Pap.pRow at h
  split at h
  · rename_i e
    injection h with h
    subst h
    rw [e]
    exact ⟨by decide, by simp, fun _ _ _ h => by cases h⟩
  · split at h
    · rename_i e
      obtain ⟨h1, h2, h3⟩ := pNums_le h
      have hl : (l.take 6).length = 6 := by rw [e]; rfl
      rw [List.length_take] at hl
      rw [List.length_drop] at h1 h2
      refine ⟨?_, by omega, fun k hk => h3 k hk.drop⟩
      unfold Pap.needLine
      by_cases h0 : ns.map numL = []
      · rw [h0]
        show Pap.cNeeds.length ≤ _
        show 5 ≤ _
        omega
      · rw [Pap.joinL_cons h0, List.length_append, List.length_append]
        show 5 + (1 + _) ≤ _
        omega
    · cases h
theorem allSome_len {α : Type} {l : List (Option α)} {r : List α} (h : Pap.allSome l = some r) : l.length = r.length := by rw [Pap.allSome_some h, List.length_map]
theorem siz_oD (o : Option (List Nat)) : siz (oD o) = match o with | none => 1 | some ns => ns.length + 1 := by
  cases o with
  | none => rfl
  | some ns =>
    show sizL (ns.map fun n => .flat (nV n)) + 1 = ns.length + 1
    congr 1
    induction ns with
    | nil => rfl
    | cons n ns ih =>
      show 1 + sizL (ns.map fun n => .flat (nV n)) = ns.length + 1
      rw [ih]
      omega
theorem sizL_os : ∀ ls : List Pap.Tx, sizL ((ls.map Pap.pRow).map oD) ≤ (ls.map List.length).sum + 2 * ls.length
  | [] => Nat.le_refl _
  | l :: ls => by
    have ih := sizL_os ls
    have h1 : siz (oD (Pap.pRow l)) ≤ l.length + 2 := by
      rw [siz_oD]
      cases h : Pap.pRow l with
      | none => show 1 ≤ _; omega
      | some ns => have := (pRow_le h).2.1; show ns.length + 1 ≤ _; omega
    show siz (oD (Pap.pRow l)) + sizL ((ls.map Pap.pRow).map oD) ≤ (l.length + (ls.map List.length).sum) + 2 * (ls.length + 1)
    omega
/-- the lines of a text, and what stands in them -/
theorem rec_le {t : Pap.Tx} {m : Nat} {r0 : List Nat} {rows : List (List Nat)} (h0 : t.take 4 = Pap.cOld ++ [32]) (h1 : Pap.pNums (((Pap.cut 10 t).headD []).drop 4) = some (m :: r0)) (h2 : Pap.allSome ((Pap.cut 10 t).tail.map Pap.pRow) = some rows) :
    (Pap.recText m rows).length ≤ t.length ∧ rows.length ≤ t.length ∧ (∀ r ∈ rows, r.length ≤ t.length + 1) ∧ ∀ k, Run k t → m < 10 ^ k ∧ ∀ r ∈ rows, ∀ n ∈ r, n < 10 ^ k := by
  obtain ⟨l0, ls, hc⟩ : ∃ l0 ls, Pap.cut 10 t = l0 :: ls := by
    cases h : Pap.cut 10 t with
    | nil => exact absurd h (Pap.cut_ne 10 t)
    | cons a b => exact ⟨a, b, rfl⟩
  rw [hc] at h1 h2
  have h1' : Pap.pNums (l0.drop 4) = some (m :: r0) := h1
  have h2' : Pap.allSome (ls.map Pap.pRow) = some rows := h2
  have hrl := allSome_len h2'
  rw [List.length_map] at hrl
  have hmem : ∀ l ∈ l0 :: ls, l ∈ Pap.cut 10 t := fun l hl => by rw [hc]; exact hl
  have hrow : ∀ (i : Nat) (r : List Nat), rows[i]? = some r → ∃ l, ls[i]? = some l ∧ Pap.pRow l = some r := fun i r hr => by
    have e := Pap.allSome_some h2'
    have : (ls.map Pap.pRow)[i]? = some (some r) := by rw [e, List.getElem?_map, hr]; rfl
    rw [List.getElem?_map] at this
    cases hl : ls[i]? with
    | none => rw [hl] at this; cases this
    | some l => rw [hl] at this; exact ⟨l, rfl, Option.some.inj this⟩
  obtain ⟨n1, n2, n3⟩ := pNums_le h1'
  have hlen := cut_len 10 t
  rw [hc, List.length_cons] at hlen
  have hl4 : 4 ≤ l0.length := by
    -- the head line carries the four signs
    have ht : joinL [10] (l0 :: ls) = t := by rw [← hc]; exact Pap.join_cut 10 t
    by_cases hge : 4 ≤ l0.length
    · exact hge
    · exfalso
      have h4 : t.take 4 = [111, 108, 100, 32] := h0
      cases ls with
      | nil =>
        have : l0 = t := ht
        rw [this] at hge
        have := congrArg List.length h4
        rw [List.length_take] at this
        simp at this
        omega
      | cons b c =>
        have e : joinL [10] (l0 :: b :: c) = l0 ++ ([10] ++ joinL [10] (b :: c)) := rfl
        rw [← ht, e, List.take_append] at h4
        rw [List.take_of_length_le (by omega)] at h4
        have hm : (10 : Nat) ∈ l0 ++ ([10] ++ joinL [10] (b :: c)).take (4 - l0.length) := by
          refine List.mem_append_right _ ?_
          obtain ⟨k, hk⟩ : ∃ k, 4 - l0.length = k + 1 := ⟨3 - l0.length, by omega⟩
          rw [hk]
          exact List.mem_cons_self
        rw [h4] at hm
        revert hm
        decide
  refine ⟨?_, by omega, fun r hr => ?_, fun k hk => ⟨n3 k (hk.cut (hmem l0 List.mem_cons_self)).drop m List.mem_cons_self, fun r hr n hn => ?_⟩⟩
  · have e : t.length = (joinL [10] (l0 :: ls)).length := by rw [← hc, Pap.join_cut]
    rw [e]
    refine joinL_le (by simp [Pap.recLines, hrl]) fun i p q hp hq => ?_
    cases i with
    | zero =>
      have e1 : Pap.cOld ++ 32 :: numL m = p := by simpa [Pap.recLines] using hp
      have e2 : l0 = q := by simpa using hq
      subst e1 e2
      have : (numL m).length ≤ (joinL [32] ((m :: r0).map numL)).length := join_part (S := [32]) (by simp)
      rw [List.length_drop] at n1
      rw [List.length_append, List.length_cons]
      show 3 + _ ≤ _
      omega
    | succ i =>
      have hp' : (rows.map Pap.needLine)[i]? = some p := by simpa [Pap.recLines] using hp
      have hq' : ls[i]? = some q := by simpa using hq
      rw [List.getElem?_map] at hp'
      cases hr : rows[i]? with
      | none => rw [hr] at hp'; cases hp'
      | some r =>
        rw [hr] at hp'
        rw [← Option.some.inj hp']
        obtain ⟨l, k1, k2⟩ := hrow i r hr
        rw [hq'] at k1
        cases k1
        exact (pRow_le k2).1
  · obtain ⟨i, hi⟩ := List.getElem?_of_mem hr
    obtain ⟨l, k1, k2⟩ := hrow i r hi
    have := (pRow_le k2).2.1
    have := cut_part (hmem l (List.mem_cons_of_mem _ (List.mem_of_getElem? k1)))
    omega
  · obtain ⟨i, hi⟩ := List.getElem?_of_mem hr
    obtain ⟨l, k1, k2⟩ := hrow i r hi
    exact (pRow_le k2).2.2 k (hk.cut (hmem l (List.mem_cons_of_mem _ (List.mem_of_getElem? k1)))) n hn
end G

/-! read_recipe. -/
namespace G
open PySem PySem.Spec PyProof.Rows L2 Evl Tp RZ TL L2X
open PySem.ExX (ExT PrOk)
theorem cut1 (xs : List V) : cutV xs (some 1) none = xs.drop 1 := by
  unfold cutV
  rw [show HT.sIx xs.length 0 (some 1) = min 1 xs.length from HT.sIx_nat xs.length 0 1, HT.sIx_none]
  cases xs with
  | nil => rfl
  | cons x r =>
    rw [show min 1 (x :: r).length = 1 by
      rw [List.length_cons]
      omega]
    show (List.take ((x :: r).length - 1) r) = r
    rw [List.length_cons, Nat.add_sub_cancel]
    exact List.take_length
/-- the texts that the law hands over -/
structure TxG (t : Pap.Tx) : Prop where
  len : t.length ≤ 2000
  run : Run 30 t
  big : t.take 4 = Pap.cOld ++ [32] → (∃ l ∈ (Pap.cut 10 t).tail, l.take 6 = Pap.cNeeds ++ [32]) → Run 6 t
theorem Run.mono {k k' : Nat} {t : Pap.Tx} (h : Run k t) (hk : k ≤ k') : Run k' t := fun l p r e hp => Nat.le_trans (h l p r e hp) hk
section
variable {P : Program} {w : World} {K : PySem.W.Frag} {mg : Str → Option Value} {base : Heap} {f C CN fN CR fR CT fT CC fI : Addr} {fd fdI : FuncData} {H : Hp} {σ : L2.St}
theorem d_par {ta : TA} {tz : TS} {i j : Nat} {D : Ends} {H1 : Hp} {Pq : List V → Hp → Prop} (h : EvPA ta σ H Pq) (e : Ex H H1) (k : ∀ vs H' H2, Step H H1 H' H2 → Pq vs H' → ∃ v w, vs = [v, w] ∧ tz D ((σ.set i (some v)).set j (some w)) H2) : tSeq (tPar i j ta) tz D σ H1 := h H1 e _ fun vs H' H2 s p => k vs H' H2 s p
/-- a new object of ours is made and told -/
theorem Mid.made {Hl Ha H' H2 : Hp} {x dx Ca : Addr} {fs : List (Str × V)} (e : Ex Hl Ha) (nx : Ha x = none) (nd : Ha dx = none) (hxd : dx ≠ x) (m : Mid Hl (upd (upd Ha dx (.own x)) x (.ins Ca dx [])) x H' H2) (h2 : H2 x = some (.ins Ca dx fs)) : Step Hl Ha (upd H' x (.ins Ca dx fs)) H2 := by
  have lx : Hl x = none := fresh_back e nx
  refine ⟨m.loc.mut lx, fun b o h => ?_, fun b o h => ?_, fun b hb => ?_⟩
  · have n1 : b ≠ x := ne_of_none h nx
    have n2 : b ≠ dx := ne_of_none h nd
    exact m.tot b o n1 (by rw [upd_ne n1, upd_ne n2]; exact h)
  · by_cases hb : b = x
    · subst hb; rw [upd_same] at h; cases h; exact h2
    · rw [upd_ne hb] at h; exact m.inn b o h
  · by_cases hbx : b = x
    · subst hbx; exact .inr nx
    · rw [upd_ne hbx] at hb
      rcases m.fre b hb with z | z
      · exact .inl z
      · rw [upd_ne hbx] at z
        by_cases hbd : b = dx
        · subst hbd; exact .inr nd
        · rw [upd_ne hbd] at z; exact .inr z
abbrev nRd : List Str := ["text", "lines", "many", "rows", "made", "line"]
theorem scRd : FnScope nRd ["text"] (defScope (top 20)) := ⟨rfl, rfl, rfl, by decide +kernel, rfl, by decide +kernel, by decide +kernel⟩
def spRd (C CT : Addr) : Sp := fun vs H1 Q E => ∃ (H : Hp) (d : D) (x : V), vs = [x] ∧ Ex H H1 ∧ Den C H d x ∧ (∀ s, x = .str s → TxG (tl s)) ∧
  (∀ s m rows, x = .str s → Pap.pRecipe (tl s) = some (m, rows) → ∀ v H' H2, Step H H1 H' H2 → (∃ a, v = .ref a ∧ Den C H' (rcN a m rows) (.ref a)) → Q v H2) ∧ ((∀ s, x = .str s → Pap.pRecipe (tl s) = none) → Bad CT x H1 E)
theorem pow_big : (10 : Nat) ^ 30 ≤ 2 ^ 1000 := by decide +kernel
theorem pRecipe_no4 {t : Pap.Tx} (h : ¬ t.take 4 = Pap.cOld ++ [32]) : Pap.pRecipe t = none := by rw [Pap.pRecipe, if_neg h]
theorem pRecipe_noNum {t : Pap.Tx} (h : Pap.pNums (((Pap.cut 10 t).headD []).drop 4) = none) : Pap.pRecipe t = none := by
  unfold Pap.pRecipe
  rw [h]
  split <;> rfl
theorem pRecipe_at {t : Pap.Tx} {m : Nat} {r0 : List Nat} (h0 : t.take 4 = Pap.cOld ++ [32]) (h1 : Pap.pNums (((Pap.cut 10 t).headD []).drop 4) = some (m :: r0)) :
    Pap.pRecipe t = match Pap.allSome ((Pap.cut 10 t).tail.map Pap.pRow) with
      | some rows => if Pap.okRec m rows = true ∧ Pap.recText m rows = t then some (m, rows) else none
      | none => none := by
  rw [Pap.pRecipe, if_pos h0, h1]
  all_goals rfl
theorem ok_read_recipe (F : FnT K "read_recipe" 20 f fd) (TT : ExT K mg "InvalidText" CT fT) (PO : PrOk P) (KN : Kp P w K mg base CX0 1 "numbers_in" ["line"] spNi) (KW : Kp P w K mg base CX0 2 "row_in" ["line"] spRi)
    (FI : FnOk P w K mg base (L2N.CX P w) 3 fI fdI ["self", "many", "needs"] (spIn C CN)) (mk : Mk K C fI) (bI : Binds K fdI ["self", "many", "needs"] []) (KL : Kp P w K mg base CX0 1 "lines_of" ["recipe"] (spLi C))
    (gCC : mg "InvalidCount" = some (.ref CC)) (gCN : mg "InvalidNeeds" = some (.ref CN)) (hxm : PySem.W.exmAny K (.ref CN) [.ref CC, .ref CN] = some true) (fr : Fr mg) (rc : RcT K mg C) : FnOk P w K mg base (L2.CX P w) 5 f fd ["text"] (spRd C CT) := by
  refine F.ok scRd (fun vs H Q E h => ?_) (fun cdv A outer s H1 vs Q E hr h => ?_)
  · obtain ⟨H, d, x, rfl, _⟩ := h
    rfl
  · obtain ⟨H, d, x, rfl, e, hd, htx, good, bad⟩ := h
    have hdp : (A.deeper (envOfC "read_recipe" (defScope (top 20)) s.heap.objs.size f cdv)).depth + 1 < recursionLimit := by have := hr.dp; omega
    refine ⟨_, pss_cons (ps_if (PW.pt (pw_or (pt_not (pt_val (pe_isi fr.is_ fr.str_ bt_str (pv 0)))) (pw_or1 (pt_cmpR op_ne (pe_slice sl_str (pv 0) po_none (po_some pe_int)) pe_str (nomark _)))))
        (pss_one (ps_raiseEx rfl TT PO hdp (L2.takes_of rfl rfl rfl rfl) (pa_cons (pv 0) pa_nil) rfl)) pss_nil)
      (pss_cons (ps_set (i := 1) scRd.nd rfl (.inl rfl) (pe_split (pv 0) pe_str))
      (pss_cons (ps_par (i := 2) (j := 3) rfl scRd.nd rfl rfl (by decide) rfl rfl (pa_cons (pe_cl KN (hr.mono (by decide)) (pa_cons (pe_slice sl_str (pe_ix (r := rIxL K) ix_list (pv 1) pe_int (fun _ _ => rfl)) (po_some pe_int) po_none) pa_nil))
          (pa_cons (pe_lc (own := [("line", 5)]) (g := gName 5) (tt := tYes) rfl scRd.nd (pi_list (pe_slice sl_list (pv 1) (po_some pe_int) po_none)) (blkOk_by (N := nRd) (sc := defScope (top 20)) (by decide +kernel)) (fun _ _ _ _ _ => pg_name (i := 5) scRd.nd rfl (Or.inl rfl)) (fun _ _ _ _ _ => pts_nil)
            (fun _ _ _ _ _ => pe_cl KW (hr.mono (by decide)) (pa_cons (pv 5) pa_nil))) pa_nil)) (by rfl))
      (pss_cons (ps_if (pt_cmpR op_isN (pv 2) pe_non (nomark _)) (pss_one (ps_raiseEx rfl TT PO hdp (L2.takes_of rfl rfl rfl rfl) (pa_cons (pv 0) pa_nil) rfl)) pss_nil)
      (pss_cons (ps_try_tupX (c1 := .ref CC) (c2 := .ref CN) rfl rfl rfl gCC rfl gCN (fun hd => L2H.passesAt_of rfl hd) (L2.takes_of rfl rfl rfl rfl)
          (fun W pn xe tk _ => pss_one (ps_set (i := 4) scRd.nd rfl (.inl rfl) (pe_makeS mk FI hr rfl rc.gC bI (fun σ => L2N.passAt tk σ) (pa_cons (pe_ix (r := rIxL K) ix_list (pv 2) pe_int (fun _ _ => rfl)) (pa_cons (pv 3) pa_nil)))))
          (fun a oe cls d pn hz hf tk hot => pss_one (L2H.ps_raiseHN hot tk (pmk5_ex TT PO hdp (pa_cons (pv 0) pa_nil) rfl))))
      (pss_cons (ps_if (pt_cmpR op_ne (pe_join pe_str (pe_cl KL (hr.mono (by decide)) (pa_cons (pv 4) pa_nil))) (pv 0) (nomark _)) (pss_one (ps_raiseEx rfl TT PO hdp (L2.takes_of rfl rfl rfl rfl) (pa_cons (pv 0) pa_nil) rfl)) pss_nil)
      (pss_one (ps_ret (pv 4)))))))), ?_⟩
    -- is it a text that begins so
    have fin : ∀ {H2 : Hp}, Ex H1 H2 → (∀ s, x = .str s → Pap.pRecipe (tl s) = none) → Bad CT x H2 E := fun e2 hn => (bad hn).mono e2
    have rz : ∀ {σ' : L2.St} {Ht : Hp}, σ'[0]? = some (some x) → Bad CT x Ht E → tMkEx CT (tCons (tVar 0) tNil) σ' Ht fun cls d H' => E cls d H' := fun {σ' Ht} h0 hb => ⟨x, h0, x, rfl, fun d hd' => hb d _ (Ex.new hd') hd' upd_same⟩
    by_cases hs : ∃ s, x = .str s
    rotate_left
    · have hnS : isIB d "str" = false := by
        cases d with
        | flat v =>
          obtain ⟨rfl, hf⟩ := hd
          cases x with
          | str z => exact absurd ⟨z, rfl⟩ hs
          | non => rfl
          | bl b => rfl
          | int i => rfl
          | _ => cases hf
        | rcp a old t => rfl
        | seq tp t => cases tp <;> rfl
        | dic ks t => rfl
      have ev0 := et_not (et_B (ev_isD (σ := L2.start nRd [x]) (te := tVar 0) rc hd (ev_var rfl) (U := "str") (by decide)))
      rw [hnS] at ev0
      refine d_when (b := true) (et_is (et_or (b := true) ev0 fun z => nomatch z) rfl) e (fun _ H2 e2 => ?_) (fun z => nomatch z)
      exact rz rfl (fin e2 fun z hz => absurd ⟨z, hz⟩ hs)
    obtain ⟨z, rfl⟩ := hs
    have htx := htx z rfl
    have ed : d = .flat (.str z) := Den.uni _ _ _ hd ⟨rfl, rfl⟩
    subst ed
    have hlen := htx.len
    have bad' : Pap.pRecipe (tl z) = none → Bad CT (.str z) H1 E := fun hn => bad fun s hs => by injection hs with hs; subst hs; exact hn
    have ev0 := et_not (et_B (ev_isD (σ := L2.start nRd [.str z]) (te := tVar 0) rc hd (ev_var rfl) (U := "str") (by decide)))
    have ev4 : ∀ b, (!decide ((tl z).take 4 = Pap.cOld ++ [32])) = b → EvT (tTest (tOp rNe (tSl rSlS (tVar 0) tNoPart (tPart (tC (.int 4)))) (tC (.str ("old " : Str))))) (L2.start nRd [.str z]) H b := fun b hb =>
      et_test (ev_neS (ev_slS (ev_var rfl) eo_none (eo_some ev_c) (by omega)) ev_c (by rw [tOld, show cutS z none (some 4) = cutS z none (some ((4 : Nat) : Int)) from rfl, cut_take]; exact hb))
    by_cases h4 : (tl z).take 4 = Pap.cOld ++ [32]
    rotate_left
    · refine d_when (b := true) (et_is (et_or ev0 fun _ => ev4 true (by rw [decide_eq_false h4]; rfl)) (by rfl)) e (fun _ H2 e2 => ?_) (fun z => nomatch z)
      exact rz rfl ((bad' (pRecipe_no4 h4)).mono e2)
    refine d_when (b := false) (et_is (et_or ev0 fun _ => ev4 false (by rw [decide_eq_true h4]; rfl)) (by rfl)) e (fun z => nomatch z) fun _ H2 e2 => ?_
    -- the lines
    have hsc := split_cut (x := z) (y := ("\n" : Str)) (s := 10) (by decide +kernel) (by decide +kernel)
    have hcl := cut_len 10 (tl z)
    have hlen2 : (Txt.split z ("\n" : Str)).length = (Pap.cut 10 (tl z)).length := by rw [← hsc, List.length_map]
    refine d_set (ep_ofL (el_split (ev_var rfl) ev_c (by decide +kernel) (by omega))) (e.trans e2) fun v Ha H3 s3 hv => ?_
    obtain ⟨p, rfl, _, hp⟩ := hv
    obtain ⟨l0, ls, hls⟩ : ∃ l0 ls, Txt.split z ("\n" : Str) = l0 :: ls := by
      cases h : Txt.split z ("\n" : Str) with
      | nil => rw [h] at hsc; exact absurd hsc.symm (Pap.cut_ne 10 (tl z))
      | cons a b => exact ⟨a, b, rfl⟩
    have hcut : Pap.cut 10 (tl z) = tl l0 :: ls.map tl := by rw [← hsc, hls]; rfl
    have hmem0 : tl l0 ∈ Pap.cut 10 (tl z) := by rw [hcut]; exact List.mem_cons_self
    have hmemS : ∀ l ∈ ls, tl l ∈ Pap.cut 10 (tl z) := fun l hl => by rw [hcut]; exact List.mem_cons_of_mem _ (List.mem_map_of_mem hl)
    have h30 : Run 600 (tl z) := htx.run.mono (by decide)
    -- many, rows
    refine d_par (Pq := fun vs H' => ∃ mv rv, vs = [mv, rv] ∧ ONs (Pap.pNums ((tl l0).drop 4)) mv H' ∧ ∃ q zs, rv = .ref q ∧ H' q = some (.lst zs) ∧ zs.length = ls.length ∧ ∀ (i : Nat) (y : V), zs[i]? = some y → ∃ l, ls[i]? = some l ∧ ONs (Pap.pRow (tl l)) y H')
      (epa_cons (P1 := fun v H' => ONs (Pap.pNums ((tl l0).drop 4)) v H') ?_ fun v Hb eb hv => epa_cons (P1 := LcP Hb ls.length (fun i y H' => ∃ l, ls[i]? = some l ∧ ONs (Pap.pRow (tl l)) y H')) ?_ fun v2 Hc ec hv2 => epa_nil ?_) s3.inn ?_
    · refine ep_callA (vs := [.str (cutS l0 (some 4) none)]) (ea_cons (ev_slS (z := l0) (ev_op (ev_var rfl) ev_c (rv_ixL (i := 0) (sq_of hp) ?_)) (eo_some ev_c) eo_none ?_) ea_nil) (gv_spP (cutS l0 (some 4) none) ⟨rfl, ?_, ?_⟩ fun v H' e' hv => ?_)
      · rw [hls]
        exact atI_nat (j := 0) rfl
      · have := cut_part hmem0
        omega
      · have := cut_part hmem0
        rw [show cutS l0 (some 4) none = cutS l0 (some ((4 : Nat) : Int)) none from rfl, cut_drop, List.length_drop]
        omega
      · rw [show cutS l0 (some 4) none = cutS l0 (some ((4 : Nat) : Int)) none from rfl, cut_drop]
        exact (h30.cut hmem0).drop
      · rw [show cutS l0 (some 4) none = cutS l0 (some ((4 : Nat) : Int)) none from rfl, cut_drop] at hv
        exact hv
    · have hdr : cutV ((Txt.split z ("\n" : Str)).map V.str) (some 1) none = ls.map V.str := by rw [cut1, hls]; rfl
      have hls2 : ls.length ≤ 2001 := by rw [hls, List.length_cons] at hlen2; omega
      have := ep_lcN (K := K) (H := Hb) (σ := (L2.start nRd [.str z]).set 1 (some (.ref p))) (te := tCall spRi [] E0 (tCons (tVar 5) tNil)) (j := 5) (vs := [5]) (xs := ls.map V.str) (P1 := NewL Hb (ls.map V.str)) (fun i y H' => ∃ l, ls[i]? = some l ∧ ONs (Pap.pRow (tl l)) y H')
        (fun i v A B e ⟨l, k1, k2⟩ => ⟨l, k1, k2.mono e⟩) (tl := tSl (rSlL K) (tVar 1) (tPart (tC (.int 1))) tNoPart) (by
          have := ep_ofL (el_sl (K := K) (H := Hb) (σ := (L2.start nRd [.str z]).set 1 (some (.ref p))) (te := tVar 1) (ev_var rfl) (eo_some (ev_c (v := .int 1))) eo_none (ex_l eb (sq_of hp)))
          rw [hdr] at this
          exact this) (fun v H' e' ⟨a, k1, k2, k3⟩ => ⟨a, k1, sq_of k3, by rw [List.length_map]; omega⟩) (fun x => rfl) (fun i v w H' e' hw hv H'' e'' => by
          rw [List.getElem?_map] at hv
          obtain ⟨l, hl, rfl⟩ := Option.map_eq_some_iff.mp hv
          have hm := hmemS l (List.mem_of_getElem? hl)
          have := cut_part hm
          exact ep_callA (ea_cons (ev_var rfl) ea_nil) (gv_spP l ⟨rfl, by omega, h30.cut hm⟩ fun v H4 e4 hv => ⟨l, hl, hv⟩))
      rw [List.length_map] at this
      exact this
    · obtain ⟨q, zs, rfl, _, k2, k3, k4⟩ := hv2
      exact ⟨v, _, rfl, ONs.mono ec hv, q, zs, rfl, k2, k3, k4⟩
    rintro vs Hb H4 s4 ⟨mv, rv, rfl, hmv, q, zs, rfl, hq, hzl, hzs⟩
    refine ⟨mv, _, rfl, ?_⟩
    have s14 : Ex H1 H4 := (e2.trans s3.tot).trans s4.tot
    have hhead : ((Pap.cut 10 (tl z)).headD []).drop 4 = (tl l0).drop 4 := by rw [hcut]; rfl
    have htail : (Pap.cut 10 (tl z)).tail = ls.map tl := by rw [hcut]; rfl
    have evN : ∀ {mv : V} {b : Bool}, decide (mv = V.non) = b → EvT (tTest (tOp (fun x y H Q => y = .non ∧ Q (.bl (decide (x = .non))) H) (tVar 2) (tC .non))) ((((L2.start nRd [.str z]).set 1 (some (.ref p))).set 2 (some mv)).set 3 (some (.ref q))) Hb b := fun {mv b} hb => by
      refine et_test (fun H5 e5 Q q' => ⟨mv, rfl, rfl, ?_⟩)
      rw [hb]
      exact q' H5 (Ex.refl _)
    cases hpn : Pap.pNums ((tl l0).drop 4) with
    | none =>
      rw [hpn] at hmv
      cases (show mv = .non from hmv)
      refine d_when (b := true) (evN (decide_eq_true rfl)) s4.inn (fun _ H5 e5 => ?_) (fun z => nomatch z)
      exact rz rfl ((bad' (pRecipe_noNum (by rw [hhead]; exact hpn))).mono (s14.trans e5))
    | some ms =>
      rw [hpn] at hmv
      obtain ⟨pm, rfl, hpm⟩ := hmv
      refine d_when (b := false) (evN (decide_eq_false fun z => nomatch z)) s4.inn (fun z => nomatch z) fun _ H5 e5 => ?_
      obtain ⟨m, r0, rfl⟩ : ∃ m r0, ms = m :: r0 := by
        cases ms with
        | cons m r0 => exact ⟨m, r0, rfl⟩
        | nil =>
          unfold Pap.pNums at hpn
          split at hpn
          · injection hpn with hpn
            exact absurd (List.map_eq_nil_iff.mp hpn) (Pap.cut_ne 32 _)
          · cases hpn
      have hat := pRecipe_at (m := m) (r0 := r0) h4 (by rw [hhead]; exact hpn)
      rw [htail] at hat
      have e45 := s4.inn.trans e5
      -- the recipe is made, or is refused
      have hsum : (((ls.map tl).map List.length).sum + 2 * (ls.map tl).length) ≤ 3 * (tl z).length + 3 := by
        have h1 := joinL_len (S := [10]) (ps := Pap.cut 10 (tl z)) (Pap.cut_ne 10 _)
        rw [Pap.join_cut, hcut, List.map_cons, List.sum_cons, List.length_cons, List.length_singleton] at h1
        rw [hcut, List.length_cons] at hcl
        omega
      have hden : DenL C Hb ((ls.map fun l => Pap.pRow (tl l)).map oD) zs := DenL.of _ _ (by simp [hzl]) fun i d y hd hy => by
        obtain ⟨l, k1, k2⟩ := hzs i y hy
        rw [List.getElem?_map, List.getElem?_map, k1] at hd
        rw [← Option.some.inj hd]
        exact k2.den
      have emap : (ls.map fun l => Pap.pRow (tl l)) = (ls.map tl).map Pap.pRow := by rw [List.map_map]; rfl
      refine ⟨.ref pm, rfl, pm, (m :: r0).map nV, 0, nV m, rfl, rfl, ex_l e45 (sq_of hpm), atI_nat rfl, .ref q, rfl, fun y dy ny nd hxd => ?_⟩
      have eHb : Ex Hb (upd (upd H5 dy (.own y)) y (.ins C dy [])) := e45.trans (fun b o h => by rw [upd_ne (ne_of_none h ny), upd_ne (ne_of_none h nd)]; exact h)
      have nyd : (upd H5 dy (.own y)) y = none := by rw [upd_ne (Ne.symm hxd)]; exact ny
      refine ⟨Hb, y, dy, m, q, zs, ls.map fun l => Pap.pRow (tl l), rfl, eHb, fresh_back e45 ny, upd_same, hq, hden, ?_, ?_, ?_, ?_⟩
      · rw [emap]
        have := sizL_os (ls.map tl)
        omega
      · intro rows hrows hrec r hr n hn
        have hall : Pap.allSome ((ls.map tl).map Pap.pRow) = some rows := by rw [← emap, hrows]; exact Pap.allSome_map rows
        have hle := rec_le (t := tl z) (m := m) (r0 := r0) (rows := rows) h4 (by rw [hhead]; exact hpn) (by rw [htail]; exact hall)
        by_cases hne : ∃ l ∈ (Pap.cut 10 (tl z)).tail, l.take 6 = Pap.cNeeds ++ [32]
        · have := (hle.2.2.2 6 (htx.big h4 hne)).2 r hr n hn
          omega
        · -- no row holds a number
          exfalso
          obtain ⟨i, hi⟩ := List.getElem?_of_mem hr
          have h2 : ((ls.map tl).map Pap.pRow)[i]? = some (some r) := by rw [← emap, hrows, List.getElem?_map, hi]; rfl
          rw [List.getElem?_map] at h2
          cases hl : (ls.map tl)[i]? with
          | none => rw [hl] at h2; cases h2
          | some l =>
            rw [hl] at h2
            have h3 : Pap.pRow l = some r := Option.some.inj h2
            unfold Pap.pRow at h3
            split at h3
            · injection h3 with h3
              rw [← h3] at hn
              cases hn
            · split at h3
              · rename_i h6
                exact hne ⟨l, by rw [htail]; exact List.mem_of_getElem? hl, h6⟩
              · cases h3
      · -- made
        intro rows hrows hrec H' H6 fs pr hmid h6 lo lr hll
        have hall : Pap.allSome ((ls.map tl).map Pap.pRow) = some rows := by rw [← emap, hrows]; exact Pap.allSome_map rows
        rw [hall] at hat
        have hat : Pap.pRecipe (tl z) = if Pap.okRec m rows = true ∧ Pap.recText m rows = tl z then some (m, rows) else none := hat
        have hle := rec_le (t := tl z) (m := m) (r0 := r0) (rows := rows) h4 (by rw [hhead]; exact hpn) (by rw [htail]; exact hall)
        have st := Mid.made e45 ny nd hxd hmid h6
        refine ⟨rfl, ?_⟩
        show tSeq (tIfS (tTest (tOp rNe (tJoin K (tC (.str ("\n" : Str))) (tCall (spLi C) [] E0 (tCons (tVar 4) tNil))) (tVar 0))) (tRaiseEx CT (fun cls d _ H => E cls d H) (tCons (tVar 0) tNil)) tNext) (tRet (tVar 4)) { nx := fun _ H' => Q .non H', rt := Q } [some (.str z), some (.ref p), some (.ref pm), some (.ref q), some (.ref y), none] H6
        have hdn : Den C (upd H' y (.ins C dy fs)) (rcN y m rows) (.ref y) := ⟨rfl, dy, fs, pr, upd_same, lo, lr, Den.mono (Ex.new hmid.out) _ _ hll⟩
        have hb30 := hle.2.2.2 30 htx.run
        have hokN : okN m rows := ⟨Nat.lt_of_lt_of_le hb30.1 pow_big, fun r hr => ⟨by have := hle.2.2.1 r hr; omega, fun n hn => Nat.lt_of_lt_of_le (hb30.2 r hr n hn) pow_big⟩, by omega, by omega⟩
        have evJ : EvP (tJoin K (tC (.str ("\n" : Str))) (tCall (spLi C) [] E0 (tCons (tVar 4) tNil))) [some (.str z), some (.ref p), some (.ref pm), some (.ref q), some (.ref y), none] (upd H' y (.ins C dy fs)) (isStr (Pap.recText m rows)) :=
          ep_join (P1 := isStrs (Pap.recLines m rows)) ev_c (ep_callA (ea_cons (ev_var rfl) ea_nil) (gv_spP (y, m, rows) ⟨rfl, hdn, hokN⟩ fun v H' e' hv => hv)) fun v H7 e7 hv => by
            obtain ⟨p', ys, rfl, k1, k2⟩ := hv
            obtain ⟨j1, j2⟩ := rec_join k2 hokN.2.2.2
            exact ⟨p', ys, rfl, k1, j1, _, rfl, j2⟩
        have evD : EvP (tOp rNe (tJoin K (tC (.str ("\n" : Str))) (tCall (spLi C) [] E0 (tCons (tVar 4) tNil))) (tVar 0)) [some (.str z), some (.ref p), some (.ref pm), some (.ref q), some (.ref y), none] (upd H' y (.ins C dy fs)) (Eqv (.bl (!decide (Pap.recText m rows = tl z)))) :=
          ep_op (P2 := fun x y _ => isStr (Pap.recText m rows) x Hb ∧ y = .str z) evJ (fun x H7 e7 hx => ep_var rfl ⟨hx, rfl⟩) fun x w H7 e7 hxw => by
            obtain ⟨⟨sx, rfl, hsx⟩, rfl⟩ := hxw
            refine fun H8 e8 Q q' => ⟨rfl, q' _ H7 H8 (Step.refl e8) ?_⟩
            show V.bl _ = V.bl _
            rw [str_dec, hsx]
        have evT := et_test (EvP.ev evD)
        by_cases heq : Pap.recText m rows = tl z
        · rw [decide_eq_true heq] at evT
          refine d_when evT st.inn (fun z => nomatch z) fun _ H7 e7 => ?_
          rw [if_pos ⟨hrec, heq⟩] at hat
          refine ⟨.ref y, rfl, good z m rows rfl hat _ (upd H' y (.ins C dy fs)) H7 ?_ ⟨y, rfl, hdn⟩⟩
          exact (((Step.ex e e2).trans s3).trans s4).trans ((Step.ex s4.inn e5).trans (st.trans (Step.ex st.inn e7)))
        · rw [decide_eq_false heq] at evT
          refine d_when evT st.inn (fun _ H7 e7 => ?_) (fun z => nomatch z)
          rw [if_neg fun h => heq h.2] at hat
          exact rz rfl ((bad' hat).mono ((s14.trans e5).trans (st.tot.trans e7)))
      · -- refused
        intro hok d H6 e6 hd6 h6
        have hno : Pap.pRecipe (tl z) = none := by
          rw [hat, ← emap]
          unfold okOs at hok
          cases hall : Pap.allSome (ls.map fun l => Pap.pRow (tl l)) with
          | none => rfl
          | some rows =>
            rw [hall] at hok
            have hok : Pap.okRec m rows = false := hok
            show (if Pap.okRec m rows = true ∧ Pap.recText m rows = tl z then some (m, rows) else none) = none
            rw [if_neg fun h => by rw [hok] at h; cases h.1]
        have e56 : Ex H5 H6 := fun b o h => e6 b o (by rw [upd_ne (ne_of_none h ny), upd_ne (ne_of_none h nd)]; exact h)
        refine ⟨hxm, fun a na => ?_⟩
        exact rz rfl ((bad' hno).mono ((s14.trans e5).trans e56))
end
end G

/-! lots_text, read_lots. -/
namespace G
open PySem PySem.Spec PyProof.Rows L2 Evl Tp RZ TL L2X
open PySem.ExX (ExT PrOk)
def lotsD : D → Option (List (List Nat))
  | .seq false t => if t.all isRl = true then Pap.allSome (t.map rowD) else none
  | _ => none
theorem isRl_some {d : D} (h : isRl d = true) : ∃ ns, rowD d = some ns ∧ Pap.rising ns = true := by
  unfold isRl at h
  cases q : rowD d with
  | none => rw [q] at h; cases h
  | some ns => rw [q] at h; exact ⟨ns, rfl, h⟩
theorem lots_ok {t : List D} (h : t.all isRl = true) : ∃ rs, Pap.allSome (t.map rowD) = some rs ∧ t = rs.map fun r => .seq false (r.map fun n => .flat (nV n)) := by
  cases q : Pap.allSome (t.map rowD) with
  | none =>
    obtain ⟨d, hd, e⟩ := List.mem_map.mp (Pap.allSome_none.mp q)
    obtain ⟨ns, hns, _⟩ := isRl_some (List.all_eq_true.mp h d hd)
    rw [e] at hns
    cases hns
  | some rs => exact ⟨rs, rfl, Pap.map_some_of (fun a b => rowD_some) (Pap.allSome_some q)⟩
theorem rowsD_nat (rs : List (List Nat)) : rowsD (natR rs) = .seq false (rs.map fun r => .seq false (r.map fun n => .flat (nV n))) := by
  unfold rowsD natR
  rw [List.map_map]
  refine congrArg (D.seq false) (congrArg (fun g => rs.map g) (funext fun r => ?_))
  exact intsD_nat r
def okL (rs : List (List Nat)) : Prop := (∀ r ∈ rs, r.length ≤ 30000 ∧ ∀ n ∈ r, n < 2 ^ 1000) ∧ rs.length ≤ 30000 ∧ (Pap.lotsText rs).length ≤ 1000000
section
variable {P : Program} {w : World} {K : PySem.W.Frag} {mg : Str → Option Value} {base : Heap} {f C CL fL CT fT : Addr} {fd : FuncData} {H : Hp} {σ : L2.St}
abbrev tAllRl (K : PySem.W.Frag) (C : Addr) (tl' : TE) (j : Nat) : TE := tCB (rAll K) (tCons (tLc (iList K tl') (gName j) tYes (tCall (spIl C) [] E0 (tCons (tVar j) tNil)) [j]) tNil)
theorem ep_allRl {tl' : TE} {a : Addr} {t : List D} {xs : List V} {j : Nat} (h : Ev tl' σ H (.ref a)) (ha : Rd H a (.lst xs)) (hd : DenL C H t xs) (hz : sizL t ≤ 30000) (hj : j < σ.length) : EvP (tAllRl K C tl' j) σ H (Eqv (.bl (t.all isRl))) := by
  have hw : ∀ x, wipe ((wipe σ [j]).set j (some x)) [j] = wipe σ [j] := fun x => by
    show ((σ.set j none).set j (some x)).set j none = σ.set j none
    rw [List.set_set, List.set_set]
  have gj : ∀ x, ((wipe σ [j]).set j (some x))[j]? = some (some x) := fun x => by
    show ((σ.set j none).set j (some x))[j]? = _
    rw [List.set_set, List.getElem?_set_self hj]
  have hl := DenL.len _ _ hd
  have hl2 := sizL_len t
  refine ep_cb1 (ep_lcL (fun i y _ => ∃ b, (t.map isRl)[i]? = some b ∧ y = V.bl b) (fun _ _ _ _ _ h => h) h (.inl ha) (by omega) hw fun i x H' e hx => ?_) fun v H' e h => ?_
  · obtain ⟨d, hd1, hd2⟩ := DenL.get _ xs hd i x hx
    obtain ⟨q1, q2⟩ := dep_get _ i d hd1
    exact ep_callA (ea_cons (ev_var (gj _)) ea_nil) (gv_spP d ⟨x, rfl, Den.mono e d x hd2, by omega⟩ fun v H3 e3 hv => ⟨isRl d, by rw [List.getElem?_map, hd1]; rfl, hv⟩)
  · obtain ⟨p, ys, rfl, _, k2, k3, k4⟩ := h
    have ez := bls_ofL (bs := t.map isRl) (by rw [List.length_map]; omega) k4
    rw [ez] at k2
    refine gv_all (ys := ys) _ k2 ?_
    show V.bl _ = V.bl _
    rw [List.all_map]
    rfl
abbrev tLines (K : PySem.W.Frag) (tl' : TE) (j : Nat) : TE := tJoin K (tC (.str ("\n" : Str))) (tLc (iList K tl') (gName j) tYes (tCall (spLo K) [] E0 (tCons (tVar j) tNil)) [j])
theorem ep_lines {tl' : TE} {v : V} {rs : List (List Nat)} {j : Nat} (h : Ev tl' σ H v) (hv : LLx C H rs v) (hb : okL rs) (hj : j < σ.length) : EvP (tLines K tl' j) σ H (isStr (Pap.lotsText rs)) := by
  obtain ⟨p, ys, rfl, h2, hl, hrow⟩ := hv.get
  obtain ⟨b1, b2, b3⟩ := hb
  have hw : ∀ x, wipe ((wipe σ [j]).set j (some x)) [j] = wipe σ [j] := fun x => by
    show ((σ.set j none).set j (some x)).set j none = σ.set j none
    rw [List.set_set, List.set_set]
  have gj : ∀ x, ((wipe σ [j]).set j (some x))[j]? = some (some x) := fun x => by
    show ((σ.set j none).set j (some x))[j]? = _
    rw [List.set_set, List.getElem?_set_self hj]
  refine ep_join ev_c (ep_lcL (fun i y _ => ∃ x, y = V.str x ∧ (rs.map Pap.lineOf)[i]? = some (tl x)) (fun _ _ _ _ _ h => h) h (.inl h2) (by omega) hw fun i x H' e hx => ?_) fun v H' e hv => ?_
  · obtain ⟨r, a, hr, rfl, ha⟩ := hrow i x hx
    have hm := List.mem_of_getElem? hr
    obtain ⟨k1, k2⟩ := b1 r hm
    have hlr : (Pap.lineOf r).length ≤ 1000000 := Nat.le_trans (join_part (S := [10]) (ps := rs.map Pap.lineOf) (List.mem_map_of_mem hm)) b3
    exact ep_callA (ea_cons (ev_var (gj _)) ea_nil) (gv_spP r ⟨a, rfl, .inl (rd_mono e ha), k1, k2, hlr⟩ fun v H3 e3 ⟨x, h1, h2⟩ => ⟨x, h1, by rw [List.getElem?_map, hr, h2]; rfl⟩)
  · obtain ⟨q, zs, rfl, _, q2, q3, q4⟩ := hv
    obtain ⟨xs, ex1, ex2⟩ := strs_of (ts := rs.map Pap.lineOf) (by simp [q3, hl]) q4
    rw [ex1] at q2
    refine ⟨q, xs, rfl, q2, join_ok (by rw [tNl, ex2]; exact b3) (by rw [tNl]; decide), _, rfl, ?_⟩
    rw [join_eq, tl_join, tNl, ex2]
    rfl
/-! ### lots_text -/
theorem scLt : FnScope ["lots", "lot"] ["lots"] (defScope (top 23)) := ⟨rfl, rfl, rfl, by decide +kernel, rfl, by decide +kernel, by decide +kernel⟩
def spLt (C CL : Addr) : Sp := fun vs H1 Q E => ∃ (H : Hp) (d : D) (x : V), vs = [x] ∧ Ex H H1 ∧ Den C H d x ∧ siz d ≤ 30000 ∧ (∀ rs, lotsD d = some rs → okL rs ∧ ∀ v H2, Ex H1 H2 → isStr (Pap.lotsText rs) v H2 → Q v H2) ∧ (lotsD d = none → Bad CL x H1 E)
theorem ok_lots_text (F : FnT K "lots_text" 23 f fd) (TL : ExT K mg "InvalidLots" CL fL) (PO : PrOk P) (KI : Kp P w K mg base CX0 2 "is_rising_list" ["value"] (spIl C)) (KO : Kp P w K mg base CX0 1 "line_of" ["lot"] (spLo K)) (fr : Fr mg) (rc : RcT K mg C) : FnOk P w K mg base (L2.CX P w) 3 f fd ["lots"] (spLt C CL) := by
  refine F.ok scLt (fun vs H Q E h => ?_) (fun cdv A outer s H1 vs Q E hr h => ?_)
  · obtain ⟨H, d, x, rfl, _⟩ := h
    rfl
  · obtain ⟨H, d, x, rfl, e, hd, hz, good, bad⟩ := h
    have hdp : (A.deeper (envOfC "lots_text" (defScope (top 23)) s.heap.objs.size f cdv)).depth + 1 < recursionLimit := by have := hr.dp; omega
    refine ⟨_, pss_cons (ps_if (PW.pt (pw_or (pt_not (pt_val (pe_isi fr.is_ fr.list_ bt_list (pv 0)))) (pw_or1 (pt_not (pt_val (pe_callB (cr_all rfl) rfl fr.all_ bt_all
        (pa_cons (pe_lc (own := [("lot", 1)]) (g := gName 1) (tt := tYes) rfl scLt.nd (pi_list (pv 0)) (blkOk_by (N := ["lots", "lot"]) (sc := defScope (top 23)) (by decide +kernel)) (fun _ _ _ _ _ => pg_name (i := 1) scLt.nd rfl (Or.inl rfl)) (fun _ _ _ _ _ => pts_nil)
          (fun _ _ _ _ _ => pe_cl KI hr (pa_cons (pv 1) pa_nil))) pa_nil)))))))
        (pss_one (ps_raiseEx rfl TL PO hdp (L2.takes_of rfl rfl rfl rfl) (pa_cons (pv 0) pa_nil) rfl)) pss_nil)
      (pss_one (ps_ret (pe_join pe_str (pe_lc (own := [("lot", 1)]) (g := gName 1) (tt := tYes) rfl scLt.nd (pi_list (pv 0)) (blkOk_by (N := ["lots", "lot"]) (sc := defScope (top 23)) (by decide +kernel)) (fun _ _ _ _ _ => pg_name (i := 1) scLt.nd rfl (Or.inl rfl)) (fun _ _ _ _ _ => pts_nil)
          (fun _ _ _ _ _ => pe_cl KO (hr.mono (by decide)) (pa_cons (pv 1) pa_nil)))))), ?_⟩
    have rz : ∀ {σ' : L2.St} {Ht : Hp}, σ'[0]? = some (some x) → Bad CL x Ht E → tMkEx CL (tCons (tVar 0) tNil) σ' Ht fun cls d H' => E cls d H' := fun {σ' Ht} h0 hb => ⟨x, h0, x, rfl, fun d hd' => hb d _ (Ex.new hd') hd' upd_same⟩
    have ev0 := et_not (et_B (ev_isD (σ := L2.start ["lots", "lot"] [x]) (te := tVar 0) rc hd (ev_var rfl) (U := "list") (by decide)))
    by_cases hl : ∃ t, d = .seq false t
    · obtain ⟨t, rfl⟩ := hl
      have hz' : sizL t + 1 ≤ 30000 := hz
      obtain ⟨a, xs, rfl, h2, h3⟩ := hd
      have evA := et_not (et_B (EvP.ev (ep_allRl (K := K) (C := C) (σ := L2.start ["lots", "lot"] [.ref a]) (tl' := tVar 0) (j := 1) (ev_var rfl) h2 h3 (by omega) (by show 1 < 2; decide))))
      have ev := et_or ev0 fun _ => evA
      by_cases hall : t.all isRl = true
      · rw [hall] at ev
        refine d_when (b := false) (et_is ev rfl) e (fun z => nomatch z) fun _ H2 e2 => ?_
        obtain ⟨rs, h4, h5⟩ := lots_ok hall
        obtain ⟨hb, good⟩ := good rs (by show (if t.all isRl = true then _ else _) = _; rw [if_pos hall]; exact h4)
        have hll : LLx C H rs (.ref a) := by
          show Den C H (rowsD (natR rs)) (.ref a)
          rw [rowsD_nat, ← h5]
          exact ⟨a, xs, rfl, h2, h3⟩
        exact d_ret (H := H) (ep_lines (K := K) (j := 1) (ev_var rfl) hll hb (by show 1 < 2; decide)) (e.trans e2) fun v H' H3 s p => good v H3 (e2.trans s.tot) p
      · have hall' : t.all isRl = false := by simpa using hall
        rw [hall'] at ev
        refine d_when (b := true) (et_is ev (by simp)) e (fun _ H2 e2 => ?_) (fun z => nomatch z)
        exact rz rfl ((bad (by show (if t.all isRl = true then _ else _) = _; rw [if_neg hall])).mono e2)
    · have hB : isIB d "list" = false := by
        cases d with
        | flat v =>
          obtain ⟨rfl, hf⟩ := hd
          cases x <;> first | (cases hf; done) | rfl
        | rcp a old t => rfl
        | seq tp t => cases tp with | false => exact absurd ⟨t, rfl⟩ hl | true => rfl
        | dic ks t => rfl
      rw [hB] at ev0
      refine d_when (b := true) (et_is (et_or (b := true) ev0 fun z => nomatch z) rfl) e (fun _ H2 e2 => ?_) (fun z => nomatch z)
      refine rz rfl ((bad ?_).mono e2)
      cases d with
      | seq tp t => cases tp with | false => exact absurd ⟨t, rfl⟩ hl | true => rfl
      | _ => rfl
/-! ### read_lots -/
abbrev nRl : List Str := ["text", "made", "line", "lot"]
theorem scRl : FnScope nRl ["text"] (defScope (top 24)) := ⟨rfl, rfl, rfl, by decide +kernel, rfl, by decide +kernel, by decide +kernel⟩
def spRl (C CT : Addr) : Sp := fun vs H1 Q E => ∃ (H : Hp) (d : D) (x : V), vs = [x] ∧ Ex H H1 ∧ Den C H d x ∧ (∀ s, x = .str s → (tl s).length ≤ 2000 ∧ Run 30 (tl s)) ∧
  (∀ s rs, x = .str s → Pap.pLots (tl s) = some rs → ∀ v H' H2, Step H H1 H' H2 → NewRows C H rs v H' → Q v H2) ∧ ((∀ s, x = .str s → Pap.pLots (tl s) = none) → Bad CT x H1 E)
theorem pLot_le {l : Pap.Tx} {ns : List Nat} (h : Pap.pLot l = some ns) : (Pap.lineOf ns).length ≤ l.length ∧ ns.length ≤ l.length + 1 ∧ ∀ k, Run k l → ∀ n ∈ ns, n < 10 ^ k := by
  unfold Pap.pLot at h
  split at h
  · rename_i e
    injection h with h
    subst h
    rw [e]
    exact ⟨by decide, by simp, fun _ _ _ h => by cases h⟩
  · obtain ⟨h1, h2, h3⟩ := pNums_le h
    refine ⟨?_, h2, h3⟩
    have hne : ns ≠ [] := by
      intro z
      subst z
      unfold Pap.pNums at h
      split at h
      · injection h with h
        exact absurd (List.map_eq_nil_iff.mp h) (Pap.cut_ne 32 _)
      · cases h
    rw [Pap.lineOf, if_neg hne]
    exact h1
theorem sizL_lots : ∀ ls : List Pap.Tx, sizL ((ls.map Pap.pLot).map oD) ≤ (ls.map List.length).sum + 2 * ls.length
  | [] => Nat.le_refl _
  | l :: ls => by
    have ih := sizL_lots ls
    have h1 : siz (oD (Pap.pLot l)) ≤ l.length + 2 := by
      rw [siz_oD]
      cases h : Pap.pLot l with
      | none => show 1 ≤ _; omega
      | some ns => have := (pLot_le h).2.1; show ns.length + 1 ≤ _; omega
    show siz (oD (Pap.pLot l)) + sizL ((ls.map Pap.pLot).map oD) ≤ (l.length + (ls.map List.length).sum) + 2 * (ls.length + 1)
    omega
theorem lots_le {t : Pap.Tx} {rs : List (List Nat)} (h : Pap.allSome ((Pap.linesOf t).map Pap.pLot) = some rs) (hr : Run 30 t) (hl : t.length ≤ 2000) : okL rs := by
  have hrl := allSome_len h
  rw [List.length_map] at hrl
  have hlen : (Pap.linesOf t).length ≤ t.length + 1 := by
    unfold Pap.linesOf
    split
    · simp
    · exact cut_len 10 t
  have hmem : ∀ l ∈ Pap.linesOf t, l ∈ Pap.cut 10 t := fun l hl => by
    unfold Pap.linesOf at hl
    split at hl
    · cases hl
    · exact hl
  have hrow : ∀ (i : Nat) (r : List Nat), rs[i]? = some r → ∃ l, (Pap.linesOf t)[i]? = some l ∧ Pap.pLot l = some r := fun i r hr => by
    have e := Pap.allSome_some h
    have : ((Pap.linesOf t).map Pap.pLot)[i]? = some (some r) := by rw [e, List.getElem?_map, hr]; rfl
    rw [List.getElem?_map] at this
    cases hl : (Pap.linesOf t)[i]? with
    | none => rw [hl] at this; cases this
    | some l => rw [hl] at this; exact ⟨l, rfl, Option.some.inj this⟩
  refine ⟨fun r hr' => ?_, by omega, ?_⟩
  · obtain ⟨i, hi⟩ := List.getElem?_of_mem hr'
    obtain ⟨l, k1, k2⟩ := hrow i r hi
    have hm := hmem l (List.mem_of_getElem? k1)
    obtain ⟨j1, j2, j3⟩ := pLot_le k2
    have := cut_part hm
    exact ⟨by omega, fun n hn => Nat.lt_of_lt_of_le (j3 30 (hr.cut hm) n hn) pow_big⟩
  · have e : t.length = (joinL [10] (Pap.linesOf t)).length := by rw [Pap.join_lines]
    have : (Pap.lotsText rs).length ≤ (joinL [10] (Pap.linesOf t)).length := joinL_le (by rw [List.length_map]; omega) fun i p q hp hq => by
      rw [List.getElem?_map] at hp
      cases hr : rs[i]? with
      | none => rw [hr] at hp; cases hp
      | some r =>
        rw [hr] at hp
        rw [← Option.some.inj hp]
        obtain ⟨l, k1, k2⟩ := hrow i r hr
        rw [hq] at k1
        cases k1
        exact (pLot_le k2).1
    omega
end
end G

/-! read_lots. -/
namespace G
open PySem PySem.Spec PyProof.Rows L2 Evl Tp RZ TL L2X
open PySem.ExX (ExT PrOk)
section
variable {P : Program} {w : World} {K : PySem.W.Frag} {mg : Str → Option Value} {base : Heap} {f C CL fL CT fT : Addr} {fd : FuncData} {H : Hp} {σ : L2.St}
/-- at v a list, one item a line -/
def Lots (H0 : Hp) (ls : List Pap.Tx) (v : V) (H : Hp) : Prop := ∃ p zs, v = .ref p ∧ H0 p = none ∧ H p = some (.lst zs) ∧ zs.length = ls.length ∧ ∀ (i : Nat) (y : V), zs[i]? = some y → ∃ l, ls[i]? = some l ∧ ONs (Pap.pLot l) y H
theorem isRl_o (o : Option (List Nat)) : isRl (oD o) = match o with | none => false | some ns => Pap.rising ns := by
  cases o with
  | none => rfl
  | some ns =>
    unfold isRl
    show (match rowD (.seq false (ns.map fun n => .flat (nV n))) with | some ns => Pap.rising ns | none => false) = _
    rw [rowD_ns]
theorem all_rl {os : List (Option (List Nat))} (h : (os.map oD).all isRl = true) : ∃ rs, Pap.allSome os = some rs ∧ rs.all Pap.rising = true := by
  cases q : Pap.allSome os with
  | none =>
    have hn := Pap.allSome_none.mp q
    rw [List.all_map] at h
    have : isRl (oD none) = true := List.all_eq_true.mp h none hn
    rw [isRl_o] at this
    cases this
  | some rs =>
    refine ⟨rs, rfl, ?_⟩
    rw [Pap.allSome_some q, List.map_map, List.all_map] at h
    rw [← h]
    refine congrArg (fun g => rs.all g) (funext fun r => ?_)
    exact (isRl_o (some r)).symm
theorem ok_read_lots (F : FnT K "read_lots" 24 f fd) (TT : ExT K mg "InvalidText" CT fT) (PO : PrOk P) (KN : Kp P w K mg base CX0 1 "numbers_in" ["line"] spNi) (KI : Kp P w K mg base CX0 2 "is_rising_list" ["value"] (spIl C)) (KO : Kp P w K mg base CX0 1 "line_of" ["lot"] (spLo K))
    (fr : Fr mg) (rc : RcT K mg C) : FnOk P w K mg base (L2.CX P w) 3 f fd ["text"] (spRl C CT) := by
  refine F.ok scRl (fun vs H Q E h => ?_) (fun cdv A outer s H1 vs Q E hr h => ?_)
  · obtain ⟨H, d, x, rfl, _⟩ := h
    rfl
  · obtain ⟨H, d, x, rfl, e, hd, htx, good, bad⟩ := h
    have hdp : (A.deeper (envOfC "read_lots" (defScope (top 24)) s.heap.objs.size f cdv)).depth + 1 < recursionLimit := by have := hr.dp; omega
    refine ⟨_, pss_cons (ps_if (pt_not (pt_val (pe_isi fr.is_ fr.str_ bt_str (pv 0)))) (pss_one (ps_raiseEx rfl TT PO hdp (L2.takes_of rfl rfl rfl rfl) (pa_cons (pv 0) pa_nil) rfl)) pss_nil)
      (pss_cons (ps_set (i := 1) scRl.nd rfl (.inl rfl) (pe_ifExp (pt_cmpR op_ne (pv 0) pe_str (nomark _))
        (pe_lc (own := [("line", 2)]) (g := gName 2) (tt := tYes) rfl scRl.nd (pi_list (pe_split (pv 0) pe_str)) (blkOk_by (N := nRl) (sc := defScope (top 24)) (by decide +kernel)) (fun _ _ _ _ _ => pg_name (i := 2) scRl.nd rfl (Or.inl rfl)) (fun _ _ _ _ _ => pts_nil)
          (fun _ _ _ _ _ => pe_ifExp (pt_cmpR op_eq (pv 2) pe_str (nomark _)) (pe_lst pa_nil) (pe_cl KN (hr.mono (by decide)) (pa_cons (pv 2) pa_nil)))) (pe_lst pa_nil)))
      (pss_cons (ps_if (PW.pt (pw_or (pt_not (pt_val (pe_callB (cr_all rfl) rfl fr.all_ bt_all
        (pa_cons (pe_lc (own := [("lot", 3)]) (g := gName 3) (tt := tYes) rfl scRl.nd (pi_list (pv 1)) (blkOk_by (N := nRl) (sc := defScope (top 24)) (by decide +kernel)) (fun _ _ _ _ _ => pg_name (i := 3) scRl.nd rfl (Or.inl rfl)) (fun _ _ _ _ _ => pts_nil)
          (fun _ _ _ _ _ => pe_cl KI hr (pa_cons (pv 3) pa_nil))) pa_nil))))
        (pw_or1 (pt_cmpR op_ne (pe_join pe_str (pe_lc (own := [("lot", 3)]) (g := gName 3) (tt := tYes) rfl scRl.nd (pi_list (pv 1)) (blkOk_by (N := nRl) (sc := defScope (top 24)) (by decide +kernel)) (fun _ _ _ _ _ => pg_name (i := 3) scRl.nd rfl (Or.inl rfl)) (fun _ _ _ _ _ => pts_nil)
          (fun _ _ _ _ _ => pe_cl KO (hr.mono (by decide)) (pa_cons (pv 3) pa_nil)))) (pv 0) (nomark _)))))
        (pss_one (ps_raiseEx rfl TT PO hdp (L2.takes_of rfl rfl rfl rfl) (pa_cons (pv 0) pa_nil) rfl)) pss_nil)
      (pss_one (ps_ret (pv 1))))), ?_⟩
    have rz : ∀ {σ' : L2.St} {Ht : Hp}, σ'[0]? = some (some x) → Bad CT x Ht E → tMkEx CT (tCons (tVar 0) tNil) σ' Ht fun cls d H' => E cls d H' := fun {σ' Ht} h0 hb => ⟨x, h0, x, rfl, fun d hd' => hb d _ (Ex.new hd') hd' upd_same⟩
    have ev0 := et_not (et_B (ev_isD (σ := L2.start nRl [x]) (te := tVar 0) rc hd (ev_var rfl) (U := "str") (by decide)))
    by_cases hs : ∃ s, x = .str s
    rotate_left
    · have hnS : isIB d "str" = false := by
        cases d with
        | flat v =>
          obtain ⟨rfl, hf⟩ := hd
          cases x with
          | str z => exact absurd ⟨z, rfl⟩ hs
          | non => rfl
          | bl b => rfl
          | int i => rfl
          | _ => cases hf
        | rcp a old t => rfl
        | seq tp t => cases tp <;> rfl
        | dic ks t => rfl
      rw [hnS] at ev0
      refine d_when (b := true) ev0 e (fun _ H2 e2 => ?_) (fun z => nomatch z)
      exact rz rfl ((bad fun z hz => absurd ⟨z, hz⟩ hs).mono e2)
    obtain ⟨z, rfl⟩ := hs
    obtain ⟨hlen, hrun⟩ := htx z rfl
    have ed : d = .flat (.str z) := Den.uni _ _ _ hd ⟨rfl, rfl⟩
    subst ed
    have bad' : Pap.pLots (tl z) = none → Bad CT (.str z) H1 E := fun hn => bad fun s hs => by injection hs with hs; subst hs; exact hn
    refine d_when (b := false) ev0 e (fun z => nomatch z) fun _ H2 e2 => ?_
    have hsc := split_cut (x := z) (y := ("\n" : Str)) (s := 10) (by decide +kernel) (by decide +kernel)
    have hcl := cut_len 10 (tl z)
    have hlen2 : (Txt.split z ("\n" : Str)).length = (Pap.cut 10 (tl z)).length := by rw [← hsc, List.length_map]
    have h30 : Run 600 (tl z) := hrun.mono (by decide)
    have evne : ∀ b, (!(decide (tl z = []))) = b → EvT (tTest (tOp rNe (tVar 0) (tC (.str ("" : Str))))) (L2.start nRl [.str z]) H b := fun b hb => et_test (ev_neS (ev_var rfl) ev_c (by rw [show tl ("" : Str) = [] by decide +kernel]; exact hb))
    refine d_set (Pq := Lots H (Pap.linesOf (tl z))) ?_ (e.trans e2) fun v Ha H3 s3 hv => ?_
    · by_cases h0 : tl z = []
      · refine ep_if (evne false (by rw [decide_eq_true h0]; rfl)) (fun z => nomatch z) fun _ => Gv.imp (ep_ofL (el_lst ea_nil (by decide))) fun v H' e' ⟨p, h1, h2, h3⟩ => ?_
        refine ⟨p, [], h1, h2, h3, by rw [Pap.linesOf, if_pos h0]; rfl, fun i y hy => by simp at hy⟩
      · refine ep_if (evne true (by rw [decide_eq_false h0]; rfl)) (fun _ => ?_) (fun z => nomatch z)
        have eL : Pap.linesOf (tl z) = Pap.cut 10 (tl z) := by rw [Pap.linesOf, if_neg h0]
        have hit : ∀ (i : Nat) (v : V), ((Txt.split z ("\n" : Str)).map V.str)[i]? = some v → ∃ l, v = V.str l ∧ (Pap.cut 10 (tl z))[i]? = some (tl l) := fun i v hv => by
          rw [List.getElem?_map] at hv
          obtain ⟨l, hl, rfl⟩ := Option.map_eq_some_iff.mp hv
          exact ⟨l, rfl, by rw [← hsc, List.getElem?_map, hl]; rfl⟩
        refine Gv.imp (ep_lcN (xs := (Txt.split z ("\n" : Str)).map V.str) (P1 := NewL H ((Txt.split z ("\n" : Str)).map V.str)) (fun i y H' => ∃ l, (Pap.cut 10 (tl z))[i]? = some l ∧ ONs (Pap.pLot l) y H') (fun i v A B e ⟨l, k1, k2⟩ => ⟨l, k1, k2.mono e⟩)
          (ep_ofL (el_split (ev_var rfl) ev_c (by decide +kernel) (by omega))) (fun v H' e' ⟨a, k1, k2, k3⟩ => ⟨a, k1, sq_of k3, by rw [List.length_map]; omega⟩) (fun x => rfl) fun i v w H' e' hw hv H'' e'' => ?_) fun v H' e' ⟨p, zs, h1, h2, h3, h4, h5⟩ => ⟨p, zs, h1, h2, h3, by rw [eL, h4, List.length_map]; exact hlen2, by rw [eL]; exact h5⟩
        obtain ⟨l, rfl, hl⟩ := hit i v hv
        have hm := List.mem_of_getElem? hl
        have hcp := cut_part hm
        have evd : ∀ b, decide (tl l = [45]) = b → EvT (tTest (tOp rEq (tVar 2) (tC (.str ("-" : Str))))) ((wipe (L2.start nRl [.str z]) [2]).set 2 (some (.str l))) H'' b := fun b hb => et_test (ev_eqS (ev_var rfl) ev_c (by rw [tDash]; exact hb))
        by_cases hd : tl l = [45]
        · refine ep_if (evd true (decide_eq_true hd)) (fun _ => Gv.imp (ep_ofL (el_lst ea_nil (by decide))) fun v H' e' ⟨p, h1, h2, h3⟩ => ⟨_, hl, ?_⟩) (fun z => nomatch z)
          rw [Pap.pLot, if_pos hd]
          exact ⟨p, h1, h3⟩
        · refine ep_if (evd false (decide_eq_false hd)) (fun z => nomatch z) fun _ => ep_callA (ea_cons (ev_var rfl) ea_nil) (gv_spP l ⟨rfl, by omega, h30.cut hm⟩ fun v H4 e4 hv => ⟨_, hl, ?_⟩)
          rw [Pap.pLot, if_neg hd]
          exact hv
    · obtain ⟨p, zs, rfl, np, hp, hzl, hzs⟩ := hv
      have hden : DenL C Ha (((Pap.linesOf (tl z)).map Pap.pLot).map oD) zs := DenL.of _ _ (by simp [hzl]) fun i d y hd hy => by
        obtain ⟨l, k1, k2⟩ := hzs i y hy
        rw [List.getElem?_map, List.getElem?_map, k1] at hd
        rw [← Option.some.inj hd]
        exact k2.den
      have hsum : ((Pap.linesOf (tl z)).map List.length).sum + 2 * (Pap.linesOf (tl z)).length ≤ 3 * (tl z).length + 3 := by
        unfold Pap.linesOf
        split
        · simp
        · have h1 := joinL_len (S := [10]) (ps := Pap.cut 10 (tl z)) (Pap.cut_ne 10 _)
          rw [Pap.join_cut, List.length_singleton] at h1
          omega
      have hsz := sizL_lots (Pap.linesOf (tl z))
      have evA := et_not (et_B (EvP.ev (ep_allRl (K := K) (C := C) (H := Ha) (σ := (L2.start nRl [.str z]).set 1 (some (.ref p))) (tl' := tVar 1) (j := 3) (ev_var rfl) (.inl hp) hden (by omega) (by show 3 < 4; decide))))
      have s13 : Ex H1 H3 := e2.trans s3.tot
      have bd : ∀ {Ht : Hp}, Ex H3 Ht → Pap.pLots (tl z) = none → Bad CT (.str z) Ht E := fun eh hn => (bad' hn).mono (s13.trans eh)
      by_cases hall : (((Pap.linesOf (tl z)).map Pap.pLot).map oD).all isRl = true
      · obtain ⟨rs, hrs, hris⟩ := all_rl hall
        rw [hall] at evA
        have hb := lots_le hrs hrun hlen
        have hll : LLx C Ha rs (.ref p) := LLx.of (.inl hp) (by rw [hzl, ← allSome_len hrs, List.length_map]) fun i r y hr hy => by
          obtain ⟨l, k1, k2⟩ := hzs i y hy
          have e3 := Pap.allSome_some hrs
          have : ((Pap.linesOf (tl z)).map Pap.pLot)[i]? = some (some r) := by rw [e3, List.getElem?_map, hr]; rfl
          rw [List.getElem?_map, k1] at this
          rw [show Pap.pLot l = some r from Option.some.inj this] at k2
          obtain ⟨a, j1, j2⟩ := k2
          exact ⟨a, j1, .inl j2⟩
        have evD : EvP (tOp rNe (tLines K (tVar 1) 3) (tVar 0)) ((L2.start nRl [.str z]).set 1 (some (.ref p))) Ha (Eqv (.bl (!decide (Pap.lotsText rs = tl z)))) :=
          ep_op (P2 := fun x y _ => isStr (Pap.lotsText rs) x Ha ∧ y = .str z) (ep_lines (K := K) (j := 3) (ev_var rfl) hll hb (by show 3 < 4; decide)) (fun x H7 e7 hx => ep_var rfl ⟨hx, rfl⟩) fun x w H7 e7 hxw => by
            obtain ⟨⟨sx, rfl, hsx⟩, rfl⟩ := hxw
            refine fun H8 e8 Q q' => ⟨rfl, q' _ H7 H8 (Step.refl e8) ?_⟩
            show V.bl _ = V.bl _
            rw [str_dec, hsx]
        have ev := et_or evA fun _ => et_test (EvP.ev evD)
        have hpl : Pap.pLots (tl z) = if rs.all Pap.rising = true ∧ Pap.lotsText rs = tl z then some rs else none := by
          unfold Pap.pLots
          rw [hrs]
        by_cases heq : Pap.lotsText rs = tl z
        · rw [decide_eq_true heq] at ev
          refine d_when (b := false) (et_is ev rfl) s3.inn (fun z => nomatch z) fun _ H5 e5 => ?_
          rw [if_pos ⟨hris, heq⟩] at hpl
          exact ⟨.ref p, rfl, good z rs rfl hpl _ Ha H5 (((Step.ex e e2).trans s3).trans (Step.ex s3.inn e5)) ⟨hll, p, rfl, np, zs, hp⟩⟩
        · rw [decide_eq_false heq] at ev
          refine d_when (b := true) (et_is ev rfl) s3.inn (fun _ H5 e5 => ?_) (fun z => nomatch z)
          rw [if_neg fun h => heq h.2] at hpl
          exact rz rfl (bd e5 hpl)
      · have hall' : (((Pap.linesOf (tl z)).map Pap.pLot).map oD).all isRl = false := by simpa using hall
        rw [hall'] at evA
        refine d_when (b := true) (et_is (et_or (b := true) evA fun z => nomatch z) rfl) s3.inn (fun _ H5 e5 => ?_) (fun z => nomatch z)
        refine rz rfl (bd e5 ?_)
        unfold Pap.pLots
        cases q : Pap.allSome ((Pap.linesOf (tl z)).map Pap.pLot) with
        | none => rfl
        | some rs =>
          show (if rs.all Pap.rising = true ∧ Pap.lotsText rs = tl z then some rs else none) = none
          refine if_neg fun h => hall ?_
          rw [Pap.allSome_some q, List.map_map, List.all_map, ← h.1]
          refine congrArg (fun g => rs.all g) (funext fun r => ?_)
          exact isRl_o (some r)
end
end G

/-! Small rules: != of two recipes, list.count of flat things, f(k = e), 10 ** 60. -/
namespace G
open PySem PySem.Spec PyProof.Rows L2 Evl Tp RZ TL L2X
open PySem.ExX (ExT PrOk)
/-! ### != by an own == -/
section
open PySem.W
theorem one_bind (self : Value) : bindSpecial (.builtin "object.__ne__") self = pure (.builtin "object.__ne__", [self]) :=
  (Slot.of (T := "object") (name := "__ne__") (owner := "object") (n := "__ne__") (by rw [typeLookup_type, builtinLookup_eq_fast]; kernel_rfl) (by decide +kernel) (by decide +kernel) (by decide +kernel)
    (.inl (by decide +kernel)) (by rw [isSubtype_type]; kernel_rfl)).bind self
theorem one_plain : plainId "object.__ne__" = true := by decide +kernel
variable {prog : Program} {w : World} {A : Around} {E : Value → Shared → Prop} {s : Shared} {K : Frag} {x y C f : Addr} {ox : Obj} {od : Option Obj}
theorem ifBound_KB {M : Model} {name : Str} {args : List Value} {Q : Option Value → Shared → Prop} (X : K.In s.heap) (I : InstAt s.heap x ox C od) (hs : findIn K (.ref C) name = some (some (.builtin "object.__ne__")))
    (h : wpAny M A (call (.builtin "object.__ne__") (.ref x :: args)) (fun v => Q (some v)) E s) : wpAny M A (callSpecialIfBound? (.ref x) name args) Q E s := by
  simp only [callSpecialIfBound?, bindSpecialIfBound?]
  refine wpAny_holding (wpAny_bind (wpAny_bind (wpAny_bind (I.type.here ((looks_findIn X hs).here ?_)))))
  simp only [one_bind]
  refine wpAny_bind (wpAny_askSetting (wpAny_ite ?_))
  have fin : wpAny M A (call (.builtin "object.__ne__") ([.ref x] ++ args) >>= fun v => pure (some v)) Q E s := wpAny_bind (wpAny_mono h (fun v s' h' => wpAny_pure h') fun _ _ h' => h')
  split
  · exact wpAny_bind (wpAny_pure (wpAny_pure (by exact fin)))
  · exact wpAny_tryCatch (wpAny_bind (wpAny_pure (wpAny_pure (by exact fin))))
theorem objNe_K {Q : Fin → Shared → Prop} (X : K.In s.heap) (I : InstAt s.heap x ox C od) (hs : findIn K (.ref C) "__eq__" = some (some (.ref f))) (hf : isFn K (.ref f) = true) (hu : A.units < cLine)
    (hcall : wpAny (model prog w) A (call (.ref f) [.ref x, .ref y]) (fun v s' => ∃ b, v = .bool b ∧ Q (.done (.ret (.bool (!b)))) s') E s) : wpAny (model prog w) A (Builtin.«object.__ne__» ⟨[.ref x, .ref y], []⟩) Q E s := by
  unfold Builtin.«object.__ne__»
  repeat (first
    | with_reducible refine wpAny_cRoomFor hu ?_
    | (refine wpAny_bind (m := callSpecialIfBound? (.ref x) (Str.ofString "__eq__") [.ref y])
        (ifBound_K X I hs hf (wpAny_mono hcall (fun r s' hr => by
          obtain ⟨b, rfl, hq⟩ := hr
          repeat (first | exact hq | exact wpAny_pure hq | exact wpAny_truthy_bool hq | (refine wpAny_bind (m := truthy (.bool _)) (wpAny_truthy_bool ?_)) | wp_step)) fun _ _ e => e)))
    | wp_step)
theorem ne_K {Q : Value → Shared → Prop} (hu : A.units + 1 < cLine) (X : K.In s.heap) (I : InstAt s.heap x ox C od) (hb : Looks (model prog w) s.heap (typeOf (.ref y)) (.ref C)) (hn : findIn K (.ref C) "__ne__" = some (some (.builtin "object.__ne__")))
    (hs : findIn K (.ref C) "__eq__" = some (some (.ref f))) (hf : isFn K (.ref f) = true) (ho : subIn K (.ref C) (.type "object") = some true)
    (hcall : wpAny (model prog w) A.in1 (call (.ref f) [.ref x, .ref y]) (fun v s' => ∃ b, v = .bool b ∧ Q (.bool (!b)) s') E s) : wpAny (model prog w) A (richCompare .NotEq (.ref x) (.ref y)) Q E s := by
  have sub : Looks (model prog w) s.heap (isInstance (.ref x) (.type "object")) true := (I.type (M := model prog w)).andThen (looks_subIn X ho)
  have one : wpAny (model prog w) A (tryCompare (.ref x) "__ne__" (.ref y)) (fun r s' => ∃ b, r = some (.bool b) ∧ Q (.bool b) s') E s := by
    simp only [tryCompare]
    refine wpAny_bind (ifBound_KB X I hn (wpAny_call (codeAny_call_builtin one_plain F.cmpEntry_ne (check_slot F.cmpKind_ne F.cmpSplit_ne sub (F.cmpArgs_ne _ _) (objNe_K X I hs hf (by show A.units + 1 < cLine; exact hu) (wpAny_mono hcall (fun v s' hv => ?_) fun _ _ e => e))))))
    obtain ⟨b, rfl, hq⟩ := hv
    exact ⟨b, rfl, wpAny_pure ⟨!b, rfl, hq⟩⟩
  unfold richCompare
  simp only [oneThing_ref]
  refine wpAny_holding (wpAny_bind (wpAny_cRoomFor (Nat.lt_of_succ_lt hu) ?_))
  rw [cmpInfo_NotEq]
  dsimp only
  refine wpAny_bind (I.type.here (wpAny_bind (hb.here ?_)))
  rw [show (Value.ref C != Value.ref C) = false from by simp]
  simp only [Bool.false_eq_true, if_false]
  refine wpAny_bind (wpAny_pure ?_)
  simp only [Bool.false_eq_true, if_false]
  refine wpAny_bind (wpAny_mono one (fun v s' hv => ?_) fun _ _ e => e)
  obtain ⟨b, rfl, hq⟩ := hv
  first | exact wpAny_pure hq | exact wpAny_pure (wpAny_pure hq)
end
/-- x != y, two recipes that are equal -/
theorem op_neR {X : Cx} {C fe : Addr} {fde : FuncData} {n : Nat} (F : FnOk X.prog X.w X.K X.mg X.base CX0 n fe fde ["self", "other"] (spEq (REq C))) (hr : Room (n + 1) X.A) (hn : PySem.W.findIn X.K (.ref C) "__ne__" = some (some (.builtin "object.__ne__")))
    (hs : PySem.W.findIn X.K (.ref C) "__eq__" = some (some (.ref fe))) (hf : PySem.W.isFn X.K (.ref fe) = true) (hb : Binds X.K fde ["self", "other"] []) (ho : PySem.W.subIn X.K (.ref C) (.type "object") = some true) :
    OpR X (compareOp .NotEq) (fun x y H Q => ∃ a b, x = .ref a ∧ y = .ref b ∧ REq C a b H ∧ ∀ H', Ex H H' → Q (.bl false) H') := by
  intro pins s σ H x y v u Q I rx ry h
  obtain ⟨a, b, rfl, rfl, hR, q⟩ := h
  cases rx
  cases ry
  obtain ⟨old, rs, ⟨_, dx, fs, pr, ha, _⟩, ⟨_, dx', fs', pr', hb', _⟩⟩ := id hR
  obtain ⟨mA, J, _⟩ := ins_get I.hok ha
  obtain ⟨mB, J', _⟩ := ins_get I.hok hb'
  obtain ⟨od, J, _⟩ := J.look
  obtain ⟨od', J', _⟩ := J'.look
  show wpAny (model X.prog X.w) X.A (richCompare .NotEq (.ref a) (.ref b)) (EP X pins σ Q) X.xe s
  refine ne_K (by have := hr.un; omega) I.kIn J J'.type hn hs hf ho ?_
  have hsp : spEq (REq C) [.ref a, .ref b] H (fun v H' => v = .bl true ∧ Ex H H') E0 := ⟨a, b, rfl, hR, fun H' e => ⟨rfl, e⟩⟩
  have e0 : Env0 X.prog X.w X.K X.mg X.base X.A.in1 X.stack s H := by
    have e := I.env0
    exact ⟨e.frames, e.mod, e.bs, e.bsz, e.funs, e.frf, e.hok, e.bare⟩
  have hl := F.len _ _ _ _ hsp
  have r2 : Vals [V.ref a, V.ref b] [Value.ref a, Value.ref b] := .cons rfl (.cons rfl .nil)
  refine wpAny_call (codeAny_mono (F.run X.A.in1 X.stack s H ⟨[.ref a, .ref b], []⟩ [.ref a, .ref b] [.ref a, .ref b] _ E0 hr.in1 e0 (by
    have := hb s [.ref a, .ref b] I.kIn (by simpa using hl)
    simpa using this) r2 hsp) fun r s' hq => ?_)
  cases r with
  | error e => exact hq.elim
  | ok fl =>
    cases fl with
    | ret w =>
      obtain ⟨z, H', I', rz, ez, ex⟩ := I.after hq
      subst ez
      cases rz
      exact ⟨true, rfl, .bl false, H', I', rfl, q H' ex⟩
    | next => exact False.elim hq
    | brk => exact False.elim hq
    | cont => exact False.elim hq
/-! ### list.count, flat items -/
def rFcnt (K : PySem.W.Frag) : V → List V → Hp → VK → Prop := fun x xs H Q => ∃ (p : Addr) (ys : List V) (y : V), x = .ref p ∧ xs = [y] ∧ SqL K H p ys ∧ flatV y = true ∧ ys.all flatV = true ∧ Q (.int (ys.countP (fun z => eqV z y) : Nat)) H
theorem countP_vals {y : V} {uy : Value} (fy : flatV y = true) (ry : RelV y uy) : ∀ {ys : List V} {its : List Value}, Vals ys its → ys.all flatV = true → its.countP (eqU y) = ys.countP (fun z => eqV z y)
  | _, _, .nil, _ => rfl
  | z :: ys, u :: its, .cons r t, f => by
    rw [List.all_cons, Bool.and_eq_true_iff] at f
    rw [List.countP_cons, List.countP_cons, countP_vals fy ry t f.2, eqU_of r f.1]
theorem mt_fcount {X : Cx} : MtR X "list.count" (rFcnt X.K) := by
  intro pins s σ H x xs v us Q I rx rxs h
  obtain ⟨a, ys, y, rfl, rfl, hs, fy, fys, q⟩ := h
  cases rx
  cases rxs with
  | cons ry rt =>
    rename_i uy ut
    cases rt
    obtain ⟨its, rv, ⟨⟨cls, dd, data, sl⟩, n, ho, hc, hdn, hd⟩, hlen⟩ := I.list hs
    simp only at hc hd
    subst hc hd
    refine call_meets PySem.F.slot_list_count ⟨_, ho, rfl⟩ PySem.F.entry_list_count (PySem.F.args_list_count_2 _ _)
      (SeqAt.list_countAt a its.toArray n dd sl uy (eqU y)) ⟨ho, fun u' hu' => mem_eqAt ry fy rv fys u' (by simpa using hu'), ?_⟩
    refine ⟨.int (ys.countP (fun z => eqV z y) : Nat), H, I.tok _, ⟨s.toks, ?_⟩, q⟩
    show Value.int ((its.toArray.toList.countP (eqU y) : Nat) : Int) s.toks = Value.int ((ys.countP (fun z => eqV z y) : Nat) : Int) s.toks
    rw [show its.toArray.toList = its by simp, countP_vals fy ry rv fys]
/-! ### f(k = e) -/
def KpK (P : Program) (w : World) (K : PySem.W.Frag) (mg : Str → Option Value) (base : Heap) (CX : CXT) (k : Nat) (x kn : Str) (sp : Sp) : Prop :=
  ∃ f fd, FnOk P w K mg base CX k f fd [kn] sp ∧ mg x = some (.ref f) ∧ PySem.W.keepIn K (.ref f) = true ∧ ∀ (s : Shared) (v : Value), BindsTo s fd ⟨[], [(kn, v)]⟩ [(kn, v)]
theorem pe_kw1S {X : Cx} {k : Nat} {x kn : Str} {sp : Sp} {W : WX} {p pos kpos : Pos} {e : Expr} {te : TE} (kp0 : KpK X.prog X.w X.K X.mg X.base (L2.CX X.prog X.w) k x kn sp) (hr : Room k X.A) (tk : L2.Takes X W) (he : PE X e te) (hg : Gl X x := by rfl)
    (hall : (backToKw pos (keywordEach [⟨some kn, e, kpos⟩] X.env)).all (·.1.isSome) = true := by rfl) (hks : (backToKw pos (keywordEach [⟨some kn, e, kpos⟩] X.env)).filterMap (·.1) = [kn] := by rfl) (hdb : (x == ("__debug__" : Str)) = false := by decide)
    (hpl : ((backTo pos (starEach [] X.env)).any (·.1) || (backToKw pos (keywordEach [⟨some kn, e, kpos⟩] X.env)).any (·.1.isNone)) = false := by rfl) :
    PE X (.Call (.Name x p) [] [⟨some kn, e, kpos⟩] pos) (tCallS sp (WE W) (tCons te tNil)) := by
  obtain ⟨f, fd, F, g, kp, hb⟩ := kp0
  have hkw : PK X [⟨some kn, e, kpos⟩] (tCons te tNil) := pk_cons he pk_nil
  refine ⟨fun pins s σ H Q I h => ?_⟩
  refine wpAny_Call_Name_kw (ld_glob I hg g ?_ hdb)
  refine PySem.W.callWith_KW0 (h₀ := X.base) I.ok.mod.kin kp hall ?_ hpl
  refine thn (hkw.run pos pins s σ H _ I h) fun ws s2 ⟨zs, H2, I2, rz, q2⟩ => ⟨I2.kIn, ?_⟩
  rw [hks]
  have hl := F.len _ _ _ _ q2
  obtain ⟨z, rfl⟩ : ∃ z, zs = [z] := by
    cases zs with
    | nil => cases hl
    | cons z r => cases r with | nil => exact ⟨z, rfl⟩ | cons => simp at hl
  obtain ⟨u, rfl, ru⟩ := vals1 rz
  show wpAny _ _ (call (.ref f) [] [(kn, u)]) _ _ _
  refine wpAny_call (codeAny_mono (F.run X.A X.stack s2 H2 ⟨[], [(kn, u)]⟩ [u] [z] Q (WE W σ) hr I2.env0 (hb s2 u) (.cons ru .nil) q2) fun r s' hq => ?_)
  cases r with
  | error e => exact L2.passAt tk σ pins H2 s2 e s' I2 hq
  | ok fl =>
    cases fl with
    | ret u => exact I2.after hq
    | next => exact False.elim hq
    | brk => exact False.elim hq
    | cont => exact False.elim hq
end G

/-! _law_called, _law_told. -/
namespace G
open PySem PySem.Spec PyProof.Rows L2 Evl Tp RZ TL L2X
open PySem.ExX (ExT PrOk)
section
variable {P : Program} {w : World} {K : PySem.W.Frag} {mg : Str → Option Value} {base : Heap} {f C CL fL CT fT CR fR CS : Addr} {fd : FuncData} {H : Hp} {σ : L2.St}
/-! ### _law_called -/
theorem scCa : FnScope ["_law_door", "_law_g"] ["_law_door", "_law_g"] (defScope (top 41)) := ⟨rfl, rfl, rfl, by decide +kernel, rfl, by decide +kernel, by decide +kernel⟩
/-- what a door does with x: it lets it pass, or raises an error of the class at CE -/
inductive Door (C CR CL CT : Addr) : Int → D → V → Option Addr → Prop
  | rt {d x} (h : isR d = false) : Door C CR CL CT 0 d x (some CR)
  | lt {d x} (h : lotsD d = none) (hz : siz d ≤ 30000) : Door C CR CL CT 2 d x (some CL)
  | rdOk {d z q} (h : TxG (tl z)) (hp : Pap.pRecipe (tl z) = some q) : Door C CR CL CT 1 d (.str z) none
  | rdNo {d x} (h : ∀ z, x = .str z → TxG (tl z) ∧ Pap.pRecipe (tl z) = none) : Door C CR CL CT 1 d x (some CT)
  | rlOk {d z q} (h : TxG (tl z)) (hp : Pap.pLots (tl z) = some q) : Door C CR CL CT 3 d (.str z) none
  | rlNo {d x} (h : ∀ z, x = .str z → TxG (tl z) ∧ Pap.pLots (tl z) = none) : Door C CR CL CT 3 d x (some CT)
def spCa (C CR CL CT : Addr) : Sp := fun vs H1 Q E => ∃ (H : Hp) (i : Int) (a : Addr) (x : V) (d : D) (o : Option Addr), vs = [.int i, .ref a] ∧ Ex H H1 ∧ H a = some (.lst [x]) ∧ Den C H d x ∧ Door C CR CL CT i d x o ∧
  (o = none → ∀ v H2, Ex H1 H2 → Q v H2) ∧ (∀ CE, o = some CE → Bad CE x H1 E)
theorem ok_called (F : FnT K "_law_called" 41 f fd) (K0 : KpK P w K mg base (L2.CX P w) 3 "recipe_text" "recipe" (spRt C CR)) (K1 : KpK P w K mg base (L2.CX P w) 5 "read_recipe" "text" (spRd C CT)) (K2 : KpK P w K mg base (L2.CX P w) 3 "lots_text" "lots" (spLt C CL))
    (K3 : KpK P w K mg base (L2.CX P w) 3 "read_lots" "text" (spRl C CT)) : FnOk P w K mg base (L2.CX P w) 6 f fd ["_law_door", "_law_g"] (spCa C CR CL CT) := by
  refine F.ok scCa (fun vs H Q E h => ?_) (fun cdv A outer s H1 vs Q E hr h => ?_)
  · obtain ⟨H, i, a, x, d, o, rfl, _⟩ := h
    rfl
  · obtain ⟨H, i, a, x, d, o, rfl, e, ha, hd, hdoor, good, bad⟩ := h
    refine ⟨_, pss_cons (ps_if (pt_cmpR op_lt (pv 0) pe_int (nomark _)) (pss_one (ps_ret (pe_ifExp (pt_cmpR op_eq (pv 0) pe_int (nomark _))
        (pe_kw1S K0 (hr.mono (by decide)) (L2.takes_of rfl rfl rfl rfl) (pe_ix (r := rIxL K) ix_list (pv 1) pe_int (fun _ _ => rfl)))
        (pe_kw1S K1 hr (L2.takes_of rfl rfl rfl rfl) (pe_ix (r := rIxL K) ix_list (pv 1) pe_int (fun _ _ => rfl)))))) pss_nil)
      (pss_one (ps_ret (pe_ifExp (pt_cmpR op_eq (pv 0) pe_int (nomark _))
        (pe_kw1S K2 (hr.mono (by decide)) (L2.takes_of rfl rfl rfl rfl) (pe_ix (r := rIxL K) ix_list (pv 1) pe_int (fun _ _ => rfl)))
        (pe_kw1S K3 (hr.mono (by decide)) (L2.takes_of rfl rfl rfl rfl) (pe_ix (r := rIxL K) ix_list (pv 1) pe_int (fun _ _ => rfl)))))), ?_⟩
    have st0 : L2.start ["_law_door", "_law_g"] [.int i, .ref a] = [some (.int i), some (.ref a)] := rfl
    rw [st0]
    have evl : ∀ b, decide (i < 2) = b → EvT (tTest (tOp (rI0 fun i j => .bl (decide (i < j))) (tVar 0) (tC (.int 2)))) [some (.int i), some (.ref a)] H b := fun b hb => by
      have := et_test (ev_op (σ := [some (.int i), some (.ref a)]) (H := H) (ta := tVar 0) (tb := tC (.int 2)) (ev_var rfl) ev_c (rv_I0 (g := fun i j => .bl (decide (i < j)))))
      rw [hb] at this
      exact this
    have eve : ∀ (j : Int) b, decide (V.int i = V.int j) = b → EvT (tTest (tOp rEq (tVar 0) (tC (.int j)))) [some (.int i), some (.ref a)] H b := fun j b hb => by
      have := et_test (ev_op (σ := [some (.int i), some (.ref a)]) (H := H) (ta := tVar 0) (tb := tC (.int j)) (ev_var rfl) ev_c (rv_eq rfl))
      rw [hb] at this
      exact this
    have arg : ∀ {H2 : Hp} {Q : List V → Hp → Prop}, Ex H H2 → Q [x] H2 → (tCons (tOp (rIxL K) (tVar 1) (tC (.int 0))) tNil) [some (.int i), some (.ref a)] H2 Q := fun {H2 Q} e2 q => ⟨.ref a, rfl, a, [x], 0, x, rfl, rfl, .inl (.inl (e2 _ _ ha)), atI_nat (j := 0) rfl, q⟩
    cases hdoor with
    | rt h =>
      refine d_when (evl true (by decide)) e (fun _ H2 e2 => ?_) (fun z => nomatch z)
      refine eve 0 true (by decide) H2 (e.trans e2) _ fun H3 e3 => iteT (arg ((e.trans e2).trans e3) ⟨H, d, x, rfl, (e.trans e2).trans e3, hd, fun z => (Bool.noConfusion (h.symm.trans z)), fun _ => (bad CR rfl).mono (e2.trans e3)⟩)
    | lt h hz =>
      refine d_when (evl false (by decide)) e (fun z => nomatch z) fun _ H2 e2 => ?_
      refine eve 2 true (by decide) H2 (e.trans e2) _ fun H3 e3 => iteT (arg ((e.trans e2).trans e3) ⟨H, d, x, rfl, (e.trans e2).trans e3, hd, hz, fun rs hrs => (by rw [h] at hrs; cases hrs), fun _ => (bad CL rfl).mono (e2.trans e3)⟩)
    | rdOk h hp =>
      refine d_when (evl true (by decide)) e (fun _ H2 e2 => ?_) (fun z => nomatch z)
      refine eve 0 false (by decide) H2 (e.trans e2) _ fun H3 e3 => iteF (arg ((e.trans e2).trans e3) ⟨H, d, _, rfl, (e.trans e2).trans e3, hd, fun s hs => by injection hs with hs; subst hs; exact h, fun s m rows hs hq v H' H4 s4 _ => good rfl v H4 ((e2.trans e3).trans s4.tot), fun hn => by have := hn _ rfl; rw [hp] at this; cases this⟩)
    | rdNo h =>
      refine d_when (evl true (by decide)) e (fun _ H2 e2 => ?_) (fun z => nomatch z)
      refine eve 0 false (by decide) H2 (e.trans e2) _ fun H3 e3 => iteF (arg ((e.trans e2).trans e3) ⟨H, d, x, rfl, (e.trans e2).trans e3, hd, fun s hs => (h s hs).1, fun s m rows hs hq => (by rw [(h s hs).2] at hq; cases hq), fun hn => (bad CT rfl).mono (e2.trans e3)⟩)
    | rlOk h hp =>
      refine d_when (evl false (by decide)) e (fun z => nomatch z) fun _ H2 e2 => ?_
      refine eve 2 false (by decide) H2 (e.trans e2) _ fun H3 e3 => iteF (arg ((e.trans e2).trans e3) ⟨H, d, _, rfl, (e.trans e2).trans e3, hd, fun s hs => by injection hs with hs; subst hs; exact ⟨h.len, h.run⟩, fun s rs hs hq v H' H4 s4 _ => good rfl v H4 ((e2.trans e3).trans s4.tot), fun hn => by have := hn _ rfl; rw [hp] at this; cases this⟩)
    | rlNo h =>
      refine d_when (evl false (by decide)) e (fun z => nomatch z) fun _ H2 e2 => ?_
      refine eve 2 false (by decide) H2 (e.trans e2) _ fun H3 e3 => iteF (arg ((e.trans e2).trans e3) ⟨H, d, x, rfl, (e.trans e2).trans e3, hd, fun s hs => ⟨(h s hs).1.len, (h s hs).1.run⟩, fun s rs hs hq => (by rw [(h s hs).2] at hq; cases hq), fun hn => (bad CT rfl).mono (e2.trans e3)⟩)
/-! ### _law_told -/
/-- what is known of an error's class at CE: its word -/
structure ErrT (K : PySem.W.Frag) (CS CR CL CT CE : Addr) (j : Nat) : Prop where
  exc : ExcC K CE
  xf : L2.XfC K CE
  no : PySem.W.findIn K (.ref CE) "value" = some none
  cells : PySem.W.exmOne K (.ref CE) (.ref CS) = some true
  r : PySem.W.kitOne K (.ref CE) (.ref CR) = some (decide (j = 0))
  l : PySem.W.kitOne K (.ref CE) (.ref CL) = some (decide (j = 1))
  t : PySem.W.kitOne K (.ref CE) (.ref CT) = some (decide (j = 2))
  ve : PySem.W.kitOne K (.ref CE) (.type "ValueError") = some true
def wordOf : Nat → Str
  | 0 => "recipe"
  | 1 => "lots"
  | _ => "text"
abbrev nTo : List Str := ["_law_door", "_law_given", "_law_caught", "error", "_law_some"]
theorem scTo : FnScope nTo ["_law_door", "_law_given"] (defScope (top 42)) := ⟨rfl, rfl, rfl, by decide +kernel, rfl, by decide +kernel, by decide +kernel⟩
/-- what is told: the error's word and what it holds, or that the door let it pass -/
def toldV (CR CL CT : Addr) (o : Option Addr) (x : V) (j : Nat) : List V := match o with
  | none => [.str ("let" : Str), .non]
  | some _ => [.str (wordOf j), x]
structure TIn where
  i : Int
  a : Addr
  x : V
  d : D
  o : Option Addr
  j : Nat
def preTo (C CR CL CT : Addr) (q : TIn) (vs : List V) (H : Hp) : Prop := vs = [.int q.i, .ref q.a] ∧ H q.a = some (.lst [q.x]) ∧ Den C H q.d q.x ∧ Door C CR CL CT q.i q.d q.x q.o ∧ (q.o = some CR → q.j = 0) ∧ (q.o = some CL → q.j = 1) ∧ (q.o = some CT → q.j = 2)
abbrev spTo (C CR CL CT : Addr) : Sp := spP (preTo C CR CL CT) (fun q v H => ∃ p, v = .ref p ∧ H p = some (.lst (toldV CR CL CT q.o q.x q.j)))
theorem ev_isX {te : TE} {L : Hp} {CE a' : Addr} {x c : V} {cv : Value} {b : Bool} (h : Ev te σ L (.ref a')) (hA : ExAt CE L a' x) (ex : ExcC K CE) (hc : ∀ u, RelV c u → u = cv) (kt : PySem.W.kitOne K (.ref CE) cv = some b) : Ev (tCB (rIsX K) (tCons te (tCons (tC c) tNil))) σ L (.bl b) :=
  ev_cb (ea_cons h (ea_cons ev_c ea_nil)) fun H1 e Q q => ⟨a', CE, x, c, cv, b, rfl, hA.same e, ex, hc, kt, q H1 (Ex.refl _)⟩
theorem ev_xv {te : TE} {L : Hp} {CE a' : Addr} {x : V} (h : Ev te σ L (.ref a')) (hA : ExAt CE L a' x) (xf : L2.XfC K CE) (no : PySem.W.findIn K (.ref CE) "value" = some none) : Ev (tXv K te) σ L x := fun H1 e Q q =>
  h H1 e _ fun H2 e2 => ⟨a', CE, x, rfl, hA.same (e.trans e2), xf, no, q H2 e2⟩
def bls3 (j : Nat) : List V := [.bl (decide (j = 0)), .bl (decide (j = 1)), .bl (decide (j = 2))]
theorem bls3_cnt {j : Nat} (h : j < 3) : (bls3 j).countP (fun z => eqV z (.bl true)) = 1 ∧ (bls3 j)[j]? = some (.bl true) ∧ (bls3 j).all flatV = true ∧ ∀ (m : Nat) (z : V), m < j → (bls3 j)[m]? = some z → eqV z (.bl true) = false := by
  have : j = 0 ∨ j = 1 ∨ j = 2 := by omega
  rcases this with rfl | rfl | rfl
  · exact ⟨rfl, rfl, rfl, fun m z hm => by omega⟩
  · refine ⟨rfl, rfl, rfl, fun m z hm hz => ?_⟩
    have : m = 0 := by omega
    subst this
    cases hz
    rfl
  · refine ⟨rfl, rfl, rfl, fun m z hm hz => ?_⟩
    have : m = 0 ∨ m = 1 := by omega
    rcases this with rfl | rfl <;> (cases hz; rfl)
theorem ok_told (F : FnT K "_law_told" 42 f fd) (KC : Kp P w K mg base (L2.CX P w) 6 "_law_called" ["_law_door", "_law_g"] (spCa C CR CL CT)) (gS : mg "CellsError" = some (.ref CS)) (gR : mg "InvalidRecipe" = some (.ref CR)) (gL : mg "InvalidLots" = some (.ref CL)) (gT : mg "InvalidText" = some (.ref CT))
    (eR : ErrT K CS CR CL CT CR 0) (eL : ErrT K CS CR CL CT CL 1) (eT : ErrT K CS CR CL CT CT 2) (fr : Fr mg) : FnOk P w K mg base CX0 7 f fd ["_law_door", "_law_given"] (spTo C CR CL CT) := by
  refine F.ok scTo (fun vs H Q E h => ?_) (fun cdv A outer s H1 vs Q E hr h => ?_)
  · obtain ⟨q, H, _, ⟨rfl, _⟩, _⟩ := h
    rfl
  · obtain ⟨⟨i, a, x, d, o, j⟩, H, e, ⟨rfl, ha, hd, hdoor, j0, j1, j2⟩, q⟩ := h
    have isx : ∀ {X : Cx} {e1 : Expr} {te : TE} {p p2 pos : Pos}, True := trivial
    refine ⟨_, PSs.nox (pss_cons (ps_set (i := 2) scTo.nd rfl (.inl rfl) pe_non)
      (pss_cons (ps_try_keep (i := 3) (c := .ref CS) rfl rfl rfl scTo.nd rfl rfl ⟨rfl, by decide, .inl gS⟩
        (fun W pn xe tk _ => pss_one (ps_expr (pe_clS KC hr tk (pa_cons (pv 0) (pa_cons (pv 1) pa_nil)))))
        (fun a oe pn => pss_one (ps_set (i := 2) scTo.nd rfl (.inl rfl) (pv 3))))
      (pss_cons (ps_if (pt_cmpR op_isN (pv 2) pe_non (nomark _)) (pss_one (ps_ret (pe_lst (pa_cons pe_str (pa_cons pe_non pa_nil))))) pss_nil)
      (pss_cons (ps_set (i := 4) scTo.nd rfl (.inl rfl) (pe_lst (pa_cons (pe_callB call_isX rfl fr.is_ bt_is (pa_cons (pv 2) (pa_cons (pe_glob (v := .ref CR) rfl gR rfl) pa_nil))) (pa_cons (pe_callB call_isX rfl fr.is_ bt_is (pa_cons (pv 2) (pa_cons (pe_glob (v := .ref CL) rfl gL rfl) pa_nil)))
          (pa_cons (pe_callB call_isX rfl fr.is_ bt_is (pa_cons (pv 2) (pa_cons (pe_glob (v := .ref CT) rfl gT rfl) pa_nil))) pa_nil)))))
      (pss_cons (ps_if (PW.pt (pw_or (pt_cmpR op_ne (pe_bm PySem.F.plainAttrs_list PySem.F.slot_list_count PySem.F.type_list_count mt_fcount (pv 4) (pa_cons pe_bl pa_nil)) pe_int (nomark _))
          (pw_or1 (pt_not (pt_val (pe_callB call_isX rfl fr.is_ bt_is (pa_cons (pv 2) (pa_cons (pe_bltn (v := .ty "ValueError") rfl fr.ve_ bt_ve rfl) pa_nil)))))))) pss_never pss_nil)
      (pss_one (ps_ret (pe_lst (pa_cons (pe_ix (r := rIxL K) ix_list (pe_lst (pa_cons pe_str (pa_cons pe_str (pa_cons pe_str pa_nil)))) (pe_bm PySem.F.plainAttrs_list PySem.F.slot_list_index PySem.F.type_list_index mt_index (pv 4) (pa_cons pe_bl pa_nil)) (fun _ _ => rfl))
        (pa_cons (pe_xv (pv 2)) pa_nil)))))))))), ?_⟩
    have ha : H a = some (.lst [x]) := ha
    have hd : Den C H d x := hd
    have hdoor : Door C CR CL CT i d x o := hdoor
    have qf : ∀ v H' H2, Step H H1 H' H2 → (∃ p, v = V.ref p ∧ H' p = some (.lst (toldV CR CL CT o x j))) → Q v H2 := q
    refine d_set (Pq := Eqv .non) (ep_of ev_c) e fun v Ha H2 s2 hv => ?_
    cases (show v = .non from hv)
    have e2 : Ex H H2 := s2.loc.trans s2.inn
    have evN : ∀ {L : Hp} {v : V} {b : Bool}, decide (v = V.non) = b → EvT (tTest (tOp (fun x y H Q => y = .non ∧ Q (.bl (decide (x = .non))) H) (tVar 2) (tC .non))) [some (.int i), some (.ref a), some v, none, none] L b := fun {L v b} hb => by
      refine et_test (fun H5 e5 Q q' => ⟨v, rfl, rfl, ?_⟩)
      rw [hb]
      exact q' H5 (Ex.refl _)
    have main : ∀ CE jj, ErrT K CS CR CL CT CE jj → jj < 3 → toldV CR CL CT o x j = [.str (wordOf jj), x] → ∀ dd H3 a', Ex H2 H3 → H2 dd = none → H3 dd = some (.xd (valueV x)) → H3 a' = none →
        (tSeq (tIfS (tTest (tOp (fun x y H Q => y = .non ∧ Q (.bl (decide (x = .non))) H) (tVar 2) (tC .non))) (tRet (tLst (tCons (tC (.str ("let" : Str))) (tCons (tC .non) tNil)))) tNext)
          (tSeq (tAsg (tLst (tCons (tCB (rIsX K) (tCons (tVar 2) (tCons (tC (.ref CR)) tNil))) (tCons (tCB (rIsX K) (tCons (tVar 2) (tCons (tC (.ref CL)) tNil))) (tCons (tCB (rIsX K) (tCons (tVar 2) (tCons (tC (.ref CT)) tNil))) tNil)))) (gName 4))
          (tSeq (tIfS (tOr (tTest (tOp rNe (tBM K "list" (rFcnt K) (tVar 4) (tCons (tC (.bl true)) tNil)) (tC (.int 1)))) (tNot (tB (tCB (rIsX K) (tCons (tVar 2) (tCons (tC (.ty "ValueError")) tNil)))))) tNever tNext)
          (tRet (tLst (tCons (tOp (rIxL K) (tLst (tCons (tC (.str ("recipe" : Str))) (tCons (tC (.str ("lots" : Str))) (tCons (tC (.str ("text" : Str))) tNil)))) (tBM K "list" (rIndex K) (tVar 4) (tCons (tC (.bl true)) tNil))) (tCons (tXv K (tVar 2)) tNil)))))))
          { nx := fun _ H' => Q .non H', rt := Q } [some (.int i), some (.ref a), some (.ref a'), none, none] (upd H3 a' (ExV (.ref CE) (some dd) a')) := by
      intro CE jj er hjj htv dd H3 a' e23 ndd hdd na'
      have st1 : Step H H2 (upd H dd (.xd (valueV x))) H3 := Step.new' e2 ndd e23 hdd
      have st2 := st1.trans (Step.new (o := ExV (.ref CE) (some dd) a') st1.inn na')
      have nda : dd ≠ a' := fun z => by rw [z, na'] at hdd; cases hdd
      have hA : ExAt CE (upd (upd H dd (.xd (valueV x))) a' (ExV (.ref CE) (some dd) a')) a' x := ⟨dd, upd_same, by rw [upd_ne nda, upd_same]⟩
      obtain ⟨c1, c2, c3, c4⟩ := bls3_cnt hjj
      have own : ∀ {D : Addr} (u : Value), RelV (.ref D) u → u = .ref D := fun u h => h
      refine d_when (evN (decide_eq_false fun z => nomatch z)) st2.inn (fun z => nomatch z) fun _ H4 e4 => ?_
      have st3 := st2.trans (Step.ex st2.inn e4)
      have evl : EvL (tLst (tCons (tCB (rIsX K) (tCons (tVar 2) (tCons (tC (.ref CR)) tNil))) (tCons (tCB (rIsX K) (tCons (tVar 2) (tCons (tC (.ref CL)) tNil))) (tCons (tCB (rIsX K) (tCons (tVar 2) (tCons (tC (.ref CT)) tNil))) tNil)))) [some (.int i), some (.ref a), some (.ref a'), none, none] (upd (upd H dd (.xd (valueV x))) a' (ExV (.ref CE) (some dd) a')) (bls3 jj) :=
        el_lst (ea_cons (ev_isX (ev_var rfl) hA er.exc own er.r) (ea_cons (ev_isX (ev_var rfl) hA er.exc own er.l) (ea_cons (ev_isX (ev_var rfl) hA er.exc own er.t) ea_nil))) (by show 3 ≤ 100000; decide)
      refine d_set (ep_ofL evl) st3.inn fun v Hb H5 s5 hv => ?_
      obtain ⟨pb, rfl, _, hpb⟩ := hv
      have st4 := st3.trans s5
      have hA5 := hA.same s5.loc
      have ty5 : ∀ {H6 : Hp}, Ex Hb H6 → tyV K "list" (.ref pb) H6 := fun e6 => .inl ⟨rfl, _, .inl (.inl (e6 _ _ hpb))⟩
      have ev1 : Ev (tOp rNe (tBM K "list" (rFcnt K) (tVar 4) (tCons (tC (.bl true)) tNil)) (tC (.int 1))) [some (.int i), some (.ref a), some (.ref a'), none, some (.ref pb)] Hb (.bl false) := fun H6 e6 Q' q' =>
        ⟨.ref pb, rfl, ty5 e6, pb, bls3 jj, .bl true, rfl, rfl, .inl (.inl (e6 _ _ hpb)), rfl, c3, rfl, by rw [c1]; exact q' H6 (Ex.refl _)⟩
      have ev2 : Ev (tCB (rIsX K) (tCons (tVar 2) (tCons (tC (.ty "ValueError")) tNil))) [some (.int i), some (.ref a), some (.ref a'), none, some (.ref pb)] Hb (.bl true) := ev_isX (ev_var rfl) hA5 er.exc (fun u h => h) er.ve
      refine d_when (b := false) (et_is (et_or (et_test ev1) fun _ => et_not (et_B ev2)) rfl) s5.inn (fun z => nomatch z) fun _ H6 e6 => ?_
      have st5 := st4.trans (Step.ex s5.inn e6)
      have ev3 : ∀ {L : Hp}, Ex Hb L → Ev (tBM K "list" (rIndex K) (tVar 4) (tCons (tC (.bl true)) tNil)) [some (.int i), some (.ref a), some (.ref a'), none, some (.ref pb)] L (.int (jj : Nat)) := fun {L} eL H7 e7 Q' q' =>
        ⟨.ref pb, rfl, ty5 (eL.trans e7), pb, bls3 jj, .bl true, jj, .bl true, rfl, rfl, .inl (.inl ((eL.trans e7) _ _ hpb)), rfl, c3, c2, rfl, c4, q' H7 (Ex.refl _)⟩
      have ev4 : Ev (tOp (rIxL K) (tLst (tCons (tC (.str ("recipe" : Str))) (tCons (tC (.str ("lots" : Str))) (tCons (tC (.str ("text" : Str))) tNil)))) (tBM K "list" (rIndex K) (tVar 4) (tCons (tC (.bl true)) tNil))) [some (.int i), some (.ref a), some (.ref a'), none, some (.ref pb)] Hb (.str (wordOf jj)) :=
        ev_opL1 (xs := [.str ("recipe" : Str), .str ("lots" : Str), .str ("text" : Str)]) (el_lst (ea_cons ev_c (ea_cons ev_c (ea_cons ev_c ea_nil))) (by show 3 ≤ 100000; decide)) (fun H7 e7 => ev3 e7) fun p H7 hp e7 => rv_ixL (sq_of hp) (atI_nat (by
          have : jj = 0 ∨ jj = 1 ∨ jj = 2 := by omega
          rcases this with rfl | rfl | rfl <;> rfl))
      refine d_ret (Pq := NewL Hb [.str (wordOf jj), x]) (ep_ofL (el_lst (ea_cons ev4 (ea_cons (ev_xv (ev_var rfl) hA5 er.xf er.no) ea_nil)) (by show 2 ≤ 100000; decide))) (s5.inn.trans e6) fun v H' H7 s7 hv => ?_
      obtain ⟨p, rfl, _, hp⟩ := hv
      exact qf _ H' H7 ((Step.ex e s2.tot).trans (st5.trans s7)) ⟨p, rfl, by rw [htv]; exact hp⟩
    -- the door
    refine ⟨.int i, rfl, .ref a, rfl, H, i, a, x, d, o, rfl, e2, ha, hd, hdoor, fun ho v H3 e3 => ?_, fun CE ho dd H3 e3 ndd hdd => ?_⟩
    · refine d_when (H := H) (evN (decide_eq_true rfl)) (e2.trans e3) (fun _ H4 e4 => ?_) (fun z => nomatch z)
      refine d_ret (Pq := NewL H [.str ("let" : Str), .non]) (ep_ofL (el_lst (ea_cons ev_c (ea_cons ev_c ea_nil)) (by show 2 ≤ 100000; decide))) ((e2.trans e3).trans e4) fun v H' H5 s5 hv => ?_
      obtain ⟨p, rfl, _, hp⟩ := hv
      exact qf _ H' H5 ((Step.ex e ((s2.tot.trans e3).trans e4)).trans s5) ⟨p, rfl, by rw [ho]; exact hp⟩
    · have hw : ∃ jj, ErrT K CS CR CL CT CE jj ∧ jj < 3 ∧ j = jj := by
        have j0 : o = some CR → j = 0 := j0
        have j1 : o = some CL → j = 1 := j1
        have j2 : o = some CT → j = 2 := j2
        cases hdoor with
        | rt h => injection ho with ho; subst ho; exact ⟨0, eR, by decide, j0 rfl⟩
        | lt h hz => injection ho with ho; subst ho; exact ⟨1, eL, by decide, j1 rfl⟩
        | rdOk h hp => cases ho
        | rdNo h => injection ho with ho; subst ho; exact ⟨2, eT, by decide, j2 rfl⟩
        | rlOk h hp => cases ho
        | rlNo h => injection ho with ho; subst ho; exact ⟨2, eT, by decide, j2 rfl⟩
      obtain ⟨jj, er, hjj, hj⟩ := hw
      refine ⟨er.cells, fun a' na' => ⟨.ref a', rfl, fun na2 => ?_⟩⟩
      exact main CE jj er hjj (by rw [ho, hj]; rfl) dd H3 a' e3 ndd hdd na'
end
end G

/-! _law_is_told_thing, _law_is_told. -/
namespace G
open PySem PySem.Spec PyProof.Rows L2 Evl Tp RZ TL L2X
open PySem.ExX (ExT PrOk)
theorem step_back {H H1 L2' T2 : Hp} {a : Addr} {o0 o1 : HO} (h : H a = some o0) (e : Ex H H1) (s : Step (upd H a o1) (upd H1 a o1) L2' T2) : Step H H1 (upd L2' a o0) (upd T2 a o0) := by
  refine ⟨fun b o h' => ?_, fun b o h' => ?_, fun b o h' => ?_, fun b hb => ?_⟩
  · by_cases ha : b = a
    · subst ha; rw [upd_same, ← h, h']
    · rw [upd_ne ha]; exact s.loc b o (by rw [upd_ne ha]; exact h')
  · by_cases ha : b = a
    · subst ha; rw [upd_same, ← e _ _ h, h']
    · rw [upd_ne ha]; exact s.tot b o (by rw [upd_ne ha]; exact h')
  · by_cases ha : b = a
    · subst ha; rw [upd_same] at h' ⊢; exact h'
    · rw [upd_ne ha] at h' ⊢; exact s.inn b o h'
  · by_cases ha : b = a
    · subst ha; exact .inl (by rw [h]; exact fun z => nomatch z)
    · rw [upd_ne ha] at hb
      rcases s.fre b hb with z | z
      · rw [upd_ne ha] at z; exact .inl z
      · rw [upd_ne ha] at z; exact .inr z
theorem ex_upd {H H1 : Hp} {a : Addr} {o : HO} (e : Ex H H1) : Ex (upd H a o) (upd H1 a o) := fun b o' h => by
  by_cases ha : b = a
  · subst ha; rw [upd_same] at h ⊢; exact h
  · rw [upd_ne ha] at h ⊢; exact e b o' h
abbrev kODD : Key := Sum.inr ("ODD" : Str)
/-- what the law may hand over and change meanwhile -/
structure OddD (C : Addr) (H : Hp) (d : D) (x : V) : Prop where
  den : Den C H d x
  ok : okD d
  dp : dep d ≤ 4
  sz : siz d ≤ 20000
  lst : ∀ t, d = .seq false t → ∃ a xs, x = .ref a ∧ H a = some (.lst xs) ∧ DenL C H t xs
  key : ∀ ks t, d = .dic ks t → kODD ∉ ks
theorem OddD.mono {C : Addr} {H H' : Hp} {d : D} {x : V} (e : Ex H H') (h : OddD C H d x) : OddD C H' d x :=
  ⟨Den.mono e _ _ h.den, h.ok, h.dp, h.sz, fun t ht => by
    obtain ⟨a, xs, h1, h2, h3⟩ := h.lst t ht
    exact ⟨a, xs, h1, e _ _ h2, DenL.mono e _ _ h3⟩, h.key⟩
theorem depL_app : ∀ (t : List D) (d : D), depL (t ++ [d]) = max (depL t) (dep d) ∧ sizL (t ++ [d]) = sizL t + siz d
  | [], d => by
    refine ⟨?_, ?_⟩
    · show max (dep d) 0 = max 0 (dep d)
      omega
    · show siz d + 0 = 0 + siz d
      omega
  | d' :: t, d => by
    obtain ⟨h1, h2⟩ := depL_app t d
    refine ⟨?_, ?_⟩
    · show max (dep d') (depL (t ++ [d])) = max (max (dep d') (depL t)) (dep d)
      rw [h1]
      omega
    · show siz d' + sizL (t ++ [d]) = siz d' + sizL t + siz d
      rw [h2]
      omega
theorem okDL_app : ∀ (t : List D) (v : V), okDL t → okDL (t ++ [.flat v])
  | [], v, _ => ⟨trivial, trivial⟩
  | d :: t, v, ⟨h1, h2⟩ => ⟨h1, okDL_app t v h2⟩
theorem denL_app {C : Addr} {H : Hp} : ∀ (t : List D) (xs : List V) (v : V), DenL C H t xs → flatV v = true → DenL C H (t ++ [.flat v]) (xs ++ [v])
  | [], xs, v, h, hv => by cases (show xs = [] from h); exact ⟨v, [], rfl, ⟨rfl, hv⟩, rfl⟩
  | d :: t, xs, v, ⟨y, r, h1, h2, h3⟩, hv => by
    subst h1
    exact ⟨y, r ++ [v], rfl, h2, denL_app t r v h3 hv⟩
section
variable {P : Program} {w : World} {K : PySem.W.Frag} {mg : Str → Option Value} {base : Heap} {f C CL CT CR : Addr} {fd : FuncData} {H : Hp} {σ : L2.St}
abbrev nTt : List Str := ["_law_told_here", "_law_odd", "_law_same_here"]
theorem scTt : FnScope nTt ["_law_told_here", "_law_odd"] (defScope (top 36)) := ⟨rfl, rfl, rfl, by decide +kernel, rfl, by decide +kernel, by decide +kernel⟩
def preTt (C : Addr) (d : D) (vs : List V) (H : Hp) : Prop := ∃ x, vs = [x, x] ∧ OddD C H d x
abbrev spTt (C : Addr) : Sp := spP (preTt C) postT
theorem ok_told_thing (F : FnT K "_law_is_told_thing" 36 f fd) (KE : Kp P w K mg base CX0 8 "_law_exact" ["_law_mine", "_law_theirs"] (spEx C 6)) (fr : Fr mg) (rc : RcT K mg C) : FnOk P w K mg base CX0 9 f fd ["_law_told_here", "_law_odd"] (spTt C) := by
  refine okP F scTt (fun d vs H h => ?_) (fun cdv A outer s H1 vs E d H hr h => ?_)
  · obtain ⟨x, rfl, _⟩ := h
    rfl
  · obtain ⟨x, rfl, ho⟩ := h
    refine ⟨_, PSs.nox (pss_cons (ps_if (pt_val (pe_isi fr.is_ fr.list_ bt_list (pv 1)))
        (pss_cons (ps_expr (pe_bm PySem.F.plainAttrs_list PySem.F.slot_list_append PySem.F.type_list_append mt_append (pv 1) (pa_cons pe_str pa_nil)))
        (pss_cons (ps_set (i := 2) scTt.nd rfl (.inl rfl) (pe_cl KE hr (pa_cons (pv 0) (pa_cons (pv 1) pa_nil))))
        (pss_cons (ps_expr (pe_bm0 PySem.F.plainAttrs_list PySem.F.slot_list_pop PySem.F.type_list_pop mt_pop (pv 1)))
        (pss_one (ps_ret (pv 2)))))) pss_nil)
      (pss_cons (ps_if (pt_val (pe_isi fr.is_ fr.dict_ bt_dict (pv 1)))
        (pss_cons (ps_dput (hu_of hr) (pv 1) pe_str pe_non rfl)
        (pss_cons (ps_set (i := 2) scTt.nd rfl (.inl rfl) (pe_cl KE hr (pa_cons (pv 0) (pa_cons (pv 1) pa_nil))))
        (pss_cons (ps_expr (pe_dpop1 (pv 1) pe_str ⟨rfl, rfl, rfl, rfl⟩))
        (pss_one (ps_ret (pv 2)))))) pss_nil)
      (pss_one (ps_ret pe_bl)))), ?_⟩
    have evL := et_B (ev_isD (σ := L2.start nTt [x, x]) (te := tVar 1) rc ho.den (ev_var rfl) (U := "list") (by decide))
    have evD := et_B (ev_isD (σ := L2.start nTt [x, x]) (te := tVar 1) rc ho.den (ev_var rfl) (U := "dict") (by decide))
    by_cases hl : ∃ t, d = .seq false t
    · obtain ⟨t, rfl⟩ := hl
      obtain ⟨a, xs, rfl, ha, hd⟩ := ho.lst t rfl
      have hlen := DenL.len _ _ hd
      have hl2 := sizL_len t
      have hsz : sizL t + 1 ≤ 20000 := ho.sz
      have hdp : depL t + 1 ≤ 4 := ho.dp
      refine sv_when evL (fun _ => ?_) (fun z => nomatch z)
      intro H1 e D dn dr
      have h1 := e _ _ ha
      refine ⟨.ref a, rfl, .inl ⟨rfl, xs, .inl (.inl h1)⟩, a, xs, .str ("ODD" : Str), rfl, rfl, h1, by rw [sizeLine_eq]; omega, ?_⟩
      have hd2 : Den C (upd H a (.lst (xs ++ [.str ("ODD" : Str)]))) (.seq false (t ++ [.flat (.str ("ODD" : Str))])) (.ref a) :=
        ⟨a, _, rfl, .inl upd_same, denL_app _ _ _ (DenL.keep ho.den t xs hd (by show sizL t < sizL t + 1; omega)) rfl⟩
      obtain ⟨k1, k2⟩ := depL_app t (.flat (.str ("ODD" : Str)))
      have k1' : depL (t ++ [.flat (.str ("ODD" : Str))]) = max (depL t) 0 := k1
      have k2' : sizL (t ++ [.flat (.str ("ODD" : Str))]) = sizL t + 1 := k2
      refine d_set (H := upd H a (.lst (xs ++ [.str ("ODD" : Str)]))) (Pq := Eqv (.bl true)) (ep_callA (ea_cons (ev_var rfl) (ea_cons (ev_var rfl) ea_nil)) (gv_spP (.seq false (t ++ [.flat (.str ("ODD" : Str))])) ⟨_, _, rfl, hd2, hd2, by show depL _ + 1 ≤ 6; omega, (by exact okDL_app t _ ho.ok), by show sizL _ + 1 ≤ 30000; omega⟩ fun v H4 e4 hp => hp)) (ex_upd e) fun v L2' T2 s2 hv => ?_
      cases (show v = .bl true from hv)
      have h2 : T2 a = some (.lst (xs ++ [.str ("ODD" : Str)])) := s2.tot _ _ upd_same
      refine ⟨.ref a, rfl, .inl ⟨rfl, _, .inl (.inl h2)⟩, a, _, .str ("ODD" : Str), rfl, rfl, h2, by simp, ?_⟩
      rw [List.dropLast_concat]
      exact ⟨.bl true, rfl, dr (.bl true) _ _ (step_back ha e s2) rfl⟩
    · have hB : isIB d "list" = false := by
        cases d with
        | flat v =>
          obtain ⟨rfl, hf⟩ := ho.den
          cases x <;> first | (cases hf; done) | rfl
        | rcp a old t => rfl
        | seq tp t => cases tp with | false => exact absurd ⟨t, rfl⟩ hl | true => rfl
        | dic ks t => rfl
      rw [hB] at evL
      refine sv_when evL (fun z => nomatch z) fun _ => ?_
      by_cases hdk : ∃ ks t, d = .dic ks t
      · obtain ⟨ks, t, rfl⟩ := hdk
        obtain ⟨a, ys, rfl, ha, hkl, hnd, hd⟩ := ho.den
        have hno := ho.key ks t rfl
        have hlen := DenL.len _ _ hd
        have hl2 := sizL_len t
        have hsz : sizL t + 1 ≤ 20000 := ho.sz
        have hdp : depL t + 2 ≤ 4 := ho.dp
        have hzk := zip_keys ks ys hkl
        have hno' : kODD ∉ (ks.zip ys).map (·.1) := by rw [hzk]; exact hno
        have hzl : (ks.zip ys).length = ks.length := by rw [List.length_zip]; omega
        refine sv_when evD (fun _ => ?_) (fun z => nomatch z)
        intro H1 e D dn dr
        have h1 := e _ _ ha
        have hcat : (ks ++ [kODD]).zip (ys ++ [V.non]) = ks.zip ys ++ [(kODD, V.non)] := by rw [List.zip_append hkl]; rfl
        refine ⟨.ref a, rfl, a, _, rfl, DPut.k (k := kODD) h1 (by rw [sizeLine_eq, hzl]; omega), ?_⟩
        rw [putK_new hno', ← hcat]
        have hnd2 : (ks ++ [kODD]).Nodup := by
          rw [List.nodup_append]
          exact ⟨hnd, by simp, fun k hk k' hk' => by rw [List.mem_singleton] at hk'; subst hk'; exact fun z => hno (z ▸ hk)⟩
        have hd2 : Den C (upd H a (.dK ((ks ++ [kODD]).zip (ys ++ [V.non])))) (.dic (ks ++ [kODD]) (t ++ [.flat .non])) (.ref a) :=
          ⟨a, _, rfl, upd_same, by simp [hkl], hnd2, denL_app _ _ _ (DenL.keep ho.den t ys hd (by show sizL t < sizL t + 1; omega)) rfl⟩
        obtain ⟨k1, k2⟩ := depL_app t (.flat .non)
        have k1' : depL (t ++ [.flat .non]) = max (depL t) 0 := k1
        have k2' : sizL (t ++ [.flat .non]) = sizL t + 1 := k2
        refine d_set (H := upd H a (.dK ((ks ++ [kODD]).zip (ys ++ [V.non])))) (Pq := Eqv (.bl true)) (ep_callA (ea_cons (ev_var rfl) (ea_cons (ev_var rfl) ea_nil)) (gv_spP (.dic (ks ++ [kODD]) (t ++ [.flat .non])) ⟨_, _, rfl, hd2, hd2, by show depL _ + 2 ≤ 6; omega, (by exact okDL_app t _ ho.ok), by show sizL _ + 1 ≤ 30000; omega⟩ fun v H4 e4 hp => hp)) (ex_upd e) fun v L2' T2 s2 hv => ?_
        cases (show v = .bl true from hv)
        have h2 : T2 a = some (.dK ((ks ++ [kODD]).zip (ys ++ [V.non]))) := s2.tot _ _ upd_same
        have hval : valV ((ks ++ [kODD]).zip (ys ++ [V.non])) kODD = some V.non := valV_zip _ _ (by simp [hkl]) hnd2 ks.length kODD V.non (by simp) (by rw [hkl]; simp)
        refine ⟨.ref a, rfl, a, rfl, .inl ⟨_, .inl h2⟩, _, kODD, .non, h2, rfl, hval, ?_⟩
        have hdrop : dropK ((ks ++ [kODD]).zip (ys ++ [V.non])) kODD = ks.zip ys := by
          rw [hcat]
          unfold dropK
          rw [List.filter_append]
          have e1 : (ks.zip ys).filter (fun kv => decide (kv.1 ≠ kODD)) = ks.zip ys := List.filter_eq_self.mpr fun p hp => decide_eq_true fun z => hno' (z ▸ List.mem_map_of_mem hp)
          rw [e1]
          simp
        rw [hdrop]
        exact ⟨.bl true, rfl, dr (.bl true) _ _ (step_back ha e s2) rfl⟩
      · have hB2 : isIB d "dict" = false := by
          cases d with
          | flat v =>
            obtain ⟨rfl, hf⟩ := ho.den
            cases x <;> first | (cases hf; done) | rfl
          | rcp a old t => rfl
          | seq tp t => cases tp <;> rfl
          | dic ks t => exact absurd ⟨ks, t, rfl⟩ hdk
        rw [hB2] at evD
        exact sv_when evD (fun z => nomatch z) fun _ => sv_ret (ep_ofP ev_c rfl)
/-! ### _law_is_told -/
abbrev nIt : List Str := ["_law_door", "_law_given", "_law_word", "_law_odd", "_law_noted", "_law_told_here"]
theorem scIt : FnScope nIt ["_law_door", "_law_given", "_law_word", "_law_odd"] (defScope (top 38)) := ⟨rfl, rfl, rfl, by decide +kernel, rfl, by decide +kernel, by decide +kernel⟩
def preIt (C CR CL CT : Addr) (q : TIn) (vs : List V) (H : Hp) : Prop := vs = [.int q.i, .ref q.a, .str (wordOf q.j), q.x] ∧ H q.a = some (.lst [q.x]) ∧ OddD C H q.d q.x ∧ Door C CR CL CT q.i q.d q.x q.o ∧ q.o ≠ none ∧ (q.o = some CR → q.j = 0) ∧ (q.o = some CL → q.j = 1) ∧ (q.o = some CT → q.j = 2)
abbrev spIt (C CR CL CT : Addr) : Sp := spP (preIt C CR CL CT) (fun _ v _ => v = .bl true)
theorem ok_is_told (F : FnT K "_law_is_told" 38 f fd) (KS : Kp P w K mg base CX0 7 "_law_same" ["_law_thing"] (spSm C 6)) (KT : Kp P w K mg base CX0 7 "_law_told" ["_law_door", "_law_given"] (spTo C CR CL CT)) (KE : Kp P w K mg base CX0 8 "_law_exact" ["_law_mine", "_law_theirs"] (spEx C 6))
    (KH : Kp P w K mg base CX0 9 "_law_is_told_thing" ["_law_told_here", "_law_odd"] (spTt C)) : FnOk P w K mg base CX0 10 f fd ["_law_door", "_law_given", "_law_word", "_law_odd"] (spIt C CR CL CT) := by
  refine okP F scIt (fun d vs H h => ?_) (fun cdv A outer s H1 vs E q H hr h => ?_)
  · obtain ⟨rfl, _⟩ := h
    rfl
  · obtain ⟨i, a, x, d, o, j⟩ := q
    obtain ⟨rfl, ha, hodd, hdoor, hne, j0, j1, j2⟩ := h
    have ha : H a = some (.lst [x]) := ha
    have hodd : OddD C H d x := hodd
    have hdoor : Door C CR CL CT i d x o := hdoor
    have hne : o ≠ none := hne
    show ∃ t, PSs _ (defBody (top 38)) t ∧ Sv t (L2.start nIt [.int i, .ref a, .str (wordOf j), x]) H _ (fun v _ => v = .bl true)
    refine ⟨_, PSs.nox (pss_cons (ps_set (i := 4) scIt.nd rfl (.inl rfl) (pe_cl KS (hr.mono (by decide)) (pa_cons (pv 1) pa_nil)))
      (pss_cons (ps_set (i := 5) scIt.nd rfl (.inl rfl) (pe_cl KT (hr.mono (by decide)) (pa_cons (pv 0) (pa_cons (pv 1) pa_nil))))
      (pss_one (ps_ret (pe_and (pe_cl KE (hr.mono (by decide)) (pa_cons (pv 5) (pa_cons (pe_lst (pa_cons (pv 2) (pa_cons (pv 3) pa_nil))) pa_nil)))
        (pe_and (pe_cl KE (hr.mono (by decide)) (pa_cons (pv 1) (pa_cons (pv 4) pa_nil))) (pe_one (pe_cl KH hr (pa_cons (pe_ix (r := rIxL K) ix_list (pv 5) pe_int (fun _ _ => rfl)) (pa_cons (pv 3) pa_nil)))))))))), ?_⟩
    have hd := hodd.den
    have hdp := hodd.dp
    have hsz := hodd.sz
    have hg : Den C H (.seq false [d]) (.ref a) := ⟨a, [x], rfl, .inl ha, x, [], rfl, hd, rfl⟩
    have hgd : dep (.seq false [d]) ≤ 6 := by show max (dep d) 0 + 1 ≤ 6; omega
    have hgs : siz (.seq false [d]) ≤ 30000 := by show siz d + 0 + 1 ≤ 30000; omega
    refine sv_set (ep_callA (ea_cons (ev_var rfl) ea_nil) (gv_spP (.seq false [d]) ⟨_, rfl, hg, hgd, hgs⟩ fun v H' e hv => hv)) fun nt Ha ea hnt => ?_
    have hnt : Den C Ha (.seq false [d]) nt := hnt
    refine sv_set (ep_callA (ea_cons (ev_var rfl) (ea_cons (ev_var rfl) ea_nil)) (gv_spP ⟨i, a, x, d, o, j⟩ ⟨rfl, ea _ _ ha, Den.mono ea _ _ hd, hdoor, j0, j1, j2⟩ fun v H' e hv => hv)) fun tv Hb eb htv => ?_
    obtain ⟨p, rfl, hp⟩ := htv
    have hp : Hb p = some (.lst [.str (wordOf j), x]) := by
      cases o with
      | none => exact absurd rfl hne
      | some CE => exact hp
    have eab := ea.trans eb
    have hdw : ∀ {q : Addr} {L : Hp}, Ex Hb L → L q = some (.lst [.str (wordOf j), x]) → Den C L (.seq false [.flat (.str (wordOf j)), d]) (.ref q) := fun {q L} eL hq => ⟨q, _, rfl, .inl hq, _, _, rfl, ⟨rfl, rfl⟩, _, _, rfl, Den.mono (eab.trans eL) _ _ hd, rfl⟩
    have ok2 : okD (.seq false [.flat (.str (wordOf j)), d]) := ⟨trivial, hodd.ok, trivial⟩
    have d2 : dep (.seq false [.flat (.str (wordOf j)), d]) ≤ 6 := by show max 0 (max (dep d) 0) + 1 ≤ 6; omega
    have s2 : siz (.seq false [.flat (.str (wordOf j)), d]) ≤ 30000 := by show 1 + (siz d + 0) + 1 ≤ 30000; omega
    refine sv_ret (ep_ofP (ev_andT (EvP.ev (ep_call2 (P1 := Eqv (.ref p)) (P2 := fun x' y L => x' = .ref p ∧ Ex Hb L ∧ ∃ q, y = .ref q ∧ L q = some (.lst [.str (wordOf j), x])) (ep_of (ev_var rfl)) (fun y L eL hy => ?_) fun x' y L eL ⟨hx', e2, q, hy, hq⟩ => ?_)) (ev_andT (EvP.ev ?_) (EvP.ev ?_))) rfl)
    · refine Gv.imp (ep_ofL (el_lst (ea_cons (ev_var rfl) (ea_cons (ev_var rfl) ea_nil)) (by show 2 ≤ 100000; decide))) fun v L2' e2 ⟨q, h1, _, h3⟩ => ⟨hy, eL.trans e2, q, h1, h3⟩
    · subst hx' hy
      exact gv_spP _ ⟨_, _, rfl, hdw e2 (e2 _ _ hp), hdw e2 hq, d2, ok2, s2⟩ fun v H4 e4 hv => hv
    · exact ep_callA (ea_cons (ev_var rfl) (ea_cons (ev_var rfl) ea_nil)) (gv_spP (.seq false [d]) ⟨_, _, rfl, Den.mono eab _ _ hg, Den.mono eb _ _ hnt, hgd, ⟨hodd.ok, trivial⟩, hgs⟩ fun v H4 e4 hv => hv)
    · exact ep_callA (ea_cons (ev_op (ev_var rfl) ev_c (rv_ixL (i := 1) (sq_of hp) (atI_nat (j := 1) rfl))) (ea_cons (ev_var rfl) ea_nil)) (gv_spP d ⟨x, rfl, hodd.mono eab⟩ fun v H4 e4 hv => hv)
end
end G

/-! _law_odd_recipes, _law_refused_right. -/
namespace G
open PySem PySem.Spec PyProof.Rows L2 Evl Tp RZ TL L2X
open PySem.ExX (ExT PrOk)
/-! ### written data -/
/-- v is the tree d; a list of it can be written -/
def Tr (C : Addr) (d : D) (v : V) (H : Hp) : Prop := Den C H d v ∧ ∀ t, d = .seq false t → ∃ a xs, v = .ref a ∧ H a = some (.lst xs) ∧ DenL C H t xs
theorem Tr.mono {C : Addr} {H H' : Hp} {d : D} {v : V} (e : Ex H H') (h : Tr C d v H) : Tr C d v H' := ⟨Den.mono e _ _ h.1, fun t ht => by
  obtain ⟨a, xs, h1, h2, h3⟩ := h.2 t ht
  exact ⟨a, xs, h1, e _ _ h2, DenL.mono e _ _ h3⟩⟩
def TrL (C : Addr) (ds : List D) (vs : List V) (H : Hp) : Prop := vs.length = ds.length ∧ ∀ (i : Nat) (d : D) (v : V), ds[i]? = some d → vs[i]? = some v → Tr C d v H
theorem TrL.den {C : Addr} {H : Hp} {ds : List D} {vs : List V} (h : TrL C ds vs H) : DenL C H ds vs := DenL.of ds vs h.1 fun i d v h1 h2 => (h.2 i d v h1 h2).1
theorem TrL.mono {C : Addr} {H H' : Hp} {ds : List D} {vs : List V} (e : Ex H H') (h : TrL C ds vs H) : TrL C ds vs H' := ⟨h.1, fun i d v h1 h2 => (h.2 i d v h1 h2).mono e⟩
theorem TrL.nil {C : Addr} {H : Hp} : TrL C [] [] H := ⟨rfl, fun i d v h => by simp at h⟩
theorem TrL.cons {C : Addr} {H : Hp} {d : D} {ds : List D} {v : V} {vs : List V} (h : Tr C d v H) (k : TrL C ds vs H) : TrL C (d :: ds) (v :: vs) H := ⟨by simp [k.1], fun i d' v' h1 h2 => by
  cases i with
  | zero =>
    have e1 : d = d' := by simpa using h1
    have e2 : v = v' := by simpa using h2
    subst e1 e2
    exact h
  | succ i => exact k.2 i d' v' (by simpa using h1) (by simpa using h2)⟩
theorem TrL.app {C : Addr} {H : Hp} : ∀ {ds es : List D} {vs ws : List V}, TrL C ds vs H → TrL C es ws H → TrL C (ds ++ es) (vs ++ ws) H
  | [], es, [], ws, _, h => h
  | d :: ds, es, v :: vs, ws, h, k => TrL.cons (h.2 0 d v rfl rfl) (TrL.app (ds := ds) (vs := vs) ⟨by simpa using h.1, fun i d' v' h1 h2 => h.2 (i + 1) d' v' (by simpa using h1) (by simpa using h2)⟩ k)
  | [], _, v :: vs, _, h, _ => by cases h.1
  | d :: ds, _, [], _, h, _ => by cases h.1
section
variable {P : Program} {w : World} {K : PySem.W.Frag} {mg : Str → Option Value} {base : Heap} {f C CL CT CR : Addr} {fd : FuncData} {H : Hp} {σ : L2.St}
theorem tr_flat {v : V} (h : flatV v = true) : Tr C (.flat v) v H := ⟨⟨rfl, h⟩, fun t z => nomatch z⟩
theorem ep_tflat {v : V} (h : flatV v = true) : EvP (tC v) σ H (Tr C (.flat v)) := ep_ofP ev_c (tr_flat h)
theorem ep_tvar {i : Nat} {v : V} {d : D} (h : σ[i]? = some (some v)) (k : Tr C d v H) : EvP (tVar i) σ H (Tr C d) := ep_var h k
theorem epa_tnil : EvPA tNil σ H (TrL C []) := epa_nil TrL.nil
theorem epa_tcons {te : TE} {tr : TA} {d : D} {ds : List D} (h : EvP te σ H (Tr C d)) (k : ∀ H', Ex H H' → EvPA tr σ H' (TrL C ds)) : EvPA (tCons te tr) σ H (TrL C (d :: ds)) := fun H1 e Q q =>
  h H1 e _ fun v H' H2 s p => k H' s.loc H2 s.inn _ fun vs H'' H3 s2 p2 => q _ H'' H3 (s.trans s2) (TrL.cons (p.mono s2.loc) p2)
/-- a new list, its items told -/
def NewT (C : Addr) (ds : List D) (v : V) (H : Hp) : Prop := ∃ p vs, v = .ref p ∧ H p = some (.lst vs) ∧ TrL C ds vs H
theorem NewT.tr {ds : List D} {v : V} (h : NewT C ds v H) : Tr C (.seq false ds) v H := by
  obtain ⟨p, vs, rfl, h1, h2⟩ := h
  exact ⟨⟨p, vs, rfl, .inl h1, h2.den⟩, fun t ht => by injection ht with _ ht; subst ht; exact ⟨p, vs, rfl, h1, h2.den⟩⟩
theorem ep_new {ta : TA} {ds : List D} (h : EvPA ta σ H (TrL C ds)) (hl : ds.length ≤ 1000) : EvP (tLst ta) σ H (NewT C ds) := ep_lst (vs := []) h (fun vs H' k => by rw [k.1]; omega) fun vs H' p e k hp => ⟨p, vs, rfl, upd_same, k.mono (Ex.new hp)⟩
theorem ep_tlst {ta : TA} {ds : List D} (h : EvPA ta σ H (TrL C ds)) (hl : ds.length ≤ 1000) : EvP (tLst ta) σ H (Tr C (.seq false ds)) := Gv.imp (ep_new h hl) fun v H' e k => k.tr
theorem ep_ttup {ta : TA} {ds : List D} (h : EvPA ta σ H (TrL C ds)) (hl : ds.length ≤ 1000) : EvP (tTup ta) σ H (Tr C (.seq true ds)) := ep_tup (vs := []) h (fun vs H' k => by rw [k.1]; omega) fun vs H' p e k hp => ⟨⟨p, vs, rfl, .inl upd_same, (k.mono (Ex.new hp)).den⟩, fun t z => nomatch z⟩
theorem ep_tneg {i : Int} : EvP (tUn (rU fun i => .int (-i)) (tC (.int i))) σ H (Tr C (.flat (.int (-i)))) := ep_ofP (ev_un ev_c ru_neg) (tr_flat rfl)
theorem ep_tdnil : EvP tDNewK σ H (Tr C (.dic [] [])) := fun H1 e Q q p hp => q _ _ _ (Step.new e hp) ⟨⟨p, [], rfl, upd_same, rfl, List.nodup_nil, rfl⟩, fun t z => nomatch z⟩
/-- {0: []} -/
theorem ep_tdone {i : Int} : EvP (tDisp [(tC (.int i), tLst tNil)]) σ H (Tr C (.dic [Sum.inl i] [.seq false []])) := fun H1 e Q q p hp =>
  ⟨by show 0 ≤ sizeLine; decide, fun l hl => by
    have npl : p ≠ l := fun z => by rw [← z, upd_same] at hl; cases hl
    have hl1 : H1 l = none := by rw [upd_ne (Ne.symm npl)] at hl; exact hl
    refine ⟨by rw [upd_ne npl, upd_same], [(Sum.inl i, .ref l)], rfl, by show 1 ≤ 15; decide, ?_⟩
    have e1 : upd (upd (upd H1 p (.dK [])) l (.lst [])) p (.dK (mergeK [] [(Sum.inl i, .ref l)])) = upd (upd H1 l (.lst [])) p (.dK [(Sum.inl i, .ref l)]) := by
      funext b
      by_cases hb : b = p
      · subst hb; rw [upd_same, upd_same]; rfl
      · rw [upd_ne hb, upd_ne hb]
        by_cases hb2 : b = l
        · subst hb2; rw [upd_same, upd_same]
        · rw [upd_ne hb2, upd_ne hb2, upd_ne hb]
    rw [e1]
    have st := (Step.new (o := .lst []) e hl1).trans (Step.new (o := .dK [(Sum.inl i, .ref l)]) (Step.new (o := .lst []) e hl1).inn (by rw [upd_ne npl]; exact hp))
    exact q _ _ _ st ⟨⟨p, [.ref l], rfl, upd_same, rfl, by simp, _, _, rfl, ⟨l, [], rfl, .inl (by rw [upd_ne (Ne.symm npl), upd_same]; rfl), rfl⟩, rfl⟩, fun t z => nomatch z⟩⟩
theorem ep_cat {ta tb : TE} {ds es : List D} (ha : EvP ta σ H (NewT C ds)) (hb : ∀ H', Ex H H' → EvP tb σ H' (NewT C es)) (hl : ds.length + es.length ≤ 1000) : EvP (tOp rCat ta tb) σ H (NewT C (ds ++ es)) :=
  ep_op (P2 := fun x y H' => NewT C ds x H' ∧ NewT C es y H') ha (fun x H' e hx => Gv.imp (hb H' e) fun v H'' e2 hv => ⟨by
    obtain ⟨p, vs, h1, h2, h3⟩ := hx
    exact ⟨p, vs, h1, e2 _ _ h2, h3.mono e2⟩, hv⟩) fun x y H' e ⟨⟨p, vs, hx, h2, h3⟩, q, ws, hy, k2, k3⟩ => by
    subst hx hy
    exact fun H1 e1 Q qq => ⟨p, q, vs, ws, rfl, rfl, e1 _ _ h2, e1 _ _ k2, by rw [sizeLine_eq, h3.1, k3.1]; omega, fun r hr => qq _ _ _ (Step.new e1 hr) ⟨r, vs ++ ws, rfl, upd_same, TrL.mono (Ex.new (fresh_back e1 hr)) (TrL.app h3 k3)⟩⟩
/-- a loop over such a list -/
theorem sv_forT {tl' : TE} {j : Nat} {tu tz : TS} {ds : List D} {Nx : L2.St → Hp → Prop} {Rt : V → Hp → Prop} (h : EvP tl' σ H (NewT C ds)) (hb : ∀ (i : Nat) (d : D) (v : V) (σ' : L2.St) H', Ex H H' → ds[i]? = some d → Tr C d v H' → (∃ y, σ' = σ.set j y) → Sv tu (σ'.set j (some v)) H' (fun σ2 _ => ∃ y, σ2 = σ.set j y) Rt)
    (hd : ∀ σ' H', Ex H H' → (∃ y, σ' = σ.set j y) → Sv tz σ' H' Nx Rt) (h0 : ∃ y, σ = σ.set j y) : Sv (tSeq (tFor (iList K tl') (gName j) tu) tz) σ H Nx Rt := fun H1 e D dn dr =>
  h H1 e _ fun v Ha H2 s hv => by
    obtain ⟨p, vs, rfl, h1, h2⟩ := hv
    have := sv_forLq (K := K) (σ := σ) (H := Ha) (tl' := tC (.ref p)) (j := j) (tu := tu) (tz := tz) (Nx := Nx) (Rt := Rt) (xs := vs) ev_c (.inl (.inl h1)) (fun i σ' H' => ∃ y, σ' = σ.set j y) h0
      (fun i x σ' H' e' hx hσ => by
        have hi : i < ds.length := by rw [← h2.1]; exact (List.getElem?_eq_some_iff.mp hx).1
        exact hb i ds[i] x σ' H' (s.loc.trans e') (List.getElem?_eq_getElem hi) ((h2.2 i _ x (List.getElem?_eq_getElem hi) hx).mono e') hσ)
      (fun σ' H' e' hσ => hd σ' H' (s.loc.trans e') hσ)
    exact this H2 s.inn D (fun σ2 H2' H3 s2 => dn σ2 H2' H3 (s.trans s2)) fun v H2' H3 s2 => dr v H2' H3 (s.trans s2)
/-! ### _law_odd_recipes -/
theorem scOr : FnScope ["_law_made_here", "_law_recipe_here"] ["_law_made_here", "_law_recipe_here"] (defScope (top 37)) := ⟨rfl, rfl, rfl, by decide +kernel, rfl, by decide +kernel, by decide +kernel⟩
/-- the recipe as the law holds it: [old, rows] -/
def RecL (C : Addr) (H : Hp) (r : Addr) (m : Nat) (rows : List (List Nat)) : Prop := ∃ pr, H r = some (.lst [nV m, .ref pr]) ∧ Tr C (rowsD (natR rows)) (.ref pr) H
theorem RecL.mono {C : Addr} {H H' : Hp} {r : Addr} {m : Nat} {rows : List (List Nat)} (e : Ex H H') (h : RecL C H r m rows) : RecL C H' r m rows := by
  obtain ⟨pr, h1, h2⟩ := h
  exact ⟨pr, e _ _ h1, h2.mono e⟩
structure RIn where
  made : Addr
  rl : Addr
  m : Nat
  rows : List (List Nat)
def preOr (C : Addr) (q : RIn) (vs : List V) (H : Hp) : Prop := vs = [.ref q.made, .ref q.rl] ∧ Den C H (rcN q.made q.m q.rows) (.ref q.made) ∧ RecL C H q.rl q.m q.rows ∧ q.rows.length ≤ 1000
/-- the odd ones -/
def oddR (q : RIn) : List D := [.flat .non, .flat (.int 0), .flat (.bl true), .flat (.str ("" : Str)), .flat (.str ("recipe" : Str)), .seq false [], .dic [] [], .seq true [], rowsD (natR q.rows), rowsD (natR q.rows), .seq false [rcN q.made q.m q.rows], .seq true [rcN q.made q.m q.rows], .seq true [.flat (nV q.m), rowsD (natR q.rows)]]
abbrev spOr (C : Addr) : Sp := spP (preOr C) (fun q v H => NewT C (oddR q) v H)
theorem LLx.tr {rows : List (List Nat)} {v : V} (h : LLx C H rows v) (hp : ∃ p ys, v = V.ref p ∧ H p = some (.lst ys)) : Tr C (rowsD (natR rows)) v H := ⟨h, fun t ht => by
  obtain ⟨p, ys, rfl, h2⟩ := hp
  obtain ⟨p', ys', e1, k2, k3⟩ := h
  injection e1 with e1
  subst e1
  have e := rd_inj k2 (.inl h2) sqO_nf (fun _ _ z => nomatch z)
  have e : HO.lst ys' = HO.lst ys := e
  injection e with e
  subst e
  injection ht with _ ht
  subst ht
  exact ⟨p, ys', rfl, h2, k3⟩⟩
theorem ok_odd_recipes (F : FnT K "_law_odd_recipes" 37 f fd) {fN : Addr} {fdN : FuncData} (hm : Meth K C "needs" fN) (FN : FnOk P w K mg base CX0 1 fN fdN ["self"] (spNe C)) (bN : Binds K fdN ["self"] []) (rc : RcT K mg C) : FnOk P w K mg base CX0 2 f fd ["_law_made_here", "_law_recipe_here"] (spOr C) := by
  refine okP F scOr (fun d vs H h => ?_) (fun cdv A outer s H1 vs E q H hr h => ?_)
  · obtain ⟨rfl, _⟩ := h
    rfl
  · obtain ⟨ma, re, m, rows⟩ := q
    obtain ⟨rfl, hd, hrec, hrl⟩ := h
    have hd : Den C H (rcN ma m rows) (.ref ma) := hd
    have hrec : RecL C H re m rows := hrec
    have hrl : rows.length ≤ 1000 := hrl
    refine ⟨_, PSs.nox (pss_one (ps_ret (pe_lst (pa_cons pe_non (pa_cons pe_int (pa_cons pe_bl (pa_cons pe_str (pa_cons pe_str (pa_cons (pe_lst pa_nil) (pa_cons pe_dnewK (pa_cons (pe_tup pa_nil)
      (pa_cons (pe_ix ix_list (pv 1) pe_int (fun _ _ => rfl)) (pa_cons (pe_meth0 (pv 0) rc.cl hm FN hr bN .nil pass0) (pa_cons (pe_lst (pa_cons (pv 0) pa_nil)) (pa_cons (pe_tup (pa_cons (pv 0) pa_nil))
      (pa_cons (pe_tup (pa_cons (pe_ix ix_list (pv 1) pe_int (fun _ _ => rfl)) (pa_cons (pe_ix ix_list (pv 1) pe_int (fun _ _ => rfl)) pa_nil))) pa_nil)))))))))))))))), ?_⟩
    obtain ⟨pr, hre, hpr⟩ := hrec
    have trm : ∀ {H' : Hp}, Ex H H' → Tr C (rcN ma m rows) (.ref ma) H' := fun e => ⟨Den.mono e _ _ hd, fun t z => nomatch z⟩
    have ix0 : ∀ {H' : Hp}, Ex H H' → EvP (tOp (rIxL K) (tVar 1) (tC (.int 0))) (L2.start ["_law_made_here", "_law_recipe_here"] [.ref ma, .ref re]) H' (Tr C (.flat (nV m))) := fun e => ep_ofP (ev_op (ev_var rfl) ev_c (rv_ixL (i := 0) (sq_of (e _ _ hre)) (atI_nat (j := 0) rfl))) (tr_flat rfl)
    have ix1 : ∀ {H' : Hp}, Ex H H' → EvP (tOp (rIxL K) (tVar 1) (tC (.int 1))) (L2.start ["_law_made_here", "_law_recipe_here"] [.ref ma, .ref re]) H' (Tr C (rowsD (natR rows))) := fun e => ep_ofP (ev_op (ev_var rfl) ev_c (rv_ixL (i := 1) (sq_of (e _ _ hre)) (atI_nat (j := 1) rfl))) (hpr.mono e)
    refine sv_ret (ep_new (ds := oddR ⟨ma, re, m, rows⟩) ?_ (by show 13 ≤ 1000; decide))
    refine epa_tcons (ep_tflat rfl) fun H1' e1 => epa_tcons (ep_tflat rfl) fun H2 e2 => epa_tcons (ep_tflat rfl) fun H3 e3 => epa_tcons (ep_tflat rfl) fun H4 e4 => epa_tcons (ep_tflat rfl) fun H5 e5 => epa_tcons (ep_tlst epa_tnil (by decide)) fun H6 e6 =>
      epa_tcons ep_tdnil fun H7 e7 => epa_tcons (ep_ttup epa_tnil (by decide)) fun H8 e8 => ?_
    have e08 : Ex H H8 := (((((((e1.trans e2).trans e3).trans e4).trans e5).trans e6).trans e7).trans e8)
    refine epa_tcons (ix1 e08) fun H9 e9 => epa_tcons ?_ fun H10 e10 => epa_tcons (ep_tlst (epa_tcons (ep_tvar rfl (trm ((e08.trans e9).trans e10))) fun _ _ => epa_tnil) (Nat.le_of_ble_eq_true rfl)) fun H11 e11 =>
      epa_tcons (ep_ttup (epa_tcons (ep_tvar rfl (trm (((e08.trans e9).trans e10).trans e11))) fun _ _ => epa_tnil) (Nat.le_of_ble_eq_true rfl)) fun H12 e12 =>
      epa_tcons (ep_ttup (epa_tcons (ix0 ((((e08.trans e9).trans e10).trans e11).trans e12)) fun H13 e13 => epa_tcons (ix1 (((((e08.trans e9).trans e10).trans e11).trans e12).trans e13)) fun _ _ => epa_tnil) (Nat.le_of_ble_eq_true rfl)) fun _ _ => epa_tnil
    -- made.needs()
    have hd9 := Den.mono (e08.trans e9) _ _ hd
    obtain ⟨_, dx, fs, p2, k1, k2, k3, k4⟩ := id hd9
    intro Ht et Q qq
    refine ⟨.ref ma, rfl, ma, dx, fs, rfl, et _ _ k1, k3.2.2, ?_⟩
    exact gv_spP (E := E0) (ma, m, rows) ⟨rfl, hd9, by show rows.length ≤ 30000; omega⟩ (fun v H' e hv => LLx.tr hv.1 hv.2) Ht et Q qq
end
end G

/-! _law_refused_right (printed by gen_wl4.py). -/
namespace G
open PySem PySem.Spec PyProof.Rows L2 Evl Tp RZ TL L2X
open PySem.ExX (ExT PrOk)
/-- what is odd enough for a tree -/
structure Gd (d : D) : Prop where
  ok : okD d
  dp : dep d ≤ 4
  sz : siz d ≤ 20000
  key : ∀ ks t, d = .dic ks t → kODD ∉ ks
theorem Tr.odd {C : Addr} {H : Hp} {d : D} {v : V} (h : Tr C d v H) (g : Gd d) : OddD C H d v := ⟨h.1, g.ok, g.dp, g.sz, h.2, g.key⟩
structure Dst (CR CL CT : Addr) : Prop where
  rl : CR ≠ CL
  rt : CR ≠ CT
  lt : CL ≠ CT
def dsW : List D := [(.seq false [(.seq false [(.flat (.int 1)), (.flat (.int 0))]), (.seq false [(.flat (.int 0))])]), (.seq false [(.seq false [(.flat (.int 0)), (.flat (.int 2)), (.flat (.int 1))])]), (.seq false [(.seq false [(.flat (.int 0)), (.flat (.int 1)), (.flat (.int 1))])]), (.seq false [(.seq false [(.flat (.int 0))]), (.seq false [(.flat (.int 1)), (.flat (.int 1))]), (.seq false [(.flat (.int 2))])]), (.seq false [(.seq false []), (.seq false [(.flat (.int 0)), (.flat .non)])])]
def dsX : List D := [(.flat .non), (.flat (.int 0)), (.flat (.bl true)), (.flat (.str ("" : Str))), (.dic [] []), (.seq true []), (.seq false [(.flat .non)]), (.seq false [(.flat (.int 0))]), (.seq false [(.seq true [])]), (.seq false [(.seq false [(.flat (.int 0))]), (.flat .non)]), (.seq false [(.seq false [(.flat (.int 1)), (.flat (.int 0))])]), (.seq false [(.seq false [(.flat (.int 0)), (.flat (.int 0))])]), (.seq false [(.seq false [(.flat (.bl true))])]), (.seq false [(.seq false [(.flat (.str ("0" : Str)))])]), (.seq false [(.seq false [(.flat (.int (-1)))])]), (.dic [Sum.inl 0] [.seq false []]), (.seq false [(.seq false [(.seq false [(.flat (.int 0))])])]), (.seq true [(.seq false [(.flat (.int 0))])])]
def dsO (q : RIn) : List D := [(.flat .non), (.flat (.int 0)), (.flat (.bl true)), (.seq false []), (.dic [] []), (.seq true []), (.seq false [(.flat (.str ("-" : Str)))]), (rcN q.made q.m q.rows)]
theorem gd_flat (v : V) : Gd (.flat v) := ⟨trivial, Nat.zero_le _, by show 1 ≤ 20000; decide, fun _ _ z => nomatch z⟩
theorem gd_seq {b : Bool} {t : List D} (h : okDL t) (h1 : depL t ≤ 3) (h2 : sizL t ≤ 19999) : Gd (.seq b t) := ⟨h, by show depL t + 1 ≤ 4; omega, by show sizL t + 1 ≤ 20000; omega, fun _ _ z => nomatch z⟩
theorem okDL_of : ∀ {t : List D}, (∀ d ∈ t, okD d) → okDL t
  | [], _ => trivial
  | d :: t, h => ⟨h d (by simp), okDL_of fun d' hd => h d' (by simp [hd])⟩
mutual
def noR : D → Bool
  | .flat _ => true
  | .rcp _ _ _ => false
  | .seq _ t => noRL t
  | .dic _ t => noRL t
def noRL : List D → Bool
  | [] => true
  | d :: t => noR d && noRL t
end
mutual
theorem ok_noR : ∀ d : D, noR d = true → okD d
  | .flat _, _ => trivial
  | .rcp _ _ _, h => by cases h
  | .seq _ t, h => okL_noR t h
  | .dic _ t, h => okL_noR t h
theorem okL_noR : ∀ t : List D, noRL t = true → okDL t
  | [], _ => trivial
  | d :: t, h => ⟨ok_noR d (Bool.and_eq_true_iff.mp h).1, okL_noR t (Bool.and_eq_true_iff.mp h).2⟩
end
def gdB (d : D) : Bool := noR d && (decide (dep d ≤ 4) && (decide (siz d ≤ 20000) && (match d with | .dic ks _ => ks.all fun k => decide (k ≠ kODD) | _ => true)))
theorem gdB_ok {d : D} (h : gdB d = true) : Gd d := by
  unfold gdB at h
  simp only [Bool.and_eq_true, decide_eq_true_eq] at h
  obtain ⟨h1, h2, h3, h4⟩ := h
  refine ⟨ok_noR d h1, h2, h3, fun ks t e => ?_⟩
  subst e
  intro hm
  exact of_decide_eq_true (List.all_eq_true.mp (show (ks.all fun k => decide (k ≠ kODD)) = true from h4) _ hm) rfl
theorem dsWX : ∀ d ∈ dsW ++ dsX, Gd d ∧ lotsD d = none := by
  intro d hd
  have h : ((dsW ++ dsX).all fun d => gdB d && (lotsD d).isNone) = true := by decide +kernel
  have := List.all_eq_true.mp h d hd
  rw [Bool.and_eq_true_iff] at this
  exact ⟨gdB_ok this.1, Option.isNone_iff_eq_none.mp this.2⟩
def notS (d : D) : Prop := ∀ z, d ≠ .flat (.str z)
theorem gd_rows {rows : List (List Nat)} (h : siz (rowsD (natR rows)) ≤ 10000) : okD (rowsD (natR rows)) ∧ dep (rowsD (natR rows)) ≤ 2 := by
  rw [rowsD_nat] at *
  have e1 : ∀ r : List Nat, okDL (r.map fun n => D.flat (nV n)) ∧ depL (r.map fun n => D.flat (nV n)) = 0 := fun r => by
    induction r with
    | nil => exact ⟨trivial, rfl⟩
    | cons n r ih =>
      refine ⟨⟨trivial, ih.1⟩, ?_⟩
      show max 0 (depL (r.map fun n => D.flat (nV n))) = 0
      rw [ih.2]
      rfl
  have e2 : ∀ rs : List (List Nat), okDL (rs.map fun r => D.seq false (r.map fun n => .flat (nV n))) ∧ depL (rs.map fun r => D.seq false (r.map fun n => .flat (nV n))) ≤ 1 := fun rs => by
    induction rs with
    | nil => exact ⟨trivial, Nat.zero_le _⟩
    | cons r rs ih =>
      refine ⟨⟨(e1 r).1, ih.1⟩, ?_⟩
      show max (depL (r.map fun n => D.flat (nV n)) + 1) (depL (rs.map fun r => D.seq false (r.map fun n => .flat (nV n)))) ≤ 1
      rw [(e1 r).2]
      have := ih.2
      omega
  exact ⟨(e2 rows).1, by show depL _ + 1 ≤ 2; have := (e2 rows).2; omega⟩
theorem odds_ok {q : RIn} (h : siz (rowsD (natR q.rows)) ≤ 10000) : ∀ d ∈ oddR q, Gd d ∧ isR d = false := by
  obtain ⟨h1, h2⟩ := gd_rows h
  have hr : Gd (rowsD (natR q.rows)) := ⟨h1, by omega, by omega, fun _ _ z => by rw [rowsD_nat] at z; cases z⟩
  have hok : okD (rcN q.made q.m q.rows) := ⟨natR q.rows, rfl⟩
  have hrn : isR (rowsD (natR q.rows)) = false := by rw [rowsD_nat]; rfl
  intro d hd
  simp only [oddR, List.mem_cons, List.not_mem_nil, or_false] at hd
  rcases hd with rfl | rfl | rfl | rfl | rfl | rfl | rfl | rfl | rfl | rfl | rfl | rfl | rfl
  · exact ⟨gd_flat _, rfl⟩
  · exact ⟨gd_flat _, rfl⟩
  · exact ⟨gd_flat _, rfl⟩
  · exact ⟨gd_flat _, rfl⟩
  · exact ⟨gd_flat _, rfl⟩
  · exact ⟨gdB_ok (by decide +kernel), rfl⟩
  · exact ⟨gdB_ok (by decide +kernel), rfl⟩
  · exact ⟨gdB_ok (by decide +kernel), rfl⟩
  · exact ⟨hr, hrn⟩
  · exact ⟨hr, hrn⟩
  · exact ⟨gd_seq ⟨hok, trivial⟩ (by show max 0 0 ≤ 3; decide) (by show siz (rowsD (natR q.rows)) + 1 + 0 ≤ 19999; omega), rfl⟩
  · exact ⟨gd_seq ⟨hok, trivial⟩ (by show max 0 0 ≤ 3; decide) (by show siz (rowsD (natR q.rows)) + 1 + 0 ≤ 19999; omega), rfl⟩
  · exact ⟨gd_seq ⟨trivial, h1, trivial⟩ (by show max 0 (max (dep (rowsD (natR q.rows))) 0) ≤ 3; omega) (by show 1 + (siz (rowsD (natR q.rows)) + 0) ≤ 19999; omega), rfl⟩
theorem dsO_ok {q : RIn} (h : siz (rowsD (natR q.rows)) ≤ 10000) : ∀ d ∈ dsO q, Gd d ∧ notS d := by
  intro d hd
  simp only [dsO, List.mem_cons, List.not_mem_nil, or_false] at hd
  rcases hd with rfl | rfl | rfl | rfl | rfl | rfl | rfl | rfl
  · exact ⟨gd_flat _, fun z e => by cases e⟩
  · exact ⟨gd_flat _, fun z e => by cases e⟩
  · exact ⟨gd_flat _, fun z e => by cases e⟩
  · exact ⟨gdB_ok (by decide +kernel), fun z e => by cases e⟩
  · exact ⟨gdB_ok (by decide +kernel), fun z e => by cases e⟩
  · exact ⟨gdB_ok (by decide +kernel), fun z e => by cases e⟩
  · exact ⟨gdB_ok (by decide +kernel), fun z e => by cases e⟩
  · exact ⟨⟨⟨natR q.rows, rfl⟩, Nat.zero_le _, by show siz (rowsD (natR q.rows)) + 1 ≤ 20000; omega, fun _ _ z => nomatch z⟩, fun z e => by cases e⟩
section
variable {P : Program} {w : World} {K : PySem.W.Frag} {mg : Str → Option Value} {base : Heap} {f C CL CT CR : Addr} {fd : FuncData} {H : Hp} {σ : L2.St}
abbrev tIt (C CR CL CT : Addr) (i : Int) (wd : Str) : TE := tCall (spIt C CR CL CT) [] E0 (tCons (tC (.int i)) (tCons (tLst (tCons (tVar 2) tNil)) (tCons (tC (.str wd)) (tCons (tVar 2) tNil))))
theorem ep_isTold {i : Int} {x : V} {d : D} {CE : Addr} {j : Nat} (hs : σ[2]? = some (some x)) (hd : OddD C H d x) (hdoor : Door C CR CL CT i d x (some CE)) (j0 : CE = CR → j = 0) (j1 : CE = CL → j = 1) (j2 : CE = CT → j = 2) : Ev (tIt C CR CL CT i (wordOf j)) σ H (.bl true) := by
  refine EvP.ev (ep_call (A := fun vs H' => ∃ p, vs = [.int i, .ref p, .str (wordOf j), x] ∧ H' p = some (.lst [x]) ∧ Ex H H') (epa_cons (P1 := Eqv (.int i)) (ep_of ev_c) fun v1 Ha ea h1 => epa_cons (P1 := NewL Ha [x]) (ep_ofL (el_lst (ea_cons (ev_var hs) ea_nil) (by show 1 ≤ 100000; decide))) fun v2 Hb eb h2 =>
    epa_cons (P1 := Eqv (.str (wordOf j))) (ep_of ev_c) fun v3 Hc ec h3 => epa_cons (P1 := Eqv x) (ep_of (ev_var hs)) fun v4 Hd ed h4 => epa_nil ?_) fun vs H' e hh => ?_)
  · obtain ⟨p, rfl, _, hp⟩ := h2
    exact ⟨p, by rw [show v1 = _ from h1, show v3 = _ from h3, show v4 = _ from h4], ed _ _ (ec _ _ hp), ((ea.trans eb).trans ec).trans ed⟩
  · obtain ⟨p, rfl, hp, e2⟩ := hh
    exact gv_spP ⟨i, p, x, d, some CE, j⟩ ⟨rfl, hp, hd.mono e2, hdoor, (fun z => nomatch z), fun z => j0 (Option.some.inj z), fun z => j1 (Option.some.inj z), fun z => j2 (Option.some.inj z)⟩ fun v H4 e4 hv => hv
abbrev nRr : List Str := ["_law_recipe_here", "_law_made_here", "_law_odd", "_law_wrong", "_law_odds"]
theorem scRr : FnScope nRr ["_law_recipe_here", "_law_made_here"] (defScope (top 51)) := ⟨rfl, rfl, rfl, by decide +kernel, rfl, by decide +kernel, by decide +kernel⟩
def preRr (C : Addr) (q : RIn) (vs : List V) (H : Hp) : Prop := vs = [.ref q.rl, .ref q.made] ∧ Den C H (rcN q.made q.m q.rows) (.ref q.made) ∧ RecL C H q.rl q.m q.rows ∧ q.rows.length ≤ 1000 ∧ siz (rowsD (natR q.rows)) ≤ 10000
abbrev spRr (C : Addr) : Sp := spP (preRr C) (fun _ v _ => v = .bl true)
theorem told_body {i : Int} {wd : Str} {x : V} {σ' : L2.St} {H' : Hp} {Nx : L2.St → Hp → Prop} {Rt : V → Hp → Prop} (h : Ev (tIt C CR CL CT i wd) σ' H' (.bl true)) (k : Nx σ' H') : Sv (tIfS (tNot (tB (tIt C CR CL CT i wd))) (tRet (tC (.bl false))) tNext) σ' H' Nx Rt :=
  sv_ifE (b := false) (et_not (et_B h)) (fun z => nomatch z) fun _ => sv_next k
theorem ok_refused (F : FnT K "_law_refused_right" 51 f fd) (KO : Kp P w K mg base CX0 2 "_law_odd_recipes" ["_law_made_here", "_law_recipe_here"] (spOr C)) (KI : Kp P w K mg base CX0 10 "_law_is_told" ["_law_door", "_law_given", "_law_word", "_law_odd"] (spIt C CR CL CT)) (fr : Fr mg) (ds : Dst CR CL CT) :
    FnOk P w K mg base CX0 11 f fd ["_law_recipe_here", "_law_made_here"] (spRr C) := by
  refine okP F scRr (fun d vs H h => ?_) (fun cdv A outer s H1 vs E q H hr h => ?_)
  · obtain ⟨rfl, _⟩ := h
    rfl
  · obtain ⟨rfl, hd, hrec, hrl, hsz⟩ := h
    refine ⟨_, PSs.nox (pss_cons (ps_for PassesOwn.never rfl (pi_list (pe_cl KO (hr.mono (by decide)) (pa_cons (pv 1) (pa_cons (pv 0) pa_nil)))) (pg_name (i := 2) scRr.nd rfl (.inl rfl)) (pss_one (ps_if (pt_not (pt_val (pe_cl KI hr (pa_cons pe_int (pa_cons (pe_lst (pa_cons (pv 2) pa_nil)) (pa_cons pe_str (pa_cons (pv 2) pa_nil))))))) (pss_one (ps_ret pe_bl)) pss_nil)))
      (pss_cons (ps_set (i := 3) scRr.nd rfl (.inl rfl) (pe_lst (pa_cons (pe_lst (pa_cons (pe_lst (pa_cons pe_int (pa_cons pe_int pa_nil))) (pa_cons (pe_lst (pa_cons pe_int pa_nil)) pa_nil))) (pa_cons (pe_lst (pa_cons (pe_lst (pa_cons pe_int (pa_cons pe_int (pa_cons pe_int pa_nil)))) pa_nil)) (pa_cons (pe_lst (pa_cons (pe_lst (pa_cons pe_int (pa_cons pe_int (pa_cons pe_int pa_nil)))) pa_nil)) (pa_cons (pe_lst (pa_cons (pe_lst (pa_cons pe_int pa_nil)) (pa_cons (pe_lst (pa_cons pe_int (pa_cons pe_int pa_nil))) (pa_cons (pe_lst (pa_cons pe_int pa_nil)) pa_nil)))) (pa_cons (pe_lst (pa_cons (pe_lst pa_nil) (pa_cons (pe_lst (pa_cons pe_int (pa_cons pe_non pa_nil))) pa_nil))) pa_nil)))))))
      (pss_cons (ps_for PassesOwn.never rfl (pi_list (pe_op op_cat (pv 3) (pe_lst (pa_cons pe_non (pa_cons pe_int (pa_cons pe_bl (pa_cons pe_str (pa_cons pe_dnewK (pa_cons (pe_tup pa_nil) (pa_cons (pe_lst (pa_cons pe_non pa_nil)) (pa_cons (pe_lst (pa_cons pe_int pa_nil)) (pa_cons (pe_lst (pa_cons (pe_tup pa_nil) pa_nil)) (pa_cons (pe_lst (pa_cons (pe_lst (pa_cons pe_int pa_nil)) (pa_cons pe_non pa_nil))) (pa_cons (pe_lst (pa_cons (pe_lst (pa_cons pe_int (pa_cons pe_int pa_nil))) pa_nil)) (pa_cons (pe_lst (pa_cons (pe_lst (pa_cons pe_int (pa_cons pe_int pa_nil))) pa_nil)) (pa_cons (pe_lst (pa_cons (pe_lst (pa_cons pe_bl pa_nil)) pa_nil)) (pa_cons (pe_lst (pa_cons (pe_lst (pa_cons pe_str pa_nil)) pa_nil)) (pa_cons (pe_lst (pa_cons (pe_lst (pa_cons (pe_un un_neg pe_int) pa_nil)) pa_nil)) (pa_cons (pe_disp (pps_cons pe_int (pe_lst pa_nil) pps_nil) (by rfl) (by rfl) (fun z => by cases z) (by decide)) (pa_cons (pe_lst (pa_cons (pe_lst (pa_cons (pe_lst (pa_cons pe_int pa_nil)) pa_nil)) pa_nil)) (pa_cons (pe_tup (pa_cons (pe_lst (pa_cons pe_int pa_nil)) pa_nil)) pa_nil))))))))))))))))))))) (pg_name (i := 2) scRr.nd rfl (.inl rfl)) (pss_one (ps_if (pt_not (pt_val (pe_cl KI hr (pa_cons pe_int (pa_cons (pe_lst (pa_cons (pv 2) pa_nil)) (pa_cons pe_str (pa_cons (pv 2) pa_nil))))))) (pss_one (ps_ret pe_bl)) pss_nil)))
      (pss_cons (ps_set (i := 4) scRr.nd rfl (.inl rfl) (pe_lst (pa_cons pe_non (pa_cons pe_int (pa_cons pe_bl (pa_cons (pe_lst pa_nil) (pa_cons pe_dnewK (pa_cons (pe_tup pa_nil) (pa_cons (pe_lst (pa_cons pe_str pa_nil)) (pa_cons (pv 1) pa_nil))))))))))
      (pss_one (ps_ret (pe_callB (cr_all rfl) rfl fr.all_ bt_all (pa_cons (pe_lc (own := [("_law_odd", 2)]) (g := gName 2) (tt := tYes) rfl scRr.nd (pi_list (pv 4)) (blkOk_by (N := nRr) (sc := defScope (top 51)) (by decide +kernel)) (fun _ _ _ _ _ => pg_name (i := 2) scRr.nd rfl (Or.inl rfl)) (fun _ _ _ _ _ => pts_nil)
        (fun _ _ _ _ _ => pe_and (pe_cl KI hr (pa_cons pe_int (pa_cons (pe_lst (pa_cons (pv 2) pa_nil)) (pa_cons pe_str (pa_cons (pv 2) pa_nil))))) (pe_one (pe_cl KI hr (pa_cons pe_int (pa_cons (pe_lst (pa_cons (pv 2) pa_nil)) (pa_cons pe_str (pa_cons (pv 2) pa_nil)))))))) pa_nil)))))))), ?_⟩
    have st0 : L2.start nRr [.ref q.rl, .ref q.made] = [some (.ref q.rl), some (.ref q.made), none, none, none] := rfl
    rw [st0]
    refine sv_forT (ds := oddR q) (ep_callA (ea_cons (ev_var rfl) (ea_cons (ev_var rfl) ea_nil)) (gv_spP q ⟨rfl, hd, hrec, hrl⟩ fun v H' e hv => hv)) (fun i d v σ' H' e hi hv hσ => ?_) (fun σ' H2 e2 hσ => ?_) ⟨none, rfl⟩
    · obtain ⟨y, rfl⟩ := hσ
      obtain ⟨g1, g2⟩ := odds_ok hsz d (List.mem_of_getElem? hi)
      exact told_body (x := v) (ep_isTold (j := 0) rfl (hv.odd g1) (Door.rt g2) (fun _ => rfl) (fun z => absurd z ds.rl) (fun z => absurd z ds.rt)) ⟨some v, by rw [List.set_set]⟩
    obtain ⟨y, rfl⟩ := hσ
    refine sv_set (P := NewT C dsW) (ep_new (epa_tcons (ep_tlst (epa_tcons (ep_tlst (epa_tcons (ep_tflat rfl) fun _ _ => (epa_tcons (ep_tflat rfl) fun _ _ => epa_tnil)) (Nat.le_of_ble_eq_true rfl)) fun _ _ => (epa_tcons (ep_tlst (epa_tcons (ep_tflat rfl) fun _ _ => epa_tnil) (Nat.le_of_ble_eq_true rfl)) fun _ _ => epa_tnil)) (Nat.le_of_ble_eq_true rfl)) fun _ _ => (epa_tcons (ep_tlst (epa_tcons (ep_tlst (epa_tcons (ep_tflat rfl) fun _ _ => (epa_tcons (ep_tflat rfl) fun _ _ => (epa_tcons (ep_tflat rfl) fun _ _ => epa_tnil))) (Nat.le_of_ble_eq_true rfl)) fun _ _ => epa_tnil) (Nat.le_of_ble_eq_true rfl)) fun _ _ => (epa_tcons (ep_tlst (epa_tcons (ep_tlst (epa_tcons (ep_tflat rfl) fun _ _ => (epa_tcons (ep_tflat rfl) fun _ _ => (epa_tcons (ep_tflat rfl) fun _ _ => epa_tnil))) (Nat.le_of_ble_eq_true rfl)) fun _ _ => epa_tnil) (Nat.le_of_ble_eq_true rfl)) fun _ _ => (epa_tcons (ep_tlst (epa_tcons (ep_tlst (epa_tcons (ep_tflat rfl) fun _ _ => epa_tnil) (Nat.le_of_ble_eq_true rfl)) fun _ _ => (epa_tcons (ep_tlst (epa_tcons (ep_tflat rfl) fun _ _ => (epa_tcons (ep_tflat rfl) fun _ _ => epa_tnil)) (Nat.le_of_ble_eq_true rfl)) fun _ _ => (epa_tcons (ep_tlst (epa_tcons (ep_tflat rfl) fun _ _ => epa_tnil) (Nat.le_of_ble_eq_true rfl)) fun _ _ => epa_tnil))) (Nat.le_of_ble_eq_true rfl)) fun _ _ => (epa_tcons (ep_tlst (epa_tcons (ep_tlst epa_tnil (Nat.le_of_ble_eq_true rfl)) fun _ _ => (epa_tcons (ep_tlst (epa_tcons (ep_tflat rfl) fun _ _ => (epa_tcons (ep_tflat rfl) fun _ _ => epa_tnil)) (Nat.le_of_ble_eq_true rfl)) fun _ _ => epa_tnil)) (Nat.le_of_ble_eq_true rfl)) fun _ _ => epa_tnil))))) (by decide)) fun v3 H3 e3 hv3 => ?_
    refine sv_forT (ds := dsW ++ dsX) (ep_cat (ep_var rfl hv3) (fun _ _ => ep_new (epa_tcons (ep_tflat rfl) fun _ _ => (epa_tcons (ep_tflat rfl) fun _ _ => (epa_tcons (ep_tflat rfl) fun _ _ => (epa_tcons (ep_tflat rfl) fun _ _ => (epa_tcons ep_tdnil fun _ _ => (epa_tcons (ep_ttup epa_tnil (Nat.le_of_ble_eq_true rfl)) fun _ _ => (epa_tcons (ep_tlst (epa_tcons (ep_tflat rfl) fun _ _ => epa_tnil) (Nat.le_of_ble_eq_true rfl)) fun _ _ => (epa_tcons (ep_tlst (epa_tcons (ep_tflat rfl) fun _ _ => epa_tnil) (Nat.le_of_ble_eq_true rfl)) fun _ _ => (epa_tcons (ep_tlst (epa_tcons (ep_ttup epa_tnil (Nat.le_of_ble_eq_true rfl)) fun _ _ => epa_tnil) (Nat.le_of_ble_eq_true rfl)) fun _ _ => (epa_tcons (ep_tlst (epa_tcons (ep_tlst (epa_tcons (ep_tflat rfl) fun _ _ => epa_tnil) (Nat.le_of_ble_eq_true rfl)) fun _ _ => (epa_tcons (ep_tflat rfl) fun _ _ => epa_tnil)) (Nat.le_of_ble_eq_true rfl)) fun _ _ => (epa_tcons (ep_tlst (epa_tcons (ep_tlst (epa_tcons (ep_tflat rfl) fun _ _ => (epa_tcons (ep_tflat rfl) fun _ _ => epa_tnil)) (Nat.le_of_ble_eq_true rfl)) fun _ _ => epa_tnil) (Nat.le_of_ble_eq_true rfl)) fun _ _ => (epa_tcons (ep_tlst (epa_tcons (ep_tlst (epa_tcons (ep_tflat rfl) fun _ _ => (epa_tcons (ep_tflat rfl) fun _ _ => epa_tnil)) (Nat.le_of_ble_eq_true rfl)) fun _ _ => epa_tnil) (Nat.le_of_ble_eq_true rfl)) fun _ _ => (epa_tcons (ep_tlst (epa_tcons (ep_tlst (epa_tcons (ep_tflat rfl) fun _ _ => epa_tnil) (Nat.le_of_ble_eq_true rfl)) fun _ _ => epa_tnil) (Nat.le_of_ble_eq_true rfl)) fun _ _ => (epa_tcons (ep_tlst (epa_tcons (ep_tlst (epa_tcons (ep_tflat rfl) fun _ _ => epa_tnil) (Nat.le_of_ble_eq_true rfl)) fun _ _ => epa_tnil) (Nat.le_of_ble_eq_true rfl)) fun _ _ => (epa_tcons (ep_tlst (epa_tcons (ep_tlst (epa_tcons ep_tneg fun _ _ => epa_tnil) (Nat.le_of_ble_eq_true rfl)) fun _ _ => epa_tnil) (Nat.le_of_ble_eq_true rfl)) fun _ _ => (epa_tcons ep_tdone fun _ _ => (epa_tcons (ep_tlst (epa_tcons (ep_tlst (epa_tcons (ep_tlst (epa_tcons (ep_tflat rfl) fun _ _ => epa_tnil) (Nat.le_of_ble_eq_true rfl)) fun _ _ => epa_tnil) (Nat.le_of_ble_eq_true rfl)) fun _ _ => epa_tnil) (Nat.le_of_ble_eq_true rfl)) fun _ _ => (epa_tcons (ep_ttup (epa_tcons (ep_tlst (epa_tcons (ep_tflat rfl) fun _ _ => epa_tnil) (Nat.le_of_ble_eq_true rfl)) fun _ _ => epa_tnil) (Nat.le_of_ble_eq_true rfl)) fun _ _ => epa_tnil)))))))))))))))))) (by decide)) (by decide)) (fun i d v σ' H' e hi hv hσ => ?_) (fun σ' H4 e4 hσ => ?_) ⟨y, rfl⟩
    · obtain ⟨y', rfl⟩ := hσ
      obtain ⟨g1, g2⟩ := dsWX d (List.mem_of_getElem? hi)
      have g3 : siz d ≤ 30000 := Nat.le_trans g1.sz (by decide)
      exact told_body (x := v) (ep_isTold (j := 1) rfl (hv.odd g1) (Door.lt g2 g3) (fun z => absurd z (Ne.symm ds.rl)) (fun _ => rfl) (fun z => absurd z ds.lt)) ⟨some v, by rw [List.set_set]⟩
    obtain ⟨y', rfl⟩ := hσ
    have e04 := (e2.trans e3).trans e4
    have trm : ∀ {H' : Hp}, Ex H4 H' → Tr C (rcN q.made q.m q.rows) (.ref q.made) H' := fun e => ⟨Den.mono (e04.trans e) _ _ hd, fun t z => nomatch z⟩
    refine sv_set (P := NewT C (dsO q)) (ep_new (epa_tcons (ep_tflat rfl) fun G1 f1 => (epa_tcons (ep_tflat rfl) fun G2 f2 => (epa_tcons (ep_tflat rfl) fun G3 f3 => (epa_tcons (ep_tlst epa_tnil (Nat.le_of_ble_eq_true rfl)) fun G4 f4 => (epa_tcons ep_tdnil fun G5 f5 => (epa_tcons (ep_ttup epa_tnil (Nat.le_of_ble_eq_true rfl)) fun G6 f6 => (epa_tcons (ep_tlst (epa_tcons (ep_tflat rfl) fun _ _ => epa_tnil) (Nat.le_of_ble_eq_true rfl)) fun G7 f7 => (epa_tcons (ep_tvar rfl (trm ((((((f1.trans f2).trans f3).trans f4).trans f5).trans f6).trans f7))) fun G8 f8 => epa_tnil)))))))) (Nat.le_of_ble_eq_true rfl)) fun v5 H5 e5 hv5 => ?_
    obtain ⟨p5, vs5, rfl, h51, h52⟩ := hv5
    refine sv_ret (Gv.imp (ep_cb1 (ep_lcL (xs := vs5) (fun _ y _ => y = .bl true) (fun _ _ _ _ _ h => h) (ev_var rfl) (.inl (.inl h51)) (by rw [h52.1]; exact Nat.le_of_ble_eq_true rfl) (fun x => rfl) fun i v H' e hv => ?_) fun v H' e h => ?_) fun v H' e (hv : Eqv (.bl true) v H') => hv)
    · have hi : i < (dsO q).length := by rw [← h52.1]; exact (List.getElem?_eq_some_iff.mp hv).1
      have hdi : (dsO q)[i]? = some ((dsO q)[i]) := List.getElem?_eq_getElem hi
      have ht := (h52.2 i _ v hdi hv).mono e
      obtain ⟨g1, g2⟩ := dsO_ok hsz _ (List.mem_of_getElem? hdi)
      have hns : ∀ z, v = V.str z → TxG (tl z) ∧ Pap.pRecipe (tl z) = none := fun z hz => absurd (Den.uni _ (.flat (.str z)) v ht.1 ⟨hz, rfl⟩) (g2 z)
      have hns2 : ∀ z, v = V.str z → TxG (tl z) ∧ Pap.pLots (tl z) = none := fun z hz => absurd (Den.uni _ (.flat (.str z)) v ht.1 ⟨hz, rfl⟩) (g2 z)
      exact ep_of (ev_andT (ep_isTold (j := 2) rfl (ht.odd g1) (Door.rdNo hns) (fun z => absurd z (Ne.symm ds.rt)) (fun z => absurd z (Ne.symm ds.lt)) (fun _ => rfl)) (ep_isTold (j := 2) rfl (ht.odd g1) (Door.rlNo hns2) (fun z => absurd z (Ne.symm ds.rt)) (fun z => absurd z (Ne.symm ds.lt)) (fun _ => rfl)))
    · obtain ⟨p, zs, rfl, _, q2, q3, q4⟩ := h
      have ez := bls_of (f := fun _ => true) q3 q4
      rw [ez] at q2
      exact gv_all (ys := zs) _ q2 (by rw [all_range_true fun _ _ => rfl]; rfl)
end
end G

/-! _law_recipe_line, _law_lots_line, _law_number, _law_numbers. -/
namespace G
open PySem PySem.Spec PyProof.Rows L2 Evl Tp RZ TL L2X StX
section
variable {P : Program} {w : World} {K : PySem.W.Frag} {mg : Str → Option Value} {base : Heap} {f C CL CT CR : Addr} {fd : FuncData} {H : Hp} {σ : L2.St}
/-- two lists of texts put together -/
theorem ep_catS {ta tb : TE} {P1 : V → Hp → Prop} {xs : List Str} {Pq : V → Hp → Prop} (ha : EvL ta σ H (xs.map V.str)) (hb : ∀ H', Ex H H' → EvP tb σ H' P1) (h : ∀ v H', Ex H H' → P1 v H' → ∃ q, ∃ ys : List Str, v = .ref q ∧ H' q = some (.lst (ys.map V.str)) ∧ xs.length + ys.length ≤ 100000 ∧ ∀ p H'', H'' p = some (.lst ((xs ++ ys).map V.str)) → Pq (.ref p) H'') :
    EvP (tOp rCat ta tb) σ H Pq :=
  ep_op (P2 := fun x y H' => (∃ p, x = .ref p ∧ H' p = some (.lst (xs.map V.str))) ∧ P1 y H' ∧ Ex H H') (ep_ofL ha) (fun x H' e ⟨p, hx, _, hp⟩ => Gv.imp (hb H' e) fun v H'' e2 hv => ⟨⟨p, hx, e2 _ _ hp⟩, hv, e.trans e2⟩) fun x y H' e ⟨⟨p, hx, hp⟩, hy, e2⟩ => by
    obtain ⟨q, ys, rfl, hq, hl, hk⟩ := h y H' e2 hy
    subst hx
    exact fun H1 e1 Q qq => ⟨p, q, _, _, rfl, rfl, e1 _ _ hp, e1 _ _ hq, by rw [List.length_map, List.length_map, sizeLine_eq]; omega, fun r hr => qq _ _ _ (Step.new e1 hr) (hk r _ (by rw [upd_same, List.map_append]))⟩
/-! ### _law_recipe_line -/
abbrev nRn : List Str := ["_law_recipe_here", "_law_rows", "_law_row_here", "_law_block"]
theorem scRn : FnScope nRn ["_law_recipe_here"] (defScope (top 43)) := ⟨rfl, rfl, rfl, by decide +kernel, rfl, by decide +kernel, by decide +kernel⟩
def preRn (C : Addr) (q : Addr × Nat × List (List Nat)) (vs : List V) (H : Hp) : Prop := vs = [.ref q.1] ∧ RecL C H q.1 q.2.1 q.2.2 ∧ okN q.2.1 q.2.2
abbrev spRn (C : Addr) : Sp := spP (preRn C) (fun q v H => isStr (Pap.recText q.2.1 q.2.2) v H)
abbrev tNeed2 (K : PySem.W.Frag) (i j : Nat) : TE := tJoin K (tC (.str (" " : Str))) (tOp rCat (tLst (tCons (tC (.str ("needs" : Str))) tNil)) (tLc (iList K (tVar i)) (gName j) tYes (tStrI (tVar j)) [j]))
theorem ep_needs2 {i : Nat} {a : Addr} {ns : List Nat} {j : Nat} (h : Ev (tVar i) σ H (.ref a)) (ha : SqL K H a (ns.map nV)) (hz : ns.length ≤ 40000) (hn : ∀ n ∈ ns, n < 2 ^ 1000) (hj : j < σ.length) (hl : (Pap.needLine ns).length ≤ 1000000) : EvP (tNeed2 K i j) σ H (isStr (Pap.needLine ns)) := by
  refine ep_join (P1 := fun v H' => ∃ p, v = .ref p ∧ H' p = some (.lst (((("needs" : Str) :: ns.map nS)).map V.str))) ev_c (ep_catS (xs := [("needs" : Str)]) (P1 := fun v H' => ∃ p, v = .ref p ∧ H' p = some (.lst ((ns.map nS).map V.str))) (el_lst (ea_cons ev_c ea_nil) (by show 1 ≤ 100000; decide)) (fun H' e => Gv.imp (ep_strs (h.mono e) (ex_l e ha) hz hn hj) fun v H'' _ ⟨p, h1, _, h2⟩ => ⟨p, h1, h2⟩) fun v H' e hv => ?_) fun v H' e hv => ?_
  · obtain ⟨p, rfl, hp⟩ := hv
    exact ⟨p, _, rfl, hp, by show 1 + (ns.map nS).length ≤ 100000; rw [List.length_map]; omega, fun q H'' hq => ⟨q, rfl, hq⟩⟩
  · obtain ⟨p, rfl, hp⟩ := hv
    have em : (("needs" : Str) :: ns.map nS).map tl = Pap.cNeeds :: ns.map numL := by rw [List.map_cons, tl_nS, tNeeds]
    refine ⟨p, _, rfl, hp, join_ok (by rw [tSp, em]; exact hl) (by rw [tSp]; decide), _, rfl, ?_⟩
    rw [join_eq, tl_join, tSp, em]
    rfl
theorem ok_recipe_line (F : FnT K "_law_recipe_line" 43 f fd) (fr : Fr mg) : FnOk P w K mg base CX0 1 f fd ["_law_recipe_here"] (spRn C) := by
  refine okP F scRn (fun x vs H h => ?_) (fun cdv A outer s H1 vs E q H hr h => ?_)
  · obtain ⟨rfl, _⟩ := h
    rfl
  · obtain ⟨r, m, rows⟩ := q
    obtain ⟨rfl, hrec, hb⟩ := h
    have hrec : RecL C H r m rows := hrec
    have hb : okN m rows := hb
    obtain ⟨hb1, hb2, hb3, hb4⟩ := hb
    obtain ⟨pr, hre, hpr⟩ := hrec
    show ∃ t, PSs _ (defBody (top 43)) t ∧ Sv t (L2.start nRn [.ref r]) H _ (fun v H => isStr (Pap.recText m rows) v H)
    refine ⟨_, PSs.nox (pss_cons (ps_setLc (i := 1) (own := [("_law_row_here", 2)]) (g := gName 2) (tt := tYes) (te := tNeed2 K 2 3) rfl scRn.nd rfl rfl (sw_true rfl rfl rfl (by decide +kernel)) (pi_list (pe_ix ix_list (pv 0) pe_int (fun _ _ => rfl))) (blkOk_by (N := nRn) (sc := defScope (top 43)) (by decide +kernel)) (fun _ _ _ _ _ => pg_name (i := 2) scRn.nd rfl (Or.inl rfl)) (fun _ _ _ _ _ => pts_nil)
        (fun _ _ _ _ _ => pe_join pe_str (pe_op op_cat (pe_lst (pa_cons pe_str pa_nil)) (pe_lc (own := [("_law_block", 3)]) (g := gName 3) (tt := tYes) rfl scRn.nd (pi_list (pv 2)) (blkOk_by (N := nRn) (sc := cSc [(".0", .local), ("_law_row_here", .local)]) (by decide +kernel)) (fun _ _ _ _ _ => pg_name (i := 3) scRn.nd rfl (Or.inl rfl)) (fun _ _ _ _ _ => pts_nil)
          (fun _ _ _ _ _ => pe_callTy call_str_int rfl fr.str_ bt_str (pa_cons (pv 3) pa_nil))))))
      (pss_one (ps_ret (pe_join pe_str (pe_op op_cat (pe_lst (pa_cons (pe_op op_add_str pe_str (pe_callTy call_str_int rfl fr.str_ bt_str (pa_cons (pe_ix ix_list (pv 0) pe_int (fun _ _ => rfl)) pa_nil))) pa_nil)) (pv 1)))))), ?_⟩
    obtain ⟨rp, ys, epr, hry, hrl, hrow⟩ := LLx.get (C := C) (H := H) (rows := rows) (v := .ref pr) hpr.1
    cases epr
    have hl1 : (Pap.cOld ++ 32 :: numL m).length ≤ 1000000 := Nat.le_trans (join_part (S := [10]) (ps := Pap.recLines m rows) (by simp [Pap.recLines])) hb4
    refine sv_set (P := LcP H rows.length (fun i y _ => ∃ x, y = V.str x ∧ (rows.map Pap.needLine)[i]? = some (tl x))) ?_ fun v Ha ea hv => ?_
    · rw [← hrl]
      refine ep_lcL (xs := ys) (fun i y _ => ∃ x, y = V.str x ∧ (rows.map Pap.needLine)[i]? = some (tl x)) (fun _ _ _ _ _ h => h) (ev_op (ev_var rfl) ev_c (rv_ixL (i := 1) (sq_of hre) (atI_nat (j := 1) rfl))) (.inl hry) (by omega) (fun x => rfl) fun i x H2 e2 hx => ?_
      obtain ⟨r', b, hr1, rfl, hr3⟩ := hrow i x hx
      have hm := List.mem_of_getElem? hr1
      obtain ⟨k1, k2⟩ := hb2 r' hm
      have hnl : (Pap.needLine r').length ≤ 1000000 := Nat.le_trans (join_part (S := [10]) (ps := Pap.recLines m rows) (List.mem_cons_of_mem _ (List.mem_map_of_mem hm))) hb4
      exact Gv.imp (ep_needs2 (i := 2) (j := 3) (ev_var rfl) (.inl (rd_mono e2 hr3)) (by omega) k2 (by show 3 < 4; decide) hnl) fun v H3 e3 ⟨x, h1, h2⟩ => ⟨x, h1, by rw [List.getElem?_map, hr1, h2]; rfl⟩
    · obtain ⟨p, zs, rfl, _, q2, q3, q4⟩ := hv
      obtain ⟨xs, ex1, ex2⟩ := strs_of (ts := rows.map Pap.needLine) (by simp [q3]) q4
      rw [ex1] at q2
      have hxl : xs.length = rows.length := by have := congrArg List.length ex2; rw [List.length_map, List.length_map] at this; exact this
      have e1 : tl (("old " : Str) ++ nS m) = Pap.cOld ++ 32 :: numL m := by
        rw [tl_append, tOld, tl_num]
        simp
      have ev1 : Ev (tOp (fun x y H Q => ∃ i j : Str, x = .str i ∧ y = .str j ∧ i.length + j.length ≤ sizeLine ∧ Q (.str (i ++ j)) H) (tC (.str ("old " : Str))) (tStrI (tOp (rIxL K) (tVar 0) (tC (.int 0))))) ((L2.start nRn [.ref r]).set 1 (some (.ref p))) Ha (.str (("old " : Str) ++ nS m)) :=
        ev_op ev_c (ev_str (ev_op (ev_var rfl) ev_c (rv_ixL (i := 0) (sq_of (ea _ _ hre)) (atI_nat (j := 0) rfl))) hb1) fun H1 e Q q => ⟨_, _, rfl, rfl, by
          rw [len_tl, len_tl, tl_num, tOld, sizeLine_eq]
          rw [List.length_append, List.length_cons] at hl1
          rw [List.length_append, List.length_singleton]
          omega, q H1 (Ex.refl _)⟩
      have em : ((("old " : Str) ++ nS m) :: xs).map tl = Pap.recLines m rows := by rw [List.map_cons, e1, ex2]; rfl
      refine sv_ret (ep_join (P1 := fun v H' => ∃ q, v = .ref q ∧ H' q = some (.lst (((("old " : Str) ++ nS m) :: xs).map V.str))) ev_c (ep_catS (xs := [("old " : Str) ++ nS m]) (P1 := Eqv (.ref p)) (el_lst (ea_cons ev1 ea_nil) (by show 1 ≤ 100000; decide)) (fun H' e => ep_of (ev_var rfl)) fun v H' e hv => ?_) fun v H' e hv => ?_)
      · exact ⟨p, xs, hv, e _ _ q2, by show 1 + xs.length ≤ 100000; omega, fun q H'' hq => ⟨q, rfl, hq⟩⟩
      · obtain ⟨q, rfl, hq⟩ := hv
        obtain ⟨k1, k2⟩ := rec_join em hb4
        exact ⟨q, _, rfl, hq, k1, _, rfl, k2⟩
/-! ### _law_lots_line -/
theorem scLn : FnScope ["_law_lots", "_law_lot", "_law_block"] ["_law_lots"] (defScope (top 44)) := ⟨rfl, rfl, rfl, by decide +kernel, rfl, by decide +kernel, by decide +kernel⟩
def preLn (C : Addr) (rs : List (List Nat)) (vs : List V) (H : Hp) : Prop := ∃ v, vs = [v] ∧ LLx C H rs v ∧ okL rs
abbrev spLn (C : Addr) : Sp := spP (preLn C) (fun rs v H => isStr (Pap.lotsText rs) v H)
abbrev tLine2 (K : PySem.W.Frag) (i j : Nat) : TE := tIf (tTest (tOp (rNeD K) (tVar i) (tLst tNil))) (tJoin K (tC (.str (" " : Str))) (tLc (iList K (tVar i)) (gName j) tYes (tStrI (tVar j)) [j])) (tC (.str ("-" : Str)))
theorem ep_line2 {i j : Nat} {a : Addr} {ns : List Nat} (hi : σ[i]? = some (some (.ref a))) (ha : SqL K H a (ns.map nV)) (hz : ns.length ≤ 30000) (hn : ∀ n ∈ ns, n < 2 ^ 1000) (hl : (Pap.lineOf ns).length ≤ 1000000) (hj : j < σ.length) : EvP (tLine2 K i j) σ H (isStr (Pap.lineOf ns)) := by
  refine ep_if (et_test (ev_neE (ev_var hi) ha)) (fun hne => ?_) fun he => ep_ofP ev_c ⟨_, rfl, ?_⟩
  · have hns : ns ≠ [] := by intro z; subst z; cases hne
    have elo : Pap.lineOf ns = joinL [32] (ns.map numL) := by rw [Pap.lineOf, if_neg hns]
    refine ep_join ev_c (ep_strs (ev_var hi) ha (by omega) hn hj) fun v H' e hv => ?_
    obtain ⟨p, rfl, _, hp⟩ := hv
    have ej : tl (Txt.join (" " : Str) (ns.map nS)) = Pap.lineOf ns := by
      rw [join_eq, tl_join, tSp, tl_nS, elo]
    exact ⟨p, _, rfl, hp, join_ok (by rw [tSp, tl_nS, ← elo]; exact hl) (by rw [tSp]; decide), _, rfl, ej⟩
  · have hns : ns = [] := by cases ns with | nil => rfl | cons => cases he
    subst hns
    rw [tDash]
    rfl
theorem ok_lots_line (F : FnT K "_law_lots_line" 44 f fd) (fr : Fr mg) : FnOk P w K mg base CX0 1 f fd ["_law_lots"] (spLn C) := by
  refine okP F scLn (fun x vs H h => ?_) (fun cdv A outer s H1 vs E rs H hr h => ?_)
  · obtain ⟨v, rfl, _⟩ := h
    rfl
  · obtain ⟨v, rfl, hv, b1, b2, b3⟩ := h
    obtain ⟨p, ys, rfl, h2, hl, hrow⟩ := hv.get
    refine ⟨_, PSs.nox (pss_one (ps_ret (pe_join pe_str (pe_lc (own := [("_law_lot", 1)]) (g := gName 1) (tt := tYes) (te := tLine2 K 1 2) rfl scLn.nd (pi_list (pv 0)) (blkOk_by (N := ["_law_lots", "_law_lot", "_law_block"]) (sc := defScope (top 44)) (by decide +kernel)) (fun _ _ _ _ _ => pg_name (i := 1) scLn.nd rfl (Or.inl rfl)) (fun _ _ _ _ _ => pts_nil)
      (fun _ _ _ _ _ => pe_ifExp (pt_cmpR (op_neD hr.units) (pv 1) (pe_lst pa_nil) (nomark _)) (pe_join pe_str (pe_lc (own := [("_law_block", 2)]) (g := gName 2) (tt := tYes) rfl scLn.nd (pi_list (pv 1)) (blkOk_by (N := ["_law_lots", "_law_lot", "_law_block"]) (sc := cSc [(".0", .local), ("_law_lot", .local)]) (by decide +kernel)) (fun _ _ _ _ _ => pg_name (i := 2) scLn.nd rfl (Or.inl rfl)) (fun _ _ _ _ _ => pts_nil)
        (fun _ _ _ _ _ => pe_callTy call_str_int rfl fr.str_ bt_str (pa_cons (pv 2) pa_nil)))) pe_str))))), ?_⟩
    refine sv_ret (ep_join ev_c (ep_lcL (fun i y _ => ∃ x, y = V.str x ∧ (rs.map Pap.lineOf)[i]? = some (tl x)) (fun _ _ _ _ _ h => h) (ev_var rfl) (.inl h2) (by omega) (fun x => rfl) fun i x H' e hx => ?_) fun v H' e hv => ?_)
    · obtain ⟨r, a, hr1, rfl, ha⟩ := hrow i x hx
      have hm := List.mem_of_getElem? hr1
      obtain ⟨k1, k2⟩ := b1 r hm
      have hlr : (Pap.lineOf r).length ≤ 1000000 := Nat.le_trans (join_part (S := [10]) (ps := rs.map Pap.lineOf) (List.mem_map_of_mem hm)) b3
      exact Gv.imp (ep_line2 (i := 1) (j := 2) rfl (.inl (rd_mono e ha)) k1 k2 hlr (by show 2 < 3; decide)) fun v H3 e3 ⟨x, h1, h2⟩ => ⟨x, h1, by rw [List.getElem?_map, hr1, h2]; rfl⟩
    · obtain ⟨q, zs, rfl, _, q2, q3, q4⟩ := hv
      obtain ⟨xs, ex1, ex2⟩ := strs_of (ts := rs.map Pap.lineOf) (by simp [q3, hl]) q4
      rw [ex1] at q2
      refine ⟨q, xs, rfl, q2, join_ok (by rw [tNl, ex2]; exact b3) (by rw [tNl]; decide), _, rfl, ?_⟩
      rw [join_eq, tl_join, tNl, ex2]
      rfl
/-! ### _law_number -/
theorem scNu : FnScope ["_law_piece", "_law_sign"] ["_law_piece"] (defScope (top 45)) := ⟨rfl, rfl, rfl, by decide +kernel, rfl, by decide +kernel, by decide +kernel⟩
def preNu (x : Str) (vs : List V) (_ : Hp) : Prop := vs = [.str x] ∧ (tl x).length ≤ 30000
def oN : Option Nat → V
  | none => .non
  | some n => nV n
abbrev spNu : Sp := spP preNu (fun x v _ => v = oN (Pap.lNum (tl x)))
theorem ok_number (F : FnT K "_law_number" 45 f fd) (fr : Fr mg) : FnOk P w K mg base CX0 1 f fd ["_law_piece"] spNu := by
  refine okP F scNu (fun x vs H h => ?_) (fun cdv A outer s H1 vs E x H hr h => ?_)
  · obtain ⟨rfl, _⟩ := h
    rfl
  · obtain ⟨rfl, hz⟩ := h
    refine ⟨_, PSs.nox (pss_cons (ps_if (PW.pt (pw_or (pt_cmpR op_eq (pv 0) pe_str (nomark _)) (pw_or (pt_not (pt_val (pe_callB (cr_all rfl) rfl fr.all_ bt_all (pa_cons (pe_lc (own := [("_law_sign", 1)]) (g := gName 1) (tt := tYes) rfl scNu.nd (pi_str (pv 0))
          (blkOk_by (N := ["_law_piece", "_law_sign"]) (sc := defScope (top 45)) (by decide +kernel)) (fun _ _ _ _ _ => pg_name (i := 1) scNu.nd rfl (Or.inl rfl)) (fun _ _ _ _ _ => pts_nil) (fun _ _ _ _ _ => pe_cmpR op_in_sign (pv 1) pe_str rfl)) pa_nil))))
        (pw_or1 (pt_cmpR op_gt (pe_callB call_len_str rfl fr.len_ bt_len (pa_cons (pv 0) pa_nil)) pe_int (nomark _)))))) (pss_one (ps_ret pe_non)) pss_nil)
      (pss_one (ps_ret (pe_ifExp (PW.pt (pw_or (pt_cmpR op_eq (pv 0) pe_str (nomark _)) (pw_or1 (pt_cmpR op_ne (pe_ix ix_str (pv 0) pe_int (fun _ _ => rfl)) pe_str (nomark _))))) (pe_callTy call_int_str rfl fr.int_ bt_int (pa_cons (pv 0) pa_nil)) pe_non)))), ?_⟩
    have ev1 : Ev (tOp rEq (tVar 0) (tC (.str ("" : Str)))) (L2.start ["_law_piece", "_law_sign"] [.str x]) H (.bl (tl x).isEmpty) := ev_eqS (ev_var rfl) ev_c (by rw [show tl ("" : Str) = [] by decide +kernel]; cases tl x <;> rfl)
    have ev2 := EvP.ev (ep_digits (K := K) (σ := L2.start ["_law_piece", "_law_sign"] [.str x]) (H := H) (i := 0) (j := 1) (x := x) rfl (by decide) (by show 1 < 2; decide) hz)
    have ev3 : Ev (tOp (rI0 fun i j => .bl (decide (j < i))) (tCB (fun xs H Q => ∃ z, xs = [.str z] ∧ z.length ≤ sizeLine ∧ Q (.int z.length) H) (tCons (tVar 0) tNil)) (tC (.int 30))) (L2.start ["_law_piece", "_law_sign"] [.str x]) H (.bl (decide (30 < (tl x).length))) := by
      have := ev_op (σ := L2.start ["_law_piece", "_law_sign"] [.str x]) (H := H) (ta := tCB (fun xs H Q => ∃ z, xs = [.str z] ∧ z.length ≤ sizeLine ∧ Q (.int z.length) H) (tCons (tVar 0) tNil)) (tb := tC (.int 30))
        (ev_cb (ea_cons (ev_var rfl) ea_nil) fun H1 e Q q => ⟨x, rfl, by rw [len_tl, sizeLine_eq]; omega, q H1 (Ex.refl _)⟩) ev_c (rv_I0 (g := fun i j => .bl (decide (j < i))))
      have e : decide ((30 : Int) < ((x.length : Nat) : Int)) = decide (30 < (tl x).length) := decide_eq_decide.mpr (by rw [len_tl]; omega)
      rw [e] at this
      exact this
    have ev := et_or (et_test ev1) fun _ => et_or (et_not (et_B ev2)) fun _ => et_test ev3
    by_cases hb : Pap.numP (tl x) = true ∧ (tl x).length ≤ 30
    · have eb : ((tl x).isEmpty || (!((tl x).all Pap.isD) || decide (30 < (tl x).length))) = false := by
        obtain ⟨h1, h2⟩ := hb
        unfold Pap.numP at h1
        rw [Bool.and_eq_true_iff] at h1
        rw [h1.2, show (tl x).isEmpty = false by simpa using h1.1, decide_eq_false (by omega)]
        rfl
      rw [eb] at ev
      refine sv_when ev (fun z => nomatch z) fun _ => sv_ret ?_
      obtain ⟨n1, n2⟩ := Pap.numP_iff.mp hb.1
      obtain ⟨c, r, hcr⟩ : ∃ c r, tl x = c :: r := by
        cases h : tl x with
        | nil => exact absurd h n1
        | cons c r => exact ⟨c, r, rfl⟩
      have ev4 : Ev (tOp rEq (tVar 0) (tC (.str ("0" : Str)))) (L2.start ["_law_piece", "_law_sign"] [.str x]) H (.bl (decide (tl x = [48]))) := ev_eqS (ev_var rfl) ev_c (by rw [show tl ("0" : Str) = [48] by decide +kernel])
      have ev5 : Ev (tOp rNe (tOp rIxS (tVar 0) (tC (.int 0))) (tC (.str ("0" : Str)))) (L2.start ["_law_piece", "_law_sign"] [.str x]) H (.bl (!((tl x).head? == some 48))) :=
        ev_neS (x := ⟨#[c]⟩) (ev_op (ev_var rfl) ev_c (rv_ixS (i := 0) (c := c) (by rw [len_tl]; omega) (by show atI (tl x) ((0 : Nat) : Int) = some c; rw [hcr]; exact atI_nat rfl))) ev_c (by
          rw [show tl ("0" : Str) = [48] by decide +kernel, show tl (⟨#[c]⟩ : Str) = [c] from rfl, hcr]
          by_cases hc : c = 48
          · subst hc; rfl
          · rw [decide_eq_false (by simpa using hc)]
            simp [hc])
      have evn := et_or (et_test ev4) fun _ => et_test ev5
      have enl : (decide (tl x = [48]) || !((tl x).head? == some 48)) = Pap.noLead (tl x) := rfl
      rw [enl] at evn
      refine ep_if evn (fun hn => ?_) fun hn => ep_ofP ev_c ?_
      · have hint := intText_digits (x := x) n2 n1 (by rw [len_tl]; omega)
        refine fun H3 e3 Q q => ⟨.str x, rfl, x, _, rfl, hint, by rw [len_tl]; omega, q _ H H3 (Step.refl e3) ?_⟩
        rw [Pap.lNum, if_pos hb, if_pos hn]
        rfl
      · rw [Pap.lNum, if_pos hb, if_neg (by rw [hn]; decide)]
        rfl
    · have eb : ((tl x).isEmpty || (!((tl x).all Pap.isD) || decide (30 < (tl x).length))) = true := by
        unfold Pap.numP at hb
        cases h1 : (tl x).isEmpty with
        | true => rfl
        | false =>
          cases h2 : (tl x).all Pap.isD with
          | false => rfl
          | true =>
            rw [h1, h2] at hb
            rw [decide_eq_true (by have : ¬ (tl x).length ≤ 30 := fun z => hb ⟨rfl, z⟩; omega)]
            rfl
      rw [eb] at ev
      refine sv_when ev (fun _ => sv_ret (ep_ofP ev_c ?_)) (fun z => nomatch z)
      rw [Pap.lNum, if_neg hb]
      rfl
end
end G

/-! _law_numbers, _law_lots_in. -/
namespace G
open PySem PySem.Spec PyProof.Rows L2 Evl Tp RZ TL L2X StX
section
variable {P : Program} {w : World} {K : PySem.W.Frag} {mg : Str → Option Value} {base : Heap} {f C CL CT CR : Addr} {fd : FuncData} {H : Hp} {σ : L2.St}
abbrev rNon : R2 := fun x y H Q => y = .non ∧ Q (.bl (decide (x = .non))) H
/-- any([x is None for x in xs]) -/
theorem ep_anyNone {tl' : TE} {a : Addr} {xs : List V} {j : Nat} (h : Ev tl' σ H (.ref a)) (ha : SqL K H a xs) (hz : xs.length ≤ 40000) (hj : j < σ.length) :
    EvP (tCB (rAny K) (tCons (tLc (iList K tl') (gName j) tYes (tOp rNon (tVar j) (tC .non)) [j]) tNil)) σ H (Eqv (.bl (xs.any fun x => decide (x = .non)))) := by
  have hw : ∀ x, wipe ((wipe σ [j]).set j (some x)) [j] = wipe σ [j] := fun x => by
    show ((σ.set j none).set j (some x)).set j none = σ.set j none
    rw [List.set_set, List.set_set]
  have gj : ∀ x, ((wipe σ [j]).set j (some x))[j]? = some (some x) := fun x => by
    show ((σ.set j none).set j (some x))[j]? = _
    rw [List.set_set, List.getElem?_set_self hj]
  refine ep_cb1 (ep_lcL (fun i y _ => ∃ b, (xs.map fun x => decide (x = .non))[i]? = some b ∧ y = V.bl b) (fun _ _ _ _ _ h => h) h ha hz hw fun i x H' e hx => ?_) fun v H' e h => ?_
  · exact fun H1 e1 Q q => ⟨x, gj _, rfl, q _ H' H1 (Step.refl e1) ⟨decide (x = .non), by rw [List.getElem?_map, hx]; rfl, rfl⟩⟩
  · obtain ⟨p, ys, rfl, _, k2, k3, k4⟩ := h
    have ez := bls_ofL (bs := xs.map fun x => decide (x = .non)) (by rw [List.length_map]; omega) k4
    rw [ez] at k2
    refine fun H1 e1 Q q => ⟨p, _, rfl, .inl (.inl (e1 _ _ k2)), q _ H' H1 (Step.refl e1) ?_⟩
    show V.bl _ = V.bl _
    rw [List.any_map]
    rfl
/-! ### _law_numbers -/
abbrev nNs : List Str := ["_law_pieces", "_law_found", "_law_piece", "_law_late", "_law_at"]
theorem scNs : FnScope nNs ["_law_pieces"] (defScope (top 46)) := ⟨rfl, rfl, rfl, by decide +kernel, rfl, by decide +kernel, by decide +kernel⟩
def preNs (K : PySem.W.Frag) (ps : List Str) (vs : List V) (H : Hp) : Prop := ∃ a, vs = [.ref a] ∧ SqL K H a (ps.map V.str) ∧ ps.length ≤ 30000 ∧ ∀ p ∈ ps, (tl p).length ≤ 30000
abbrev spNs (K : PySem.W.Frag) : Sp := spP (preNs K) (fun ps v H => ONs (Pap.lNums (ps.map tl)) v H)
theorem oN_non (o : Option Nat) : decide (oN o = V.non) = o.isNone := by cases o <;> rfl
theorem any_oN : ∀ os : List (Option Nat), ((os.map oN).any fun x => decide (x = .non)) = (Pap.allSome os).isNone
  | [] => rfl
  | o :: os => by
    rw [List.map_cons, List.any_cons, any_oN os, oN_non]
    cases o with
    | none => rfl
    | some n =>
      show (false || _) = _
      rw [Bool.false_or]
      cases h : Pap.allSome os with
      | none =>
        have : Pap.allSome (some n :: os) = none := Pap.allSome_none.mpr (List.mem_cons_of_mem _ (Pap.allSome_none.mp h))
        rw [this]
      | some r =>
        have : Pap.allSome (some n :: os) = some (n :: r) := by
          rw [Pap.allSome_some h]
          exact Pap.allSome_map (n :: r)
        rw [this]
        rfl
theorem ok_law_numbers (F : FnT K "_law_numbers" 46 f fd) (KN : Kp P w K mg base CX0 1 "_law_number" ["_law_piece"] spNu) (fr : Fr mg) : FnOk P w K mg base CX0 2 f fd ["_law_pieces"] (spNs K) := by
  refine okP F scNs (fun x vs H h => ?_) (fun cdv A outer s H1 vs E ps H hr h => ?_)
  · obtain ⟨a, rfl, _⟩ := h
    rfl
  · obtain ⟨a, rfl, ha, hz, hlen⟩ := h
    refine ⟨_, PSs.nox (pss_cons (ps_set (i := 1) scNs.nd rfl (.inr rfl) (pe_lc (own := [("_law_piece", 2)]) (g := gName 2) (tt := tYes) rfl scNs.nd (pi_list (pv 0)) (blkOk_by (N := nNs) (sc := defScope (top 46)) (by decide +kernel)) (fun _ _ _ _ _ => pg_name (i := 2) scNs.nd rfl (Or.inl rfl)) (fun _ _ _ _ _ => pts_nil)
        (fun _ _ _ _ _ => pe_cl KN hr (pa_cons (pv 2) pa_nil))))
      (pss_cons (ps_if (PW.pt (pw_or (pt_val (pe_callB (cr_any rfl) rfl fr.any_ bt_any (pa_cons (pe_lc (own := [("_law_late", 3)]) (g := gName 3) (tt := tYes) rfl scNs.nd (pi_list (pv 1)) (blkOk_by (N := nNs) (sc := defScope (top 46)) (by decide +kernel)) (fun _ _ _ _ _ => pg_name (i := 3) scNs.nd rfl (Or.inl rfl)) (fun _ _ _ _ _ => pts_nil)
          (fun _ _ _ _ _ => pe_cmpR op_isN (pv 3) pe_non (nomark _))) pa_nil)))
        (pw_or1 (pt_not (pt_val (pe_callB (cr_all rfl) rfl fr.all_ bt_all (pa_cons (pe_lc (own := [("_law_at", 4)]) (g := gName 4) (tt := tYes) rfl scNs.nd (pi_range2 rfl fr.range_ (pa_cons pe_int (pa_cons (pe_callB call_len_seq rfl fr.len_ bt_len (pa_cons (pv 1) pa_nil)) pa_nil))) (blkOk_by (N := nNs) (sc := defScope (top 46)) (by decide +kernel))
          (fun _ _ _ _ _ => pg_name (i := 4) scNs.nd rfl (Or.inl rfl)) (fun _ _ _ _ _ => pts_nil) (fun _ _ _ _ _ => pe_cmpR op_lt (pe_ix (r := rIxL K) ix_list (pv 1) (pe_op op_sub (pv 4) pe_int) (fun _ _ => rfl)) (pe_ix (r := rIxL K) ix_list (pv 1) (pv 4) (fun _ _ => rfl)) (nomark _))) pa_nil))))))) (pss_one (ps_ret pe_non)) pss_nil)
      (pss_one (ps_ret (pv 1))))), ?_⟩
    refine sv_set (P := fun v H' => ∃ p, v = .ref p ∧ H' p = some (.lst ((ps.map fun p => Pap.lNum (tl p)).map oN))) (Gv.imp (ep_lcL (fun i y _ => ∃ p, ps[i]? = some p ∧ y = oN (Pap.lNum (tl p))) (fun _ _ _ _ _ h => h) (ev_var rfl) ha (by rw [List.length_map]; omega) (fun x => rfl) fun i x H' e hx => ?_) fun v H' e h => ?_) fun v Ha ea hv => ?_
    · rw [List.getElem?_map] at hx
      obtain ⟨p, hp, rfl⟩ := Option.map_eq_some_iff.mp hx
      exact ep_callA (ea_cons (ev_var rfl) ea_nil) (gv_spP p ⟨rfl, hlen p (List.mem_of_getElem? hp)⟩ fun v H4 e4 hv => ⟨p, hp, hv⟩)
    · obtain ⟨p, ys, rfl, _, h2, h3, h4⟩ := h
      refine ⟨p, rfl, ?_⟩
      rw [h2]
      congr 2
      rw [List.length_map] at h3
      refine List.ext_getElem? fun i => ?_
      by_cases hi : i < ys.length
      · have q : ys[i]? = some ys[i] := List.getElem?_eq_getElem hi
        obtain ⟨p', k1, k2⟩ := h4 i _ q
        rw [q, k2, List.getElem?_map, List.getElem?_map, k1]
        rfl
      · rw [List.getElem?_eq_none (by omega), List.getElem?_eq_none (by simp; omega)]
    · obtain ⟨p, rfl, hp⟩ := hv
      have em : (ps.map fun p => Pap.lNum (tl p)) = (ps.map tl).map Pap.lNum := by rw [List.map_map]; rfl
      have evN := et_B (EvP.ev (ep_anyNone (K := K) (σ := (L2.start nNs [.ref a]).set 1 (some (.ref p))) (H := Ha) (tl' := tVar 1) (j := 3) (ev_var rfl) (sq_of hp) (by rw [List.length_map, List.length_map]; omega) (by show 3 < 5; decide)))
      rw [any_oN, em] at evN
      unfold Pap.lNums
      cases hs : Pap.allSome ((ps.map tl).map Pap.lNum) with
      | none =>
        rw [hs] at evN
        exact sv_when (b := true) (et_is (et_or (b := true) evN fun z => nomatch z) rfl) (fun _ => sv_ret (ep_ofP ev_c rfl)) (fun z => nomatch z)
      | some ns =>
        rw [hs] at evN
        have hp' : Ha p = some (.lst (ns.map nV)) := by
          rw [hp, em, Pap.allSome_some hs, List.map_map]
          rfl
        have hnl : ns.length = ps.length := by have := allSome_len hs; rw [List.length_map, List.length_map] at this; exact this.symm
        have evR := et_not (et_B (EvP.ev (ep_rise (K := K) (σ := (L2.start nNs [.ref a]).set 1 (some (.ref p))) (H := Ha) (i := 1) (j := 4) (ns := ns) rfl (by decide) (by show 4 < 5; decide) (sq_of hp') (by omega))))
        show Sv _ _ _ _ (fun v H => ONs (if Pap.rising ns = true then some ns else none) v H)
        by_cases hri : Pap.rising ns = true
        · rw [hri] at evR
          refine sv_when (b := false) (et_is (et_or evN fun _ => evR) rfl) (fun z => nomatch z) fun _ => sv_ret (ep_var rfl ?_)
          rw [if_pos hri]
          exact ⟨p, rfl, hp'⟩
        · have hri' : Pap.rising ns = false := by simpa using hri
          rw [hri'] at evR
          refine sv_when (b := true) (et_is (et_or evN fun _ => evR) rfl) (fun _ => sv_ret (ep_ofP ev_c ?_)) (fun z => nomatch z)
          rw [if_neg hri]
          rfl
/-! ### _law_lots_in -/
abbrev nLi : List Str := ["_law_text", "_law_rows", "_law_line", "_law_row_here"]
theorem scLi2 : FnScope nLi ["_law_text"] (defScope (top 48)) := ⟨rfl, rfl, rfl, by decide +kernel, rfl, by decide +kernel, by decide +kernel⟩
def preTx2 (x : Str) (vs : List V) (_ : Hp) : Prop := vs = [.str x] ∧ (tl x).length ≤ 2000
/-- a list of the rows that can be written, or none -/
def ORows (C : Addr) (o : Option (List (List Nat))) (v : V) (H : Hp) : Prop := match o with
  | none => v = .non
  | some rs => Tr C (rowsD (natR rs)) v H
abbrev spLi2 (C : Addr) : Sp := spP preTx2 (fun x v H => ORows C (Pap.lLots (tl x)) v H)
theorem on_non {o : Option (List Nat)} {v : V} {H : Hp} (h : ONs o v H) : decide (v = V.non) = o.isNone := by
  cases o with
  | none => cases (show v = .non from h); rfl
  | some ns =>
    obtain ⟨p, rfl, _⟩ := h
    rfl
/-- the items of a list that may be none -/
theorem any_ons {os : List (Option (List Nat))} {zs : List V} (hl : zs.length = os.length) (h : ∀ (i : Nat) (y : V), zs[i]? = some y → ∃ o, os[i]? = some o ∧ ONs o y H) : (zs.any fun x => decide (x = .non)) = (Pap.allSome os).isNone := by
  cases hs : Pap.allSome os with
  | none =>
    have hm := Pap.allSome_none.mp hs
    obtain ⟨i, hi⟩ := List.getElem?_of_mem hm
    have hi2 : i < zs.length := by rw [hl]; exact (List.getElem?_eq_some_iff.mp hi).1
    obtain ⟨o, k1, k2⟩ := h i zs[i] (List.getElem?_eq_getElem hi2)
    rw [hi] at k1
    cases k1
    exact List.any_eq_true.mpr ⟨zs[i], List.getElem_mem hi2, on_non k2⟩
  | some rs =>
    have e := Pap.allSome_some hs
    refine List.any_eq_false.mpr fun y hy => ?_
    obtain ⟨i, hi⟩ := List.getElem?_of_mem hy
    obtain ⟨o, k1, k2⟩ := h i y hi
    rw [e, List.getElem?_map] at k1
    cases hr : rs[i]? with
    | none => rw [hr] at k1; cases k1
    | some r =>
      rw [hr] at k1
      have eo : some r = o := Option.some.inj k1
      subst eo
      rw [on_non k2]
      exact Bool.false_ne_true
theorem rows_tr {rs : List (List Nat)} {p : Addr} {zs : List V} (hp : H p = some (.lst zs)) (hl : zs.length = (rs.map some).length) (h : ∀ (i : Nat) (y : V), zs[i]? = some y → ∃ o, (rs.map some)[i]? = some o ∧ ONs o y H) : Tr C (rowsD (natR rs)) (.ref p) H := by
  refine LLx.tr (LLx.of (.inl hp) (by rw [hl, List.length_map]) fun i r y hr hy => ?_) ⟨p, zs, rfl, hp⟩
  obtain ⟨o, k1, k2⟩ := h i y hy
  rw [List.getElem?_map, hr] at k1
  have eo : some r = o := Option.some.inj k1
  subst eo
  obtain ⟨b, j1, j2⟩ := k2
  exact ⟨b, j1, .inl j2⟩
theorem ok_lots_in (F : FnT K "_law_lots_in" 48 f fd) (KN : Kp P w K mg base CX0 2 "_law_numbers" ["_law_pieces"] (spNs K)) (fr : Fr mg) : FnOk P w K mg base CX0 3 f fd ["_law_text"] (spLi2 C) := by
  refine okP F scLi2 (fun x vs H h => ?_) (fun cdv A outer s H1 vs E z H hr h => ?_)
  · obtain ⟨rfl, _⟩ := h
    rfl
  · obtain ⟨rfl, hlen⟩ := h
    refine ⟨_, PSs.nox (pss_cons (ps_set (i := 1) scLi2.nd rfl (.inl rfl) (pe_ifExp (pt_cmpR op_ne (pv 0) pe_str (nomark _))
        (pe_lc (own := [("_law_line", 2)]) (g := gName 2) (tt := tYes) rfl scLi2.nd (pi_list (pe_split (pv 0) pe_str)) (blkOk_by (N := nLi) (sc := defScope (top 48)) (by decide +kernel)) (fun _ _ _ _ _ => pg_name (i := 2) scLi2.nd rfl (Or.inl rfl)) (fun _ _ _ _ _ => pts_nil)
          (fun _ _ _ _ _ => pe_ifExp (pt_cmpR op_eq (pv 2) pe_str (nomark _)) (pe_lst pa_nil) (pe_cl KN hr (pa_cons (pe_split (pv 2) pe_str) pa_nil)))) (pe_lst pa_nil)))
      (pss_one (ps_ret (pe_ifExp (pt_val (pe_callB (cr_any rfl) rfl fr.any_ bt_any (pa_cons (pe_lc (own := [("_law_row_here", 3)]) (g := gName 3) (tt := tYes) rfl scLi2.nd (pi_list (pv 1)) (blkOk_by (N := nLi) (sc := defScope (top 48)) (by decide +kernel)) (fun _ _ _ _ _ => pg_name (i := 3) scLi2.nd rfl (Or.inl rfl)) (fun _ _ _ _ _ => pts_nil)
          (fun _ _ _ _ _ => pe_cmpR op_isN (pv 3) pe_non (nomark _))) pa_nil))) pe_non (pv 1))))), ?_⟩
    have hsc := split_cut (x := z) (y := ("\n" : Str)) (s := 10) (by decide +kernel) (by decide +kernel)
    have hcl := cut_len 10 (tl z)
    have hlen2 : (Txt.split z ("\n" : Str)).length = (Pap.cut 10 (tl z)).length := by rw [← hsc, List.length_map]
    have evne : ∀ b, (!(decide (tl z = []))) = b → EvT (tTest (tOp rNe (tVar 0) (tC (.str ("" : Str))))) (L2.start nLi [.str z]) H b := fun b hb => et_test (ev_neS (ev_var rfl) ev_c (by rw [show tl ("" : Str) = [] by decide +kernel]; exact hb))
    refine sv_set (P := fun v H' => ∃ p zs, v = .ref p ∧ H' p = some (.lst zs) ∧ zs.length = (Pap.linesOf (tl z)).length ∧ ∀ (i : Nat) (y : V), zs[i]? = some y → ∃ o, ((Pap.linesOf (tl z)).map Pap.lLot)[i]? = some o ∧ ONs o y H') ?_ fun v Ha ea hv => ?_
    · by_cases h0 : tl z = []
      · refine ep_if (evne false (by rw [decide_eq_true h0]; rfl)) (fun z => nomatch z) fun _ => Gv.imp (ep_ofL (el_lst ea_nil (by decide))) fun v H' e' ⟨p, h1, h2, h3⟩ => ?_
        refine ⟨p, [], h1, h3, by rw [Pap.linesOf, if_pos h0]; rfl, fun i y hy => by simp at hy⟩
      · refine ep_if (evne true (by rw [decide_eq_false h0]; rfl)) (fun _ => ?_) (fun z => nomatch z)
        have eL : Pap.linesOf (tl z) = Pap.cut 10 (tl z) := by rw [Pap.linesOf, if_neg h0]
        have hit : ∀ (i : Nat) (v : V), ((Txt.split z ("\n" : Str)).map V.str)[i]? = some v → ∃ l, v = V.str l ∧ (Pap.cut 10 (tl z))[i]? = some (tl l) := fun i v hv => by
          rw [List.getElem?_map] at hv
          obtain ⟨l, hl, rfl⟩ := Option.map_eq_some_iff.mp hv
          exact ⟨l, rfl, by rw [← hsc, List.getElem?_map, hl]; rfl⟩
        refine Gv.imp (ep_lcN (xs := (Txt.split z ("\n" : Str)).map V.str) (P1 := NewL H ((Txt.split z ("\n" : Str)).map V.str)) (fun i y H' => ∃ l, (Pap.cut 10 (tl z))[i]? = some l ∧ ONs (Pap.lLot l) y H') (fun i v A B e ⟨l, k1, k2⟩ => ⟨l, k1, k2.mono e⟩)
          (ep_ofL (el_split (ev_var rfl) ev_c (by decide +kernel) (by omega))) (fun v H' e' ⟨a, k1, k2, k3⟩ => ⟨a, k1, sq_of k3, by rw [List.length_map]; omega⟩) (fun x => rfl) fun i v w H' e' hw hv H'' e'' => ?_) fun v H' e' ⟨p, zs, h1, h2, h3, h4, h5⟩ => ⟨p, zs, h1, h3, by rw [eL, h4, List.length_map]; exact hlen2, fun i y hy => by
            obtain ⟨l, k1, k2⟩ := h5 i y hy
            exact ⟨_, by rw [eL, List.getElem?_map, k1]; rfl, k2⟩⟩
        obtain ⟨l, rfl, hl⟩ := hit i v hv
        have hm := List.mem_of_getElem? hl
        have hcp := cut_part hm
        have evd : ∀ b, decide (tl l = [45]) = b → EvT (tTest (tOp rEq (tVar 2) (tC (.str ("-" : Str))))) ((wipe (L2.start nLi [.str z]) [2]).set 2 (some (.str l))) H'' b := fun b hb => et_test (ev_eqS (ev_var rfl) ev_c (by rw [tDash]; exact hb))
        by_cases hd : tl l = [45]
        · refine ep_if (evd true (decide_eq_true hd)) (fun _ => Gv.imp (ep_ofL (el_lst ea_nil (by decide))) fun v H' e' ⟨p, h1, h2, h3⟩ => ⟨_, hl, ?_⟩) (fun z => nomatch z)
          rw [Pap.lLot, if_pos hd]
          exact ⟨p, h1, h3⟩
        · have hs2 := split_cut (x := l) (y := (" " : Str)) (s := 32) (by decide +kernel) (by decide +kernel)
          have hc2 := cut_len 32 (tl l)
          refine ep_if (evd false (decide_eq_false hd)) (fun z => nomatch z) fun _ => ep_call1 (ep_ofL (el_split (ev_var rfl) ev_c (by decide +kernel) (by omega))) fun v H3 e3 hv => ?_
          obtain ⟨p, rfl, _, hp⟩ := hv
          refine gv_spP (Txt.split l (" " : Str)) ⟨p, rfl, sq_of hp, ?_, fun q hq => ?_⟩ fun v H4 e4 hv => ⟨_, hl, ?_⟩
          · have := congrArg List.length hs2
            rw [List.length_map] at this
            omega
          · have hq2 : tl q ∈ Pap.cut 32 (tl l) := by rw [← hs2]; exact List.mem_map_of_mem hq
            have := cut_part hq2
            omega
          · rw [Pap.lLot, if_neg hd, ← hs2]
            exact hv
    · obtain ⟨p, zs, rfl, hp, hzl, hzs⟩ := hv
      have hll : (Pap.linesOf (tl z)).length ≤ 2001 := by
        unfold Pap.linesOf
        split
        · simp
        · omega
      have evN := et_B (EvP.ev (ep_anyNone (K := K) (σ := (L2.start nLi [.str z]).set 1 (some (.ref p))) (H := Ha) (tl' := tVar 1) (j := 3) (ev_var rfl) (sq_of hp) (by omega) (by show 3 < 4; decide)))
      rw [any_ons (os := (Pap.linesOf (tl z)).map Pap.lLot) (by rw [List.length_map]; exact hzl) hzs] at evN
      unfold Pap.lLots
      cases hs : Pap.allSome ((Pap.linesOf (tl z)).map Pap.lLot) with
      | none =>
        rw [hs] at evN
        exact sv_ret (ep_if (b := true) evN (fun _ => ep_ofP ev_c rfl) (fun z => nomatch z))
      | some rs =>
        rw [hs] at evN
        have e := Pap.allSome_some hs
        rw [e] at hzs
        refine sv_ret (ep_if (b := false) evN (fun z => nomatch z) fun _ => ep_var rfl ?_)
        exact rows_tr hp (by rw [hzl, ← List.length_map (f := Pap.lLot), e]) hzs
end
end G

/-! _law_recipe_in. -/
namespace G
open PySem PySem.Spec PyProof.Rows L2 Evl Tp RZ TL L2X StX
section
variable {P : Program} {w : World} {K : PySem.W.Frag} {mg : Str → Option Value} {base : Heap} {f C CL CT CR : Addr} {fd : FuncData} {H : Hp} {σ : L2.St}
abbrev nRi : List Str := ["_law_text", "_law_lines", "_law_rows", "_law_many", "_law_line", "_law_row_here"]
theorem scRi2 : FnScope nRi ["_law_text"] (defScope (top 47)) := ⟨rfl, rfl, rfl, by decide +kernel, rfl, by decide +kernel, by decide +kernel⟩
/-- the recipe that a text tells, as the law holds it, or none -/
def ORec (C : Addr) (o : Option (Nat × List (List Nat))) (v : V) (H : Hp) : Prop := match o with
  | none => v = .non
  | some q => ∃ r, v = .ref r ∧ RecL C H r q.1 q.2
abbrev spRi2 (C : Addr) : Sp := spP preTx2 (fun x v H => ORec C (Pap.lRecipe (tl x)) v H)
/-- a list of texts at a -/
def SL (ps : List Str) (v : V) (H : Hp) : Prop := ∃ a, v = .ref a ∧ H a = some (.lst (ps.map V.str))
theorem lrec_none {t : Pap.Tx} (h : ¬ (2 ≤ ((Pap.cut 10 t).map (Pap.cut 32)).length ∧ (((Pap.cut 10 t).map (Pap.cut 32)).headD []).length = 2 ∧ (((Pap.cut 10 t).map (Pap.cut 32)).headD []).headD [] = Pap.cOld)) : Pap.lRecipe t = none := by
  unfold Pap.lRecipe
  exact if_neg h
theorem lrec_at {t : Pap.Tx} (h : 2 ≤ ((Pap.cut 10 t).map (Pap.cut 32)).length ∧ (((Pap.cut 10 t).map (Pap.cut 32)).headD []).length = 2 ∧ (((Pap.cut 10 t).map (Pap.cut 32)).headD []).headD [] = Pap.cOld) :
    Pap.lRecipe t = match Pap.lNum ((((Pap.cut 10 t).map (Pap.cut 32)).headD []).getD 1 []) with
    | some m => (match Pap.allSome (((Pap.cut 10 t).map (Pap.cut 32)).tail.map Pap.lRow) with
      | some rows => if rows.all (fun r => decide (r = []) || decide (r.getLastD 0 < m)) = true then some (m, rows) else none
      | none => none)
    | none => none := by
  unfold Pap.lRecipe
  exact if_pos h
theorem last_nV {r : List Nat} (h : r ≠ []) : atI (r.map nV) (-1) = some (nV (r.getLastD 0)) := by
  obtain ⟨l, x, rfl⟩ : ∃ l x, r = l ++ [x] := ⟨r.dropLast, r.getLast h, (List.dropLast_concat_getLast h).symm⟩
  rw [List.map_append, List.getLastD_concat]
  exact atI_last _ _
theorem ok_recipe_in (F : FnT K "_law_recipe_in" 47 f fd) (KN : Kp P w K mg base CX0 1 "_law_number" ["_law_piece"] spNu) (KS : Kp P w K mg base CX0 2 "_law_numbers" ["_law_pieces"] (spNs K)) (fr : Fr mg) : FnOk P w K mg base CX0 3 f fd ["_law_text"] (spRi2 C) := by
  refine okP F scRi2 (fun x vs H h => ?_) (fun cdv A outer s H1 vs E z H hr h => ?_)
  · obtain ⟨rfl, _⟩ := h
    rfl
  · obtain ⟨rfl, hlen⟩ := h
    refine ⟨_, PSs.nox (pss_cons (ps_setLc (i := 1) (own := [("_law_line", 4)]) (g := gName 4) (tt := tYes) rfl scRi2.nd rfl rfl (sw_true rfl rfl rfl (by decide +kernel)) (pi_list (pe_split (pv 0) pe_str)) (blkOk_by (N := nRi) (sc := defScope (top 47)) (by decide +kernel)) (fun _ _ _ _ _ => pg_name (i := 4) scRi2.nd rfl (Or.inl rfl)) (fun _ _ _ _ _ => pts_nil)
        (fun _ _ _ _ _ => pe_split (pv 4) pe_str))
      (pss_cons (ps_if (PW.pt (pw_or (pt_cmpR op_lt (pe_callB call_len_seq rfl fr.len_ bt_len (pa_cons (pv 1) pa_nil)) pe_int (nomark _))
          (pw_or (pt_cmpR op_ne (pe_callB call_len_seq rfl fr.len_ bt_len (pa_cons (pe_ix ix_list (pv 1) pe_int (fun _ _ => rfl)) pa_nil)) pe_int (nomark _))
          (pw_or (pt_cmpR op_ne (pe_ix ix_list (pe_ix ix_list (pv 1) pe_int (fun _ _ => rfl)) pe_int (fun _ _ => rfl)) pe_str (nomark _))
          (pw_or1 (pt_cmpR op_isN (pe_cl KN (hr.mono (by decide)) (pa_cons (pe_ix ix_list (pe_ix ix_list (pv 1) pe_int (fun _ _ => rfl)) pe_int (fun _ _ => rfl)) pa_nil)) pe_non (nomark _))))))) (pss_one (ps_ret pe_non)) pss_nil)
      (pss_cons (ps_setLc (i := 2) (own := [("_law_line", 4)]) (g := gName 4) (tt := tYes) rfl scRi2.nd rfl rfl (sw_true rfl rfl rfl (by decide +kernel)) (pi_list (pe_slice sl_list (pv 1) (po_some pe_int) po_none)) (blkOk_by (N := nRi) (sc := defScope (top 47)) (by decide +kernel)) (fun _ _ _ _ _ => pg_name (i := 4) scRi2.nd rfl (Or.inl rfl)) (fun _ _ _ _ _ => pts_nil)
        (fun _ _ _ _ _ => pe_ifExp (pt_cmpR op_eq (pe_ix (r := rIxL K) ix_list (pv 4) pe_int (fun _ _ => rfl)) pe_str (nomark _)) (pe_cl KS hr (pa_cons (pe_slice (r := rSlL K) sl_list (pv 4) (po_some pe_int) po_none) pa_nil)) pe_non))
      (pss_cons (ps_if (pt_val (pe_callB (cr_any rfl) rfl fr.any_ bt_any (pa_cons (pe_lc (own := [("_law_row_here", 5)]) (g := gName 5) (tt := tYes) rfl scRi2.nd (pi_list (pv 2)) (blkOk_by (N := nRi) (sc := defScope (top 47)) (by decide +kernel)) (fun _ _ _ _ _ => pg_name (i := 5) scRi2.nd rfl (Or.inl rfl)) (fun _ _ _ _ _ => pts_nil)
          (fun _ _ _ _ _ => pe_cmpR op_isN (pv 5) pe_non (nomark _))) pa_nil))) (pss_one (ps_ret pe_non)) pss_nil)
      (pss_cons (ps_set (i := 3) scRi2.nd rfl (.inr rfl) (pe_cl KN (hr.mono (by decide)) (pa_cons (pe_ix ix_list (pe_ix ix_list (pv 1) pe_int (fun _ _ => rfl)) pe_int (fun _ _ => rfl)) pa_nil)))
      (pss_one (ps_ret (pe_ifExp (pt_val (pe_callB (cr_all rfl) rfl fr.all_ bt_all (pa_cons (pe_lc (own := [("_law_row_here", 5)]) (g := gName 5) (tt := tYes) (te := tOrV (tOp (rEqD K) (tVar 5) (tLst tNil)) (tOp (rI0 fun i j => .bl (decide (i < j))) (tOp (rIxL K) (tVar 5) (tUn (rU fun i => .int (-i)) (tC (.int 1)))) (tVar 3))) rfl scRi2.nd (pi_list (pv 2)) (blkOk_by (N := nRi) (sc := defScope (top 47)) (by decide +kernel)) (fun _ _ _ _ _ => pg_name (i := 5) scRi2.nd rfl (Or.inl rfl)) (fun _ _ _ _ _ => pts_nil)
          (fun _ _ _ _ _ => pe_or (pe_cmpR (op_eqD hr.units) (pv 5) (pe_lst pa_nil) (nomark _)) (pe_one (pe_cmpR op_lt (pe_ix ix_list (pv 5) (pe_un un_neg pe_int) (fun _ _ => rfl)) (pv 3) (nomark _))))) pa_nil))) (pe_lst (pa_cons (pv 3) (pa_cons (pv 2) pa_nil))) pe_non)))))))), ?_⟩
    have hsc := split_cut (x := z) (y := ("\n" : Str)) (s := 10) (by decide +kernel) (by decide +kernel)
    have hcl := cut_len 10 (tl z)
    have hlen2 : (Txt.split z ("\n" : Str)).length = (Pap.cut 10 (tl z)).length := by rw [← hsc, List.length_map]
    obtain ⟨l0, ls, hls⟩ : ∃ l0 ls, Txt.split z ("\n" : Str) = l0 :: ls := by
      cases h : Txt.split z ("\n" : Str) with
      | nil => rw [h] at hsc; exact absurd hsc.symm (Pap.cut_ne 10 (tl z))
      | cons a b => exact ⟨a, b, rfl⟩
    have hcut : Pap.cut 10 (tl z) = tl l0 :: ls.map tl := by rw [← hsc, hls]; rfl
    have hmem : ∀ l ∈ l0 :: ls, tl l ∈ Pap.cut 10 (tl z) := fun l hl => by rw [← hsc, hls]; exact List.mem_map_of_mem hl
    have hs2 : ∀ l : Str, (Txt.split l (" " : Str)).map tl = Pap.cut 32 (tl l) := fun l => split_cut (x := l) (y := (" " : Str)) (s := 32) (by decide +kernel) (by decide +kernel)
    have hlst : (Pap.cut 10 (tl z)).map (Pap.cut 32) = Pap.cut 32 (tl l0) :: ls.map (fun l => Pap.cut 32 (tl l)) := by rw [hcut, List.map_cons, List.map_map]; rfl
    -- the lines, each cut
    refine sv_set (P := fun v H' => ∃ p zs, v = .ref p ∧ H' p = some (.lst zs) ∧ zs.length = (l0 :: ls).length ∧ ∀ (i : Nat) (y : V), zs[i]? = some y → ∃ l, (l0 :: ls)[i]? = some l ∧ SL (Txt.split l (" " : Str)) y H') ?_ fun v Ha ea hv => ?_
    · refine Gv.imp (ep_lcN (xs := (Txt.split z ("\n" : Str)).map V.str) (P1 := NewL H ((Txt.split z ("\n" : Str)).map V.str)) (fun i y H' => ∃ l, (l0 :: ls)[i]? = some l ∧ SL (Txt.split l (" " : Str)) y H') (fun i v A B e ⟨l, k1, a, k2, k3⟩ => ⟨l, k1, a, k2, e _ _ k3⟩)
          (ep_ofL (el_split (ev_var rfl) ev_c (by decide +kernel) (by omega))) (fun v H' e' ⟨a, k1, k2, k3⟩ => ⟨a, k1, sq_of k3, by rw [List.length_map]; omega⟩) (fun x => rfl) fun i v w H' e' hw hv H'' e'' => ?_) fun v H' e' ⟨p, zs, h1, h2, h3, h4, h5⟩ => ⟨p, zs, h1, h3, by rw [h4, List.length_map, hls], h5⟩
      rw [List.getElem?_map, hls] at hv
      obtain ⟨l, hl, rfl⟩ := Option.map_eq_some_iff.mp hv
      have := cut_part (hmem l (List.mem_of_getElem? hl))
      exact Gv.imp (ep_ofL (el_split (ev_var rfl) ev_c (by decide +kernel) (by omega))) fun v H3 e3 ⟨a, k1, _, k3⟩ => ⟨l, hl, a, k1, k3⟩
    obtain ⟨p, zs, rfl, hp, hzl, hzs⟩ := hv
    rw [List.length_cons] at hzl
    obtain ⟨z0, zr, rfl⟩ : ∃ z0 zr, zs = z0 :: zr := by
      cases zs with
      | nil => cases hzl
      | cons a b => exact ⟨a, b, rfl⟩
    obtain ⟨l0', k1, a0, rfl, ha0⟩ := hzs 0 z0 rfl
    have el0 : l0 = l0' := by simpa using k1
    subst el0
    have hpl : (Txt.split l0 (" " : Str)).length = (Pap.cut 32 (tl l0)).length := by rw [← hs2, List.length_map]
    obtain ⟨w0, wr, hw⟩ : ∃ w0 wr, Txt.split l0 (" " : Str) = w0 :: wr := by
      have hw2 := hs2 l0
      cases h : Txt.split l0 (" " : Str) with
      | nil => rw [h] at hw2; exact absurd hw2.symm (Pap.cut_ne 32 (tl l0))
      | cons a b => exact ⟨a, b, rfl⟩
    have hwt : Pap.cut 32 (tl l0) = tl w0 :: wr.map tl := by rw [← hs2, hw]; rfl
    have e0 : ∀ {σ' : L2.St}, σ'[1]? = some (some (.ref p)) → Ev (tOp (rIxL K) (tVar 1) (tC (.int 0))) σ' Ha (.ref a0) := fun h => ev_op (ev_var h) ev_c (rv_ixL (i := 0) (sq_of hp) (atI_nat (j := 0) rfl))
    have c1 : Ev (tOp (rI0 fun i j => .bl (decide (i < j))) (tLenS K (tVar 1)) (tC (.int 2))) ((L2.start nRi [.str z]).set 1 (some (.ref p))) Ha (.bl (decide (ls.length + 1 < 2))) := by
      have := ev_op (ev_lenL (σ := (L2.start nRi [.str z]).set 1 (some (.ref p))) (te := tVar 1) (ev_var rfl) (sq_of (K := K) hp)) (ev_c (v := .int 2)) (rv_I0 (H := Ha) (g := fun i j => .bl (decide (i < j))))
      have e : decide ((((V.ref a0 :: zr).length : Nat) : Int) < 2) = decide (ls.length + 1 < 2) := decide_eq_decide.mpr (by rw [List.length_cons]; rw [List.length_cons] at hzl; omega)
      rw [e] at this
      exact this
    have c2 : Ev (tOp rNe (tLenS K (tOp (rIxL K) (tVar 1) (tC (.int 0)))) (tC (.int 2))) ((L2.start nRi [.str z]).set 1 (some (.ref p))) Ha (.bl (!decide (wr.length + 1 = 2))) := by
      have := ev_op (ev_lenL (e0 (σ' := (L2.start nRi [.str z]).set 1 (some (.ref p))) rfl) (sq_of (K := K) ha0)) (ev_c (v := .int 2)) (rv_ne (H := Ha) rfl)
      have e : decide (V.int ((((Txt.split l0 (" " : Str)).map V.str).length : Nat) : Int) = V.int 2) = decide (wr.length + 1 = 2) := decide_eq_decide.mpr ⟨fun h => by injection h with h; rw [List.length_map, hw, List.length_cons] at h; omega, fun h => by rw [List.length_map, hw, List.length_cons, h]; rfl⟩
      rw [e] at this
      exact this
    have c3 : Ev (tOp rNe (tOp (rIxL K) (tOp (rIxL K) (tVar 1) (tC (.int 0))) (tC (.int 0))) (tC (.str ("old" : Str)))) ((L2.start nRi [.str z]).set 1 (some (.ref p))) Ha (.bl (!decide (tl w0 = Pap.cOld))) :=
      ev_neS (ev_op (e0 rfl) ev_c (rv_ixL (i := 0) (sq_of ha0) (by rw [hw]; exact atI_nat (j := 0) rfl))) ev_c (by rw [show tl ("old" : Str) = Pap.cOld by decide +kernel])
    by_cases hc : 2 ≤ ls.length + 1 ∧ wr.length + 1 = 2 ∧ tl w0 = Pap.cOld
    rotate_left
    · have hn : Pap.lRecipe (tl z) = none := lrec_none (by
        rw [hlst]
        intro h
        refine hc ⟨by simpa using h.1, ?_, ?_⟩
        · have := h.2.1
          show wr.length + 1 = 2
          have h2 : (Pap.cut 32 (tl l0)).length = 2 := this
          rw [hwt, List.length_cons, List.length_map] at h2
          exact h2
        · have := h.2.2
          have h2 : (Pap.cut 32 (tl l0)).headD [] = Pap.cOld := this
          rw [hwt] at h2
          exact h2)
      rw [hn]
      have fin : ∀ {tt : TT}, EvT tt ((L2.start nRi [.str z]).set 1 (some (.ref p))) Ha true → ∀ {tz : TS}, Sv (tSeq (tIfS tt (tRet (tC .non)) tNext) tz) ((L2.start nRi [.str z]).set 1 (some (.ref p))) Ha (fun _ H' => ORec C none .non H') (ORec C none) := fun {tt} h {tz} => sv_when (b := true) h (fun _ => sv_ret (ep_ofP ev_c rfl)) (fun z => nomatch z)
      by_cases h1 : ls.length + 1 < 2
      · rw [decide_eq_true h1] at c1
        exact fin (et_is (et_or (b := true) (et_test c1) fun z => nomatch z) rfl)
      · rw [decide_eq_false h1] at c1
        by_cases h2 : wr.length + 1 = 2
        · rw [decide_eq_true h2] at c2
          have h3 : ¬ tl w0 = Pap.cOld := fun z => hc ⟨by omega, h2, z⟩
          rw [decide_eq_false h3] at c3
          exact fin (et_is (et_or (et_test c1) fun _ => et_or (et_test c2) fun _ => et_or (b := true) (et_test c3) fun z => nomatch z) rfl)
        · rw [decide_eq_false h2] at c2
          exact fin (et_is (et_or (et_test c1) fun _ => et_or (b := true) (et_test c2) fun z => nomatch z) rfl)
    obtain ⟨h1, h2, h3⟩ := hc
    rw [decide_eq_false (by omega : ¬ ls.length + 1 < 2)] at c1
    rw [decide_eq_true h2] at c2
    rw [decide_eq_true h3] at c3
    obtain ⟨w1, hw1⟩ : ∃ w1, wr = [w1] := by
      cases wr with
      | nil => simp at h2
      | cons a b => cases b with | nil => exact ⟨a, rfl⟩ | cons => simp at h2
    subst hw1
    have hat := lrec_at (t := tl z) (by rw [hlst]; exact ⟨by simpa using h1, by show (Pap.cut 32 (tl l0)).length = 2; rw [hwt]; rfl, by show (Pap.cut 32 (tl l0)).headD [] = Pap.cOld; rw [hwt]; exact h3⟩)
    rw [hlst] at hat
    have hat : Pap.lRecipe (tl z) = match Pap.lNum ((Pap.cut 32 (tl l0)).getD 1 []) with
      | some m => (match Pap.allSome ((ls.map fun l => Pap.cut 32 (tl l)).map Pap.lRow) with
        | some rows => if rows.all (fun r => decide (r = []) || decide (r.getLastD 0 < m)) = true then some (m, rows) else none
        | none => none)
      | none => none := hat
    rw [hwt] at hat
    have hat : Pap.lRecipe (tl z) = match Pap.lNum (tl w1) with
      | some m => (match Pap.allSome ((ls.map fun l => Pap.cut 32 (tl l)).map Pap.lRow) with
        | some rows => if rows.all (fun r => decide (r = []) || decide (r.getLastD 0 < m)) = true then some (m, rows) else none
        | none => none)
      | none => none := hat
    have hw1l : (tl w1).length ≤ 30000 := by
      have q1 : tl w1 ∈ Pap.cut 32 (tl l0) := by rw [hwt]; simp
      have q2 := cut_part q1
      have q3 := cut_part (hmem l0 List.mem_cons_self)
      omega
    have e1 : ∀ {σ' : L2.St}, σ'[1]? = some (some (.ref p)) → Ev (tOp (rIxL K) (tOp (rIxL K) (tVar 1) (tC (.int 0))) (tC (.int 1))) σ' Ha (.str w1) := fun h => ev_op (e0 h) ev_c (rv_ixL (i := 1) (sq_of ha0) (by rw [hw]; exact atI_nat (j := 1) rfl))
    have enum : ∀ {σ' : L2.St} {L : Hp}, Ex Ha L → σ'[1]? = some (some (.ref p)) → Ev (tCall spNu [] E0 (tCons (tOp (rIxL K) (tOp (rIxL K) (tVar 1) (tC (.int 0))) (tC (.int 1))) tNil)) σ' L (oN (Pap.lNum (tl w1))) := fun eL h => EvP.ev (ep_callA (ea_cons ((e1 h).mono eL) ea_nil) (gv_spP w1 ⟨rfl, hw1l⟩ fun v H4 e4 hv => hv))
    have c4 : Ev (tOp rNon (tCall spNu [] E0 (tCons (tOp (rIxL K) (tOp (rIxL K) (tVar 1) (tC (.int 0))) (tC (.int 1))) tNil)) (tC .non)) ((L2.start nRi [.str z]).set 1 (some (.ref p))) Ha (.bl (Pap.lNum (tl w1)).isNone) := by
      have := ev_op (enum (Ex.refl Ha) (σ' := (L2.start nRi [.str z]).set 1 (some (.ref p))) rfl) (ev_c (v := .non)) (r := rNon) (H := Ha) (z := .bl (decide (oN (Pap.lNum (tl w1)) = .non))) (fun H5 e5 Q q => ⟨rfl, q H5 (Ex.refl _)⟩)
      rw [oN_non] at this
      exact this
    have cc := et_or (et_test c1) fun _ => et_or (et_test c2) fun _ => et_or (et_test c3) fun _ => et_test c4
    cases hm : Pap.lNum (tl w1) with
    | none =>
      rw [hm] at hat cc
      rw [show Pap.lRecipe (tl z) = none from hat]
      exact sv_when (b := true) (et_is cc rfl) (fun _ => sv_ret (ep_ofP ev_c rfl)) (fun z => nomatch z)
    | some m =>
      rw [hm] at hat cc
      refine sv_when (b := false) (et_is cc rfl) (fun z => nomatch z) fun _ => ?_
      -- the rows
      have hdr : cutV (V.ref a0 :: zr) (some 1) none = zr := by rw [cut1]; rfl
      have hzrl : zr.length = ls.length := by rw [List.length_cons] at hzl; omega
      have hls2 : ls.length ≤ 2001 := by rw [hls, List.length_cons] at hlen2; omega
      refine sv_set (P := fun v H' => ∃ q ys, v = .ref q ∧ H' q = some (.lst ys) ∧ ys.length = ls.length ∧ ∀ (i : Nat) (y : V), ys[i]? = some y → ∃ o, ((ls.map fun l => Pap.cut 32 (tl l)).map Pap.lRow)[i]? = some o ∧ ONs o y H') ?_ fun v Hb eb hv => ?_
      · refine Gv.imp (ep_lcN (K := K) (xs := zr) (P1 := NewL Ha zr) (fun i y H' => ∃ o, ((ls.map fun l => Pap.cut 32 (tl l)).map Pap.lRow)[i]? = some o ∧ ONs o y H') (fun i v A B e ⟨o, k1, k2⟩ => ⟨o, k1, k2.mono e⟩) (by
            have := ep_ofL (el_sl (K := K) (H := Ha) (σ := (L2.start nRi [.str z]).set 1 (some (.ref p))) (te := tVar 1) (ev_var rfl) (eo_some (ev_c (v := .int 1))) eo_none (sq_of hp))
            rw [hdr] at this
            exact this) (fun v H' e' ⟨a, k1, k2, k3⟩ => ⟨a, k1, sq_of k3, by omega⟩) (fun x => rfl) fun i v w H' e' hw' hv H'' e'' => ?_) fun v H' e' ⟨q, ys, h1, h2, h3, h4, h5⟩ => ⟨q, ys, h1, h3, by rw [h4, hzrl], h5⟩
        obtain ⟨l, hl, a, rfl, ha⟩ := hzs (i + 1) v (by simpa using hv)
        have hl' : ls[i]? = some l := by simpa using hl
        have ha' := e'' _ _ (e' _ _ ha)
        obtain ⟨x0, xr, hx⟩ : ∃ x0 xr, Txt.split l (" " : Str) = x0 :: xr := by
          have hw2 := hs2 l
          cases h : Txt.split l (" " : Str) with
          | nil => rw [h] at hw2; exact absurd hw2.symm (Pap.cut_ne 32 (tl l))
          | cons a b => exact ⟨a, b, rfl⟩
        have hxt : Pap.cut 32 (tl l) = tl x0 :: xr.map tl := by rw [← hs2, hx]; rfl
        have hit : ((ls.map fun l => Pap.cut 32 (tl l)).map Pap.lRow)[i]? = some (Pap.lRow (Pap.cut 32 (tl l))) := by rw [List.getElem?_map, List.getElem?_map, hl']; rfl
        have hlr : Pap.lRow (Pap.cut 32 (tl l)) = if tl x0 = Pap.cNeeds then Pap.lNums (xr.map tl) else none := by
          rw [hxt]
          rfl
        have evc : ∀ b, decide (tl x0 = Pap.cNeeds) = b → EvT (tTest (tOp rEq (tOp (rIxL K) (tVar 4) (tC (.int 0))) (tC (.str ("needs" : Str))))) ((wipe ((L2.start nRi [.str z]).set 1 (some (.ref p))) [4]).set 4 (some (.ref a))) H'' b := fun b hb =>
          et_test (ev_eqS (ev_op (ev_var rfl) ev_c (rv_ixL (i := 0) (sq_of ha') (by rw [hx]; exact atI_nat (j := 0) rfl))) ev_c (by rw [tNeeds]; exact hb))
        by_cases hn : tl x0 = Pap.cNeeds
        · rw [if_pos hn] at hlr
          have hdr2 : cutV ((Txt.split l (" " : Str)).map V.str) (some 1) none = xr.map V.str := by rw [cut1, hx]; rfl
          refine ep_if (evc true (decide_eq_true hn)) (fun _ => ep_call1 (P1 := NewL H'' (xr.map V.str)) (by
            have := ep_ofL (el_sl (K := K) (H := H'') (σ := (wipe ((L2.start nRi [.str z]).set 1 (some (.ref p))) [4]).set 4 (some (.ref a))) (te := tVar 4) (ev_var rfl) (eo_some (ev_c (v := .int 1))) eo_none (sq_of ha'))
            rw [hdr2] at this
            exact this) fun v H3 e3 hv => ?_) (fun z => nomatch z)
          obtain ⟨q, rfl, _, hq⟩ := hv
          have hml := cut_part (hmem l (List.mem_cons_of_mem _ (List.mem_of_getElem? hl')))
          refine gv_spP xr ⟨q, rfl, sq_of hq, ?_, fun y hy => ?_⟩ fun v H4 e4 hv => ⟨_, hit, by rw [hlr]; exact hv⟩
          · have h5 := cut_len 32 (tl l)
            rw [hxt, List.length_cons, List.length_map] at h5
            omega
          · have : tl y ∈ Pap.cut 32 (tl l) := by rw [hxt]; exact List.mem_cons_of_mem _ (List.mem_map_of_mem hy)
            have := cut_part this
            omega
        · rw [if_neg hn] at hlr
          exact ep_if (evc false (decide_eq_false hn)) (fun z => nomatch z) fun _ => ep_ofP ev_c ⟨_, hit, by rw [hlr]; rfl⟩
      obtain ⟨q, ys, rfl, hq, hyl, hys⟩ := hv
      have evN := et_B (EvP.ev (ep_anyNone (K := K) (σ := ((L2.start nRi [.str z]).set 1 (some (.ref p))).set 2 (some (.ref q))) (H := Hb) (tl' := tVar 2) (j := 5) (ev_var rfl) (sq_of hq) (by omega) (by show 5 < 6; decide)))
      rw [any_ons (by rw [List.length_map, List.length_map]; exact hyl) hys] at evN
      cases hrs : Pap.allSome ((ls.map fun l => Pap.cut 32 (tl l)).map Pap.lRow) with
      | none =>
        rw [hrs] at hat evN
        rw [show Pap.lRecipe (tl z) = none from hat]
        exact sv_when (b := true) evN (fun _ => sv_ret (ep_ofP ev_c rfl)) (fun z => nomatch z)
      | some rows =>
        rw [hrs] at hat evN
        have hat : Pap.lRecipe (tl z) = if rows.all (fun r => decide (r = []) || decide (r.getLastD 0 < m)) = true then some (m, rows) else none := hat
        refine sv_when (b := false) evN (fun z => nomatch z) fun _ => ?_
        refine sv_set (P := Eqv (nV m)) (ep_of (by have := enum eb (σ' := ((L2.start nRi [.str z]).set 1 (some (.ref p))).set 2 (some (.ref q))) rfl; rw [hm] at this; exact this)) fun v Hc ec hv => ?_
        cases (show v = nV m from hv)
        have er := Pap.allSome_some hrs
        rw [er] at hys
        have hrt : Tr C (rowsD (natR rows)) (.ref q) Hb := rows_tr hq (by rw [hyl, ← List.length_map (f := fun l => Pap.cut 32 (tl l)), ← List.length_map (f := Pap.lRow), er]) hys
        have evA : EvT (tB (tCB (rAll K) (tCons (tLc (iList K (tVar 2)) (gName 5) tYes (tOrV (tOp (rEqD K) (tVar 5) (tLst tNil)) (tOp (rI0 fun i j => .bl (decide (i < j))) (tOp (rIxL K) (tVar 5) (tUn (rU fun i => .int (-i)) (tC (.int 1)))) (tVar 3))) [5]) tNil))) ((((L2.start nRi [.str z]).set 1 (some (.ref p))).set 2 (some (.ref q))).set 3 (some (nV m))) Hc (rows.all (fun r => decide (r = []) || decide (r.getLastD 0 < m))) := by
          refine et_B (EvP.ev (ep_cb1 (ep_lcL (xs := ys) (fun i y _ => ∃ b, (rows.map fun r => decide (r = []) || decide (r.getLastD 0 < m))[i]? = some b ∧ y = V.bl b) (fun _ _ _ _ _ h => h) (ev_var rfl) (sq_of (ec _ _ hq)) (by omega) (fun x => rfl) fun i x H' e hx => ?_) fun v H' e h => ?_))
          · obtain ⟨o, k1, k2⟩ := hys i x hx
            rw [List.getElem?_map] at k1
            cases hr : rows[i]? with
            | none => rw [hr] at k1; cases k1
            | some r =>
              rw [hr] at k1
              have eo : some r = o := Option.some.inj k1
              subst eo
              obtain ⟨a, rfl, ha⟩ := k2
              have ha' := e _ _ (ec _ _ ha)
              refine ep_ofP (v := .bl (r.isEmpty || decide (((r.getLastD 0 : Nat) : Int) < (m : Int)))) (ev_orV (ev_eqE (K := K) (ev_var rfl) (sq_of ha')) fun hne => ?_) ⟨_, by rw [List.getElem?_map, hr]; rfl, ?_⟩
              · have hr0 : r ≠ [] := by intro z; subst z; cases hne
                exact ev_op (ev_op (ev_var rfl) (ev_un ev_c ru_neg) (rv_ixL (i := -1) (sq_of ha') (last_nV hr0))) (ev_var rfl) rv_I0
              · show V.bl _ = V.bl _
                congr 1
                have d1 : decide (r = []) = r.isEmpty := by cases r <;> rfl
                have d2 : decide (((r.getLastD 0 : Nat) : Int) < (m : Int)) = decide (r.getLastD 0 < m) := decide_eq_decide.mpr (by omega)
                show (r.isEmpty || decide (((r.getLastD 0 : Nat) : Int) < (m : Int))) = (decide (r = []) || decide (r.getLastD 0 < m))
                rw [d1, d2]
          · obtain ⟨p', zs', rfl, _, j2, j3, j4⟩ := h
            have hrl : rows.length = ls.length := by have := allSome_len hrs; rw [List.length_map, List.length_map] at this; exact this.symm
            have ez := bls_ofL (bs := rows.map fun r => decide (r = []) || decide (r.getLastD 0 < m)) (by rw [List.length_map]; omega) j4
            rw [ez] at j2
            refine gv_all (ys := zs') _ j2 ?_
            show V.bl _ = V.bl _
            rw [List.all_map]
            rfl
        by_cases hall : rows.all (fun r => decide (r = []) || decide (r.getLastD 0 < m)) = true
        · rw [hall] at evA
          rw [if_pos hall] at hat
          rw [hat]
          refine sv_ret (ep_if evA (fun _ => ?_) (fun z => nomatch z))
          refine Gv.imp (ep_ofL (el_lst (ea_cons (ev_var rfl) (ea_cons (ev_var rfl) ea_nil)) (by show 2 ≤ 100000; decide))) fun v H' e ⟨r, h1, _, h3⟩ => ⟨r, h1, q, h3, hrt.mono (ec.trans e)⟩
        · have hall' : rows.all (fun r => decide (r = []) || decide (r.getLastD 0 < m)) = false := by simpa using hall
          rw [hall'] at evA
          rw [if_neg hall] at hat
          rw [hat]
          exact sv_ret (ep_if evA (fun z => nomatch z) fun _ => ep_ofP ev_c rfl)
end
end G

/-! _law_read_right. -/
namespace G
open PySem PySem.Spec PyProof.Rows L2 Evl Tp RZ TL L2X StX
theorem passX {X : Cx} : Passes (L2.CX X.prog X.w) X E0 := fun _ _ _ _ _ _ _ h => by
  obtain ⟨_, _, _, _, _, _, _, _, _, _, _, _, z⟩ := h
  exact z.elim
/-- a call of a def that might raise, where it does not -/
theorem pe_clX {X : Cx} {k : Nat} {x : Str} {ps : List Str} {sp : Sp} {p pos : Pos} {e : Expr} {es : List Expr} {t : TA} (kp0 : Kp X.prog X.w X.K X.mg X.base (L2.CX X.prog X.w) k x ps sp) (hr : Room k X.A) (ha : PA X (e :: es) t) (hg : Gl X x := by rfl) (hdb : (x == ("__debug__" : Str)) = false := by decide)
    (he : starEach (e :: es) X.env = (false, eval e X.env) :: starEach es X.env := by rfl) (hpl : (backTo pos (starEach es X.env)).any (·.1) = false := by rfl) : PE X (.Call (.Name x p) (e :: es) [] pos) (tCall sp [] E0 t) := by
  obtain ⟨f, fd, F, g, kp, b⟩ := kp0
  exact pe_call F hr hg g kp b .nil passX ha hdb he hpl
/-- the texts that _law_read_right is asked of -/
structure TxR (t : Pap.Tx) : Prop where
  g : TxG t
  rk : Pap.rk 30 0 t = true
  asc : ∀ c ∈ t, c < 128
theorem dep_ints : ∀ r : List Nat, depL (r.map fun n => D.flat (nV n)) = 0
  | [] => rfl
  | n :: r => by
    show max 0 (depL (r.map fun n => D.flat (nV n))) = 0
    rw [dep_ints r]
    rfl
theorem dep_rowsL : ∀ rs : List (List Nat), depL (rs.map fun r => D.seq false (r.map fun n => .flat (nV n))) ≤ 1
  | [] => Nat.zero_le _
  | r :: rs => by
    show max (depL (r.map fun n => D.flat (nV n)) + 1) (depL (rs.map fun r => D.seq false (r.map fun n => .flat (nV n)))) ≤ 1
    rw [dep_ints r]
    have := dep_rowsL rs
    omega
theorem dep_rows (rs : List (List Nat)) : dep (rowsD (natR rs)) ≤ 2 := by
  rw [rowsD_nat]
  show depL _ + 1 ≤ 2
  have := dep_rowsL rs
  omega
theorem siz_rows : ∀ (rows : List (List Nat)) (k : Nat), (∀ r ∈ rows, r.length ≤ k) → sizL (rows.map fun r => D.seq false (r.map fun n => .flat (nV n))) ≤ rows.length * (k + 1)
  | [], k, _ => Nat.zero_le _
  | r :: rows, k, h => by
    have ih := siz_rows rows k fun r' hr' => h r' (by simp [hr'])
    have h1 : siz (D.seq false (r.map fun n => .flat (nV n))) = r.length + 1 := siz_oD (some r)
    have h2 := h r (by simp)
    show siz (D.seq false (r.map fun n => .flat (nV n))) + sizL (rows.map fun r => D.seq false (r.map fun n => .flat (nV n))) ≤ (rows.length + 1) * (k + 1)
    rw [h1, Nat.add_mul, Nat.one_mul]
    omega
section
variable {P : Program} {w : World} {K : PySem.W.Frag} {mg : Str → Option Value} {base : Heap} {f C CL CT CR fM fN : Addr} {fd fdM fdN : FuncData} {H : Hp} {σ : L2.St}
theorem shaped_str {x : Str} (h : ∀ c ∈ tl x, c < 128) : PyData.canLay0 (.str x) = true := by
  show PySem.PyData.strOk x = true
  unfold PySem.PyData.strOk
  rw [← Array.all_toList]
  exact List.all_eq_true.mpr fun c hc => decide_eq_true (Nat.lt_trans (h c hc) (by decide))
abbrev nRR : List Str := ["_law_text", "_law_due", "_law_told_here", "_law_made_here", "_law_late"]
theorem scRR : FnScope nRR ["_law_text"] (defScope (top 49)) := ⟨rfl, rfl, rfl, by decide +kernel, rfl, by decide +kernel, by decide +kernel⟩
def preRR (z : Str) (vs : List V) (_ : Hp) : Prop := vs = [.str z] ∧ TxR (tl z)
abbrev spRR : Sp := spP preRR (fun _ v _ => v = .bl true)
/-- told(i, [text]) -/
theorem ep_told {i : Int} {z : Str} {o : Option Addr} (hs : σ[0]? = some (some (.str z))) (hdoor : Door C CR CL CT i (.flat (.str z)) (.str z) o) (hR : o ≠ some CR) (hL : o ≠ some CL) : EvP (tCall (spTo C CR CL CT) [] E0 (tCons (tC (.int i)) (tCons (tLst (tCons (tVar 0) tNil)) tNil))) σ H (fun v H' => ∃ p, v = .ref p ∧ H' p = some (.lst (toldV CR CL CT o (.str z) 2))) := by
  refine ep_call2 (P1 := Eqv (.int i)) (P2 := fun x y H' => x = .int i ∧ ∃ p, y = .ref p ∧ H' p = some (.lst [.str z])) (ep_of ev_c) (fun x H' e hx => Gv.imp (ep_ofL (el_lst (ea_cons (ev_var hs) ea_nil) (by show 1 ≤ 100000; decide))) fun v H'' e2 ⟨p, h1, _, h3⟩ => ⟨hx, p, h1, h3⟩) fun x y H' e ⟨hx, p, hy, hp⟩ => ?_
  subst hx hy
  exact gv_spP ⟨i, p, .str z, .flat (.str z), o, 2⟩ ⟨rfl, hp, ⟨rfl, rfl⟩, hdoor, fun z => absurd z hR, fun z => absurd z hL, fun _ => rfl⟩ fun v H4 e4 hv => hv
/-- told == ['text', text], where it was refused -/
theorem dp_told {z : Str} {q : Addr} {L : Hp} (h : L q = some (.lst [.str ("text" : Str), .str z])) : Dp K L (.ref q) (.list [.str ("text" : Str), .str z]) := .lst (.inl (.inl h)) (.cons (.str _) (.cons (.str _) .nil))
theorem shaped_told {z : Str} (h : ∀ c ∈ tl z, c < 128) : SeqAt.shaped (.list [.str ("text" : Str), .str z]) = true := by
  show (PyData.canLayAll0 [.str ("text" : Str), .str z] && _) = true
  have e1 : PyData.canLayAll0 [.str ("text" : Str), .str z] = true := by
    show (PyData.canLay0 (.str ("text" : Str)) && (PyData.canLay0 (.str z) && true)) = true
    rw [shaped_str h, shaped_str (x := ("text" : Str)) (by decide +kernel)]
    rfl
  rw [e1]
  rfl
theorem ev_neTold {ta : TE} {p : Addr} {z : Str} (h : Ev ta σ H (.ref p)) (hp : H p = some (.lst [.str ("text" : Str), .str z])) (hs : σ[0]? = some (some (.str z))) (ha : ∀ c ∈ tl z, c < 128) : Ev (tOp (rNeD K) ta (tLst (tCons (tC (.str ("text" : Str))) (tCons (tVar 0) tNil)))) σ H (.bl false) :=
  ev_opL h (el_lst (ea_cons ev_c (ea_cons (ev_var hs) ea_nil)) (by show 2 ≤ 100000; decide)) fun q H1 hq e => fun H2 e2 Q k => ⟨_, _, dp_told ((e.trans e2) _ _ hp), dp_told (e2 _ _ hq), shaped_told ha, shaped_told ha, by
    rw [SeqAt.eqv_refl _ (SeqAt.canLay_of_shaped (shaped_told ha))]
    exact k H2 (Ex.refl _)⟩
theorem ev_eqTold {ta : TE} {p : Addr} {z : Str} (h : Ev ta σ H (.ref p)) (hp : H p = some (.lst [.str ("text" : Str), .str z])) (hs : σ[0]? = some (some (.str z))) (ha : ∀ c ∈ tl z, c < 128) : Ev (tOp (rEqD K) ta (tLst (tCons (tC (.str ("text" : Str))) (tCons (tVar 0) tNil)))) σ H (.bl true) :=
  ev_opL h (el_lst (ea_cons ev_c (ea_cons (ev_var hs) ea_nil)) (by show 2 ≤ 100000; decide)) fun q H1 hq e => fun H2 e2 Q k => ⟨_, _, dp_told ((e.trans e2) _ _ hp), dp_told (e2 _ _ hq), shaped_told ha, shaped_told ha, by
    rw [SeqAt.eqv_refl _ (SeqAt.canLay_of_shaped (shaped_told ha))]
    exact k H2 (Ex.refl _)⟩
theorem ok_read_right (F : FnT K "_law_read_right" 49 f fd) (KR : Kp P w K mg base CX0 3 "_law_recipe_in" ["_law_text"] (spRi2 C)) (KT : Kp P w K mg base CX0 7 "_law_told" ["_law_door", "_law_given"] (spTo C CR CL CT)) (KD : Kp P w K mg base (L2.CX P w) 5 "read_recipe" ["text"] (spRd C CT))
    (KE : Kp P w K mg base CX0 8 "_law_exact" ["_law_mine", "_law_theirs"] (spEx C 6)) (KL : Kp P w K mg base CX0 3 "_law_lots_in" ["_law_text"] (spLi2 C)) (KQ : Kp P w K mg base (L2.CX P w) 3 "read_lots" ["text"] (spRl C CT))
    (hmM : Meth K C "many" fM) (FM : FnOk P w K mg base CX0 1 fM fdM ["self"] (spMa C)) (bM : Binds K fdM ["self"] []) (hmN : Meth K C "needs" fN) (FN : FnOk P w K mg base CX0 1 fN fdN ["self"] (spNe C)) (bN : Binds K fdN ["self"] []) (fr : Fr mg) (rc : RcT K mg C) (ds : Dst CR CL CT) :
    FnOk P w K mg base CX0 9 f fd ["_law_text"] spRR := by
  refine okP F scRR (fun x vs H h => ?_) (fun cdv A outer s H1 vs E z H hr h => ?_)
  · obtain ⟨rfl, _⟩ := h
    rfl
  · obtain ⟨rfl, hT⟩ := h
    have hlen := hT.g.len
    have hasc := hT.asc
    have e0R : Pap.lRecipe (tl z) = Pap.pRecipe (tl z) := Pap.recipe_same hT.rk
    have e0L : Pap.lLots (tl z) = Pap.pLots (tl z) := Pap.lots_same hT.rk
    refine ⟨_, PSs.nox (pss_cons (ps_set (i := 1) scRR.nd rfl (.inl rfl) (pe_cl KR (hr.mono (by decide)) (pa_cons (pv 0) pa_nil)))
      (pss_cons (ps_set (i := 2) scRR.nd rfl (.inl rfl) (pe_cl KT (hr.mono (by decide)) (pa_cons pe_int (pa_cons (pe_lst (pa_cons (pv 0) pa_nil)) pa_nil))))
      (pss_cons (ps_if (PW.pt (pw_and (pt_cmpR op_isN (pv 1) pe_non (nomark _)) (pw_and1 (pt_cmpR (op_neD hr.units) (pv 2) (pe_lst (pa_cons pe_str (pa_cons (pv 0) pa_nil))) (nomark _))))) (pss_one (ps_ret pe_bl)) pss_nil)
      (pss_cons (ps_if (PW.pt (pw_and (pt_cmpR op_notN (pv 1) pe_non (nomark _)) (pw_and (pt_cmpR op_lt (pe_ix ix_list (pv 1) pe_int (fun _ _ => rfl)) pe_int (nomark _)) (pw_and1 (pt_cmpR op_lt (pe_callB call_len_seq rfl fr.len_ bt_len (pa_cons (pe_ix ix_list (pv 1) pe_int (fun _ _ => rfl)) pa_nil)) pe_int (nomark _))))))
        (pss_cons (ps_set (i := 3) scRR.nd rfl (.inl rfl) (pe_clX KD (hr.mono (by decide)) (pa_cons (pv 0) pa_nil)))
        (pss_one (ps_if (pt_not (pt_val (pe_cl KE hr (pa_cons (pe_lst (pa_cons (pe_meth0 (pv 3) rc.cl hmM FM (hr.mono (by decide)) bM .nil pass0) (pa_cons (pe_meth0 (pv 3) rc.cl hmN FN (hr.mono (by decide)) bN .nil pass0) pa_nil))) (pa_cons (pv 1) pa_nil))))) (pss_one (ps_ret pe_bl)) pss_nil))) pss_nil)
      (pss_cons (ps_set (i := 1) scRR.nd rfl (.inl rfl) (pe_cl KL (hr.mono (by decide)) (pa_cons (pv 0) pa_nil)))
      (pss_cons (ps_set (i := 2) scRR.nd rfl (.inl rfl) (pe_cl KT (hr.mono (by decide)) (pa_cons pe_int (pa_cons (pe_lst (pa_cons (pv 0) pa_nil)) pa_nil))))
      (pss_cons (ps_if (pt_cmpR op_isN (pv 1) pe_non (nomark _)) (pss_one (ps_ret (pe_cmpR (op_eqD hr.units) (pv 2) (pe_lst (pa_cons pe_str (pa_cons (pv 0) pa_nil))) (nomark _)))) pss_nil)
      (pss_cons (ps_set (i := 4) scRR.nd rfl (.inl rfl) (pe_clX KQ (hr.mono (by decide)) (pa_cons (pv 0) pa_nil)))
      (pss_cons (ps_if (pt_not (pt_val (pe_cl KE hr (pa_cons (pv 4) (pa_cons (pv 1) pa_nil))))) (pss_one (ps_ret pe_bl)) pss_nil)
      (pss_cons (ps_expr (pe_bm PySem.F.plainAttrs_list PySem.F.slot_list_append PySem.F.type_list_append mt_append (pv 4) (pa_cons pe_non pa_nil)))
      (pss_one (ps_ret (pe_cl KE hr (pa_cons (pe_clX KQ (hr.mono (by decide)) (pa_cons (pv 0) pa_nil)) (pa_cons (pv 1) pa_nil))))))))))))))), ?_⟩
    have st0 : L2.start nRR [.str z] = [some (.str z), none, none, none, none] := rfl
    rw [st0]
    have evN : ∀ {L : Hp} {σ' : L2.St} {v : V} {b : Bool}, σ'[1]? = some (some v) → decide (v = V.non) = b → Ev (tOp rNon (tVar 1) (tC .non)) σ' L (.bl b) := fun {L σ' v b} h hb => by
      subst hb
      exact ev_op (ev_var h) (ev_c (v := .non)) (fun H5 e5 Q q => ⟨rfl, q H5 (Ex.refl _)⟩)
    have evNN : ∀ {L : Hp} {σ' : L2.St} {v : V} {b : Bool}, σ'[1]? = some (some v) → (!decide (v = V.non)) = b → Ev (tOp (fun x y H Q => y = .non ∧ Q (.bl (!decide (x = .non))) H) (tVar 1) (tC .non)) σ' L (.bl b) := fun {L σ' v b} h hb => by
      subst hb
      exact ev_op (ev_var h) (ev_c (v := .non)) (fun H5 e5 Q q => ⟨rfl, q H5 (Ex.refl _)⟩)
    -- the lots, from any slots
    have lots : ∀ (L : Hp) (x1 x2 x3 : Option V), Ex H L → Sv (tSeq (tAsg (tCall (spLi2 C) [] E0 (tCons (tVar 0) tNil)) (gName 1))
        (tSeq (tAsg (tCall (spTo C CR CL CT) [] E0 (tCons (tC (.int 3)) (tCons (tLst (tCons (tVar 0) tNil)) tNil))) (gName 2))
        (tSeq (tIfS (tTest (tOp rNon (tVar 1) (tC .non))) (tRet (tOp (rEqD K) (tVar 2) (tLst (tCons (tC (.str ("text" : Str))) (tCons (tVar 0) tNil))))) tNext)
        (tSeq (tAsg (tCall (spRl C CT) [] E0 (tCons (tVar 0) tNil)) (gName 4))
        (tSeq (tIfS (tNot (tB (tCall (spEx C 6) [] E0 (tCons (tVar 4) (tCons (tVar 1) tNil))))) (tRet (tC (.bl false))) tNext)
        (tSeq (tDrop (tBM K "list" rAppend (tVar 4) (tCons (tC .non) tNil)))
        (tRet (tCall (spEx C 6) [] E0 (tCons (tCall (spRl C CT) [] E0 (tCons (tVar 0) tNil)) (tCons (tVar 1) tNil))))))))))
        [some (.str z), x1, x2, x3, none] L (fun _ H' => (fun (_ : Str) (v : V) (_ : Hp) => v = .bl true) z .non H') (fun v _ => v = .bl true) := by
      intro L x1 x2 x3 eL
      refine sv_set (ep_callA (ea_cons (ev_var rfl) ea_nil) (gv_spP z ⟨rfl, hlen⟩ fun v H' e hv => hv)) fun due La ea hdue => ?_
      rw [e0L] at hdue
      have hrd : ∀ {L' : Hp} {rs : List (List Nat)}, Pap.pLots (tl z) = some rs → ∀ (σ' : L2.St), σ'[0]? = some (some (.str z)) → EvP (tCall (spRl C CT) [] E0 (tCons (tVar 0) tNil)) σ' L' (NewRows C L' rs) := fun {L' rs} hp σ' hs => ep_callA (ea_cons (ev_var hs) ea_nil) fun Ht et Q q =>
        ⟨L', .flat (.str z), .str z, rfl, et, ⟨rfl, rfl⟩, fun s hs => by injection hs with hs; subst hs; exact ⟨hT.g.len, hT.g.run⟩, fun s rs' hs hq v H' H2 st hv => by
          injection hs with hs
          subst hs
          rw [hp] at hq
          cases hq
          exact q v H' H2 st hv, fun hn => by have := hn z rfl; rw [hp] at this; cases this⟩
      cases hpl : Pap.pLots (tl z) with
      | none =>
        rw [hpl] at hdue
        cases (show due = .non from hdue)
        refine sv_set (ep_told (o := some CT) rfl (Door.rlNo fun s hs => by injection hs with hs; subst hs; exact ⟨hT.g, hpl⟩) (fun z => ds.rt (Option.some.inj z).symm) (fun z => ds.lt (Option.some.inj z).symm)) fun tv Lb eb htv => ?_
        obtain ⟨p, rfl, hp⟩ := htv
        have hp : Lb p = some (.lst [.str ("text" : Str), .str z]) := hp
        exact sv_when (b := true) (et_test (evN rfl rfl)) (fun _ => sv_ret (ep_ofP (ev_eqTold (ev_var rfl) hp rfl hasc) rfl)) (fun z => nomatch z)
      | some rs =>
        rw [hpl] at hdue
        have hdue : Tr C (rowsD (natR rs)) due La := hdue
        obtain ⟨pd, yd, epd, hpd, hdd⟩ := hdue.2 _ (by rw [rowsD_nat])
        subst epd
        refine sv_set (ep_told (o := none) rfl (Door.rlOk hT.g hpl) (fun z => nomatch z) (fun z => nomatch z)) fun tv Lb eb htv => ?_
        refine sv_when (b := false) (et_test (evN rfl rfl)) (fun z => nomatch z) fun _ => ?_
        -- sizes
        obtain ⟨os, hos⟩ : ∃ os, Pap.allSome ((Pap.linesOf (tl z)).map Pap.pLot) = some rs := by
          unfold Pap.pLots at hpl
          cases h : Pap.allSome ((Pap.linesOf (tl z)).map Pap.pLot) with
          | none => rw [h] at hpl; cases hpl
          | some rs' =>
            rw [h] at hpl
            have hpl : (if rs'.all Pap.rising = true ∧ Pap.lotsText rs' = tl z then some rs' else none) = some rs := hpl
            split at hpl
            · injection hpl with hpl
              subst hpl
              exact ⟨(), rfl⟩
            · cases hpl
        have hsz : siz (rowsD (natR rs)) ≤ 30000 := by
          rw [rowsD_nat]
          have h1 := sizL_lots (Pap.linesOf (tl z))
          rw [Pap.allSome_some hos, List.map_map] at h1
          have h1 : sizL (rs.map fun r => D.seq false (r.map fun n => .flat (nV n))) ≤ _ := h1
          have h2 : ((Pap.linesOf (tl z)).map List.length).sum + 2 * (Pap.linesOf (tl z)).length ≤ 3 * (tl z).length + 3 := by
            unfold Pap.linesOf
            split
            · simp
            · have h1 := joinL_len (S := [10]) (ps := Pap.cut 10 (tl z)) (Pap.cut_ne 10 _)
              have hcl := cut_len 10 (tl z)
              rw [Pap.join_cut, List.length_singleton] at h1
              omega
          show sizL _ + 1 ≤ 30000
          omega
        have hg2 : okD (rowsD (natR rs)) ∧ dep (rowsD (natR rs)) ≤ 2 := by
          refine ⟨?_, ?_⟩
          · rw [rowsD_nat]
            exact okDL_of fun d hd => by
              obtain ⟨r, _, rfl⟩ := List.mem_map.mp hd
              exact okDL_of fun d hd => by
                obtain ⟨n, _, rfl⟩ := List.mem_map.mp hd
                exact trivial
          · exact (dep_rows rs)
        have ex : ∀ {σ' : L2.St} {L' : Hp} {x y : V} {te : TE}, EvP te σ' L' (fun v H' => v = x ∧ Den C H' (rowsD (natR rs)) x) → σ'[1]? = some (some y) → Den C L' (rowsD (natR rs)) y → True := fun _ _ _ => trivial
        -- late.append(None): late is not told before
        intro H1' e1' Dd dn dr
        refine d_set (hrd hpl _ rfl) e1' fun lv Lc T1 s1 hlv => ?_
        obtain ⟨hll, pl, rfl, npl, yl, hyl⟩ := hlv
        have ec := s1.loc
        have evE : Ev (tCall (spEx C 6) [] E0 (tCons (tVar 4) (tCons (tVar 1) tNil))) [some (.str z), some (.ref pd), some tv, x3, some (.ref pl)] Lc (.bl true) :=
          EvP.ev (ep_callA (ea_cons (ev_var rfl) (ea_cons (ev_var rfl) ea_nil)) (gv_spP (rowsD (natR rs)) ⟨_, _, rfl, hll, Den.mono (eb.trans ec) _ _ hdue.1, by omega, hg2.1, hsz⟩ fun v H4 e4 hv => hv))
        refine d_when (b := false) (et_not (et_B evE)) s1.inn (fun z => nomatch z) fun _ T2 e2 => ?_
        have hp1 : T2 pl = some (.lst yl) := e2 _ _ (s1.inn _ _ hyl)
        have npl1 : H1' pl = none := by
          rcases s1.fre pl (by rw [hyl]; exact fun z => nomatch z) with z | z
          · exact absurd npl z
          · exact z
        refine ⟨.ref pl, rfl, .inl ⟨rfl, yl, .inl (.inl hp1)⟩, pl, yl, .non, rfl, rfl, hp1, ?_, ?_⟩
        · obtain ⟨p', ys', k1, k2, k3, _⟩ := LLx.get hll
          injection k1 with k1
          subst k1
          have := rd_inj k2 (.inl hyl) (fun _ _ z => nomatch z) (fun _ _ z => nomatch z)
          injection this with this
          subst this
          have h3 := sizL_len (rs.map fun r => G.D.seq false (r.map fun n => .flat (nV n)))
          rw [rowsD_nat] at hsz
          have hsz : sizL (rs.map fun r => G.D.seq false (r.map fun n => .flat (nV n))) + 1 ≤ 30000 := hsz
          rw [List.length_map] at h3
          rw [sizeLine_eq]
          omega
        · have st : Step Lb H1' Lb (upd T2 pl (.lst (yl ++ [.non]))) := ⟨Ex.refl _, (s1.tot.trans e2).mut npl1, (e1'.trans (s1.tot.trans e2)).mut npl, fun b hb => .inl hb⟩
          refine d_ret (Pq := Eqv (.bl true)) (ep_call2 (P2 := fun x y L' => Den C L' (rowsD (natR rs)) x ∧ y = .ref pd ∧ Ex Lb L') (hrd hpl _ rfl) (fun x L' e' hx => ep_var rfl ⟨hx.1, rfl, e'⟩) fun x y L' e' ⟨hx, hy, e''⟩ => ?_) st.inn fun v L4 T4 s4 hv => dr v L4 T4 (st.trans s4) hv
          subst hy
          exact gv_spP (rowsD (natR rs)) ⟨_, _, rfl, hx, Den.mono (eb.trans e'') _ _ hdue.1, by omega, hg2.1, hsz⟩ fun v H4 e4 hv => hv
    -- the recipe
    refine sv_set (ep_callA (ea_cons (ev_var rfl) ea_nil) (gv_spP z ⟨rfl, hlen⟩ fun v H' e hv => hv)) fun due La ea hdue => ?_
    rw [e0R] at hdue
    cases hpr : Pap.pRecipe (tl z) with
    | none =>
      rw [hpr] at hdue
      cases (show due = .non from hdue)
      refine sv_set (ep_told (o := some CT) rfl (Door.rdNo fun s hs => by injection hs with hs; subst hs; exact ⟨hT.g, hpr⟩) (fun z => ds.rt (Option.some.inj z).symm) (fun z => ds.lt (Option.some.inj z).symm)) fun tv Lb eb htv => ?_
      obtain ⟨p, rfl, hp⟩ := htv
      have hp : Lb p = some (.lst [.str ("text" : Str), .str z]) := hp
      refine sv_when (b := false) (et_is (et_and (et_test (evN rfl rfl)) fun _ => et_test (ev_neTold (ev_var rfl) hp rfl hasc)) rfl) (fun z => nomatch z) fun _ => ?_
      refine sv_when (b := false) (et_is (et_and (b := false) (et_test (evNN rfl rfl)) fun z => nomatch z) rfl) (fun z => nomatch z) fun _ => ?_
      exact lots Lb _ _ _ (ea.trans eb)
    | some q =>
      obtain ⟨m, rows⟩ := q
      rw [hpr] at hdue
      obtain ⟨r, rfl, pr, hre, hprt⟩ := hdue
      have hre : La r = some (.lst [nV m, .ref pr]) := hre
      have hprt : Tr C (rowsD (natR rows)) (.ref pr) La := hprt
      refine sv_set (ep_told (o := none) rfl (Door.rdOk hT.g hpr) (fun z => nomatch z) (fun z => nomatch z)) fun tv Lb eb htv => ?_
      refine sv_when (b := false) (et_is (et_and (b := false) (et_test (evN rfl rfl)) fun z => nomatch z) rfl) (fun z => nomatch z) fun _ => ?_
      obtain ⟨_, yp, epp, hyp, hpd⟩ := hprt.2 _ (by rw [rowsD_nat])
      cases epp
      have hypl : yp.length = rows.length := by rw [DenL.len _ _ hpd, List.length_map]
      have ix0 : Ev (tOp (rIxL K) (tVar 1) (tC (.int 0))) [some (.str z), some (.ref r), some tv, none, none] Lb (nV m) := ev_op (ev_var rfl) ev_c (rv_ixL (i := 0) (sq_of (eb _ _ hre)) (atI_nat (j := 0) rfl))
      have ix1 : Ev (tOp (rIxL K) (tVar 1) (tC (.int 1))) [some (.str z), some (.ref r), some tv, none, none] Lb (.ref pr) := ev_op (ev_var rfl) ev_c (rv_ixL (i := 1) (sq_of (eb _ _ hre)) (atI_nat (j := 1) rfl))
      have c1 : Ev (tOp (rI0 fun i j => .bl (decide (i < j))) (tOp (rIxL K) (tVar 1) (tC (.int 0))) (tC (.int 9))) [some (.str z), some (.ref r), some tv, none, none] Lb (.bl (decide ((m : Int) < 9))) := ev_op ix0 ev_c rv_I0
      have c2 : Ev (tOp (rI0 fun i j => .bl (decide (i < j))) (tLenS K (tOp (rIxL K) (tVar 1) (tC (.int 1)))) (tC (.int 9))) [some (.str z), some (.ref r), some tv, none, none] Lb (.bl (decide (((yp.length : Nat) : Int) < 9))) := ev_op (ev_lenL ix1 (sq_of (K := K) (eb _ _ hyp))) ev_c rv_I0
      have evc := et_and (et_test (evNN (L := Lb) (σ' := [some (.str z), some (.ref r), some tv, none, none]) (v := .ref r) (b := true) rfl rfl)) fun _ => et_and (et_test c1) fun _ => et_test c2
      refine sv_when evc (fun hb => ?_) fun _ => lots Lb _ _ _ (ea.trans eb)
      -- made
      have h9 : rows.length < 9 := by
        rw [Bool.and_eq_true_iff, Bool.and_eq_true_iff] at hb
        have := of_decide_eq_true hb.2.2
        omega
      obtain ⟨r0, hle⟩ : ∃ r0, (Pap.recText m rows).length ≤ (tl z).length ∧ rows.length ≤ (tl z).length ∧ (∀ r ∈ rows, r.length ≤ (tl z).length + 1) ∧ ∀ k, Run k (tl z) → m < 10 ^ k ∧ ∀ r ∈ rows, ∀ n ∈ r, n < 10 ^ k := by
        unfold Pap.pRecipe at hpr
        split at hpr
        · rename_i h4
          split at hpr
          · rename_i m' r0 h5
            split at hpr
            · rename_i rows' h6
              split at hpr
              · injection hpr with hpr
                injection hpr with q1 q2
                subst q1 q2
                exact ⟨r0, rec_le h4 h5 h6⟩
              · cases hpr
            · cases hpr
          · cases hpr
        · cases hpr
      have hsz : siz (rowsD (natR rows)) ≤ 20000 := by
        rw [rowsD_nat]
        have h1 := siz_rows rows 2001 fun r hr => by have := hle.2.2.1 r hr; omega
        have h2 : rows.length * (2001 + 1) ≤ 8 * 2002 := Nat.mul_le_mul_right _ (by omega)
        show sizL _ + 1 ≤ 20000
        omega
      have hok : okD (rowsD (natR rows)) := by
        rw [rowsD_nat]
        exact okDL_of fun d hd => by
          obtain ⟨r, _, rfl⟩ := List.mem_map.mp hd
          exact okDL_of fun d hd => by
            obtain ⟨n, _, rfl⟩ := List.mem_map.mp hd
            exact trivial
      have hdpr := dep_rows rows
      refine sv_set (P := fun v H' => ∃ a, v = .ref a ∧ Den C H' (rcN a m rows) (.ref a)) (ep_callA (ea_cons (ev_var rfl) ea_nil) fun Ht et Q q => ⟨Lb, .flat (.str z), .str z, rfl, et, ⟨rfl, rfl⟩, fun s hs => by injection hs with hs; subst hs; exact hT.g, fun s m' rows' hs hq v H' H2 st hv => by
          injection hs with hs
          subst hs
          rw [hpr] at hq
          cases hq
          exact q v H' H2 st hv, fun hn => by have := hn z rfl; rw [hpr] at this; cases this⟩) fun mv Lc ec hmv => ?_
      obtain ⟨ma, rfl, hmd⟩ := hmv
      have trd : ∀ {L' : Hp}, Ex Lc L' → Den C L' (.seq false [.flat (nV m), rowsD (natR rows)]) (.ref r) := fun e => ⟨r, _, rfl, .inl (e _ _ (ec _ _ (eb _ _ hre))), _, _, rfl, ⟨rfl, rfl⟩, _, _, rfl, Den.mono (eb.trans (ec.trans e)) _ _ hprt.1, rfl⟩
      have evM : ∀ {L' : Hp}, Ex Lc L' → EvP (tMeth C "many" (spMa C) [] E0 (tVar 3) tNil) [some (.str z), some (.ref r), some tv, some (.ref ma), none] L' (Tr C (.flat (nV m))) := fun e Ht et Q qq => by
        have hd9 := Den.mono e _ _ hmd
        obtain ⟨_, dx, fs, p2, k1, k2, k3, k4⟩ := id hd9
        refine ⟨.ref ma, rfl, ma, dx, fs, rfl, et _ _ k1, k3.2.1, ?_⟩
        exact gv_spP (E := E0) (ma, m, rows) ⟨rfl, hd9, by show rows.length ≤ 30000; omega⟩ (fun v H' e hv => by rw [show v = nV m from hv]; exact tr_flat rfl) Ht et Q qq
      have evS : ∀ {L' : Hp}, Ex Lc L' → EvP (tMeth C "needs" (spNe C) [] E0 (tVar 3) tNil) [some (.str z), some (.ref r), some tv, some (.ref ma), none] L' (Tr C (rowsD (natR rows))) := fun e Ht et Q qq => by
        have hd9 := Den.mono e _ _ hmd
        obtain ⟨_, dx, fs, p2, k1, k2, k3, k4⟩ := id hd9
        refine ⟨.ref ma, rfl, ma, dx, fs, rfl, et _ _ k1, k3.2.2, ?_⟩
        exact gv_spP (E := E0) (ma, m, rows) ⟨rfl, hd9, by show rows.length ≤ 30000; omega⟩ (fun v H' e hv => LLx.tr hv.1 hv.2) Ht et Q qq
      have evE : Ev (tCall (spEx C 6) [] E0 (tCons (tLst (tCons (tMeth C "many" (spMa C) [] E0 (tVar 3) tNil) (tCons (tMeth C "needs" (spNe C) [] E0 (tVar 3) tNil) tNil))) (tCons (tVar 1) tNil))) [some (.str z), some (.ref r), some tv, some (.ref ma), none] Lc (.bl true) :=
        EvP.ev (ep_call2 (P1 := Tr C (.seq false [.flat (nV m), rowsD (natR rows)])) (P2 := fun x y L' => Den C L' (.seq false [.flat (nV m), rowsD (natR rows)]) x ∧ y = .ref r ∧ Ex Lc L') (ep_tlst (epa_tcons (evM (Ex.refl _)) fun H' e => epa_tcons (evS e) fun _ _ => epa_tnil) (Nat.le_of_ble_eq_true rfl)) (fun x L' e' hx => ep_var rfl ⟨hx.1, rfl, e'⟩) fun x y L' e' ⟨hx, hy, e''⟩ => by
          subst hy
          exact gv_spP (.seq false [.flat (nV m), rowsD (natR rows)]) ⟨_, _, rfl, hx, trd e'', by show max 0 (max (dep (rowsD (natR rows))) 0) + 1 ≤ 6; omega, ⟨trivial, hok, trivial⟩, by show 1 + (siz (rowsD (natR rows)) + 0) + 1 ≤ 30000; omega⟩ fun v H4 e4 hv => hv)
      exact sv_ifE (b := false) (et_not (et_B evE)) (fun z => nomatch z) fun _ => sv_next (lots Lc _ _ _ ((ea.trans eb).trans ec))
end
end G

/-! The purse: _law_purse, _law_mixed, _law_draw, _law_purses, _law_one_of. -/
namespace G
open PySem PySem.Spec PyProof.Rows L2 Evl Tp RZ TL L2X StX
section
variable {P : Program} {w : World} {K : PySem.W.Frag} {mg : Str → Option Value} {base : Heap} {f C CL CT CR : Addr} {fd : FuncData} {H : Hp} {σ : L2.St}
def CPowW (i j : Int) : Prop := 0 ≤ j ∧ (Builtin.Int.intBits i : Int) * j ≤ 2 ^ 27
theorem op_powW {X : Cx} : OpR X (binaryOp .Pow) (rI CPowW fun i j => .int (i ^ j.toNat)) := opI fun _ _ _ _ _ _ _ hc q => PyProof.Rows.pow_int hc.1 hc.2 q
/-- an int that is told by what holds of it -/
def IntP (R : Int → Prop) (v : V) (_ : Hp) : Prop := ∃ i, v = .int i ∧ R i
theorem ep_int {te : TE} {i : Int} {R : Int → Prop} (h : Ev te σ H (.int i)) (r : R i) : EvP te σ H (IntP R) := ep_ofP h ⟨i, rfl, r⟩
theorem ep_opI {ta tb : TE} {Cc : Int → Int → Prop} {g : Int → Int → Int} {R1 R2 R3 : Int → Prop} (ha : EvP ta σ H (IntP R1)) (hb : ∀ H', Ex H H' → EvP tb σ H' (IntP R2)) (hc : ∀ i j, R1 i → R2 j → Cc i j) (hr : ∀ i j, R1 i → R2 j → R3 (g i j)) : EvP (tOp (rI Cc fun i j => .int (g i j)) ta tb) σ H (IntP R3) :=
  ep_op (P2 := fun x y H' => (∃ i, x = .int i ∧ R1 i) ∧ ∃ j, y = .int j ∧ R2 j) ha (fun x H' e hx => Gv.imp (hb H' e) fun v H'' e2 hv => ⟨hx, hv⟩) fun x y H' e ⟨⟨i, hx, ri⟩, j, hy, rj⟩ => by
    subst hx hy
    exact fun H1 e1 Q q => ⟨i, j, rfl, rfl, hc i j ri rj, q _ H' H1 (Step.refl e1) ⟨_, rfl, hr i j ri rj⟩⟩
theorem ep_opI0 {ta tb : TE} {g : Int → Int → Int} {R1 R2 R3 : Int → Prop} (ha : EvP ta σ H (IntP R1)) (hb : ∀ H', Ex H H' → EvP tb σ H' (IntP R2)) (hr : ∀ i j, R1 i → R2 j → R3 (g i j)) : EvP (tOp (rI0 fun i j => .int (g i j)) ta tb) σ H (IntP R3) :=
  ep_op (P2 := fun x y H' => (∃ i, x = .int i ∧ R1 i) ∧ ∃ j, y = .int j ∧ R2 j) ha (fun x H' e hx => Gv.imp (hb H' e) fun v H'' e2 hv => ⟨hx, hv⟩) fun x y H' e ⟨⟨i, hx, ri⟩, j, hy, rj⟩ => by
    subst hx hy
    exact fun H1 e1 Q q => ⟨i, j, rfl, rfl, q _ H' H1 (Step.refl e1) ⟨_, rfl, hr i j ri rj⟩⟩
abbrev tInt1 (te : TE) : TE := tCB (fun xs H Q => (∃ i, xs = [.int i] ∧ Q (.int i) H) ∨ ∃ k, xs = [.bl k] ∧ Q (.int (if k then 1 else 0)) H) (tCons te tNil)
theorem ep_int1 {te : TE} {R : Int → Prop} (h : EvP te σ H (IntP R)) : EvP (tInt1 te) σ H (IntP R) := ep_cb1 h fun v H' e ⟨i, hv, r⟩ => by
  subst hv
  exact fun H1 e1 Q q => .inl ⟨i, rfl, q _ H' H1 (Step.refl e1) ⟨i, rfl, r⟩⟩
def tt (_ : Int) : Prop := True
theorem ep_c {i : Int} : EvP (tC (.int i)) σ H (IntP (· = i)) := ep_int ev_c rfl
theorem ep_cR {i : Int} {R : Int → Prop} (r : R i) : EvP (tC (.int i)) σ H (IntP R) := ep_int ev_c r
/-- x % j, j written and positive -/
theorem ep_modc {ta tb : TE} {j : Int} (ha : EvP ta σ H (IntP tt)) (hb : ∀ H', Ex H H' → EvP tb σ H' (IntP (· = j))) (hj : 0 < j) : EvP (tOp (rI (fun _ j => 0 < j) fun i j => .int (i % j)) ta tb) σ H (IntP fun r => 0 ≤ r ∧ r < j) :=
  ep_opI ha hb (fun i k _ hk => by rw [hk]; exact hj) fun i k _ hk => by rw [hk]; exact ⟨Int.emod_nonneg _ (by omega), Int.emod_lt_of_pos _ hj⟩
/-! ### _law_mixed -/
abbrev nMi : List Str := ["_law_seed", "_law_spin", "_law_at", "_law_mixed_here"]
theorem scMi : FnScope nMi ["_law_seed", "_law_spin", "_law_at"] (defScope (top 27)) := ⟨rfl, rfl, rfl, by decide +kernel, rfl, by decide +kernel, by decide +kernel⟩
def preMi (q : Int × Int × Int) (vs : List V) (_ : Hp) : Prop := vs = [.int q.1, .int q.2.1, .int q.2.2] ∧ 0 ≤ q.2.1 ∧ q.2.1 ≤ 1000000000
abbrev spMi : Sp := spP preMi (fun _ => IntP tt)
theorem ok_mixed (F : FnT K "_law_mixed" 27 f fd) (fr : Fr mg) : FnOk P w K mg base CX0 1 f fd ["_law_seed", "_law_spin", "_law_at"] spMi := by
  refine okP F scMi (fun x vs H h => ?_) (fun cdv A outer s H1 vs E q H hr h => ?_)
  · obtain ⟨rfl, _⟩ := h
    rfl
  · obtain ⟨a, b, c⟩ := q
    obtain ⟨rfl, hb0, hb⟩ := h
    have hb0 : 0 ≤ b := hb0
    have hb : b ≤ 1000000000 := hb
    refine ⟨_, PSs.nox (pss_cons (ps_set (i := 3) scMi.nd rfl (.inl rfl) (pe_op op_add (pe_op op_mul (pv 0) pe_int) (pe_op op_mul (pe_op op_mul pe_int (pv 1)) (pv 1))))
      (pss_cons (ps_set (i := 3) scMi.nd rfl (.inl rfl) (pe_op op_mod (pe_callTy call_int1 rfl fr.int_ bt_int (pa_cons (pe_op op_add (pe_op op_add (pv 3) (pe_op op_mul pe_int (pv 2))) (pv 1)) pa_nil)) pe_int))
      (pss_cons (ps_set (i := 3) scMi.nd rfl (.inl rfl) (pe_op op_mod (pe_callTy call_int1 rfl fr.int_ bt_int (pa_cons (pe_op op_add (pe_op op_mul (pv 3) (pv 3)) pe_int) pa_nil)) pe_int))
      (pss_one (ps_ret (pe_op op_mod (pe_callTy call_int1 rfl fr.int_ bt_int (pa_cons (pe_op op_mul (pv 3) pe_int) pa_nil)) pe_int)))))), ?_⟩
    have cb : ∀ i j : Int, tt i → j = b → CMul i j := fun i j _ hj => .inr (by rw [hj]; exact ⟨by omega, by omega⟩)
    refine sv_set (P := IntP tt) (ep_opI0 (R1 := tt) (R2 := tt) (ep_opI (R1 := tt) (R2 := (· = 69069)) (ep_int (ev_var rfl) trivial) (fun _ _ => ep_c) (fun i j _ hj => .inr (by rw [hj]; exact ⟨by decide, by decide⟩)) fun _ _ _ _ => trivial)
      (fun _ _ => ep_opI (R1 := tt) (R2 := (· = b)) (ep_opI (R1 := (· = 104729)) (R2 := tt) ep_c (fun _ _ => ep_int (ev_var rfl) trivial) (fun i j hi _ => .inl (by rw [hi]; exact ⟨by decide, by decide⟩)) fun _ _ _ _ => trivial) (fun _ _ => ep_int (ev_var rfl) rfl) cb fun _ _ _ _ => trivial) fun _ _ _ _ => trivial) fun v1 Ha ea h1 => ?_
    obtain ⟨i1, rfl, _⟩ := h1
    refine sv_set (ep_modc (j := 2147483647) (ep_int1 (ep_opI0 (R1 := tt) (R2 := tt) (ep_opI0 (R1 := tt) (R2 := tt) (ep_int (ev_var rfl) trivial) (fun _ _ => ep_opI (R1 := (· = 7919)) (R2 := tt) ep_c (fun _ _ => ep_int (ev_var rfl) trivial) (fun i j hi _ => .inl (by rw [hi]; exact ⟨by decide, by decide⟩)) fun _ _ _ _ => trivial) fun _ _ _ _ => trivial) (fun _ _ => ep_int (ev_var rfl) trivial) fun _ _ _ _ => trivial)) (fun _ _ => ep_c) (by decide)) fun v2 Hb eb h2 => ?_
    obtain ⟨i2, rfl, p2⟩ := h2
    refine sv_set (ep_modc (j := 2147483629) (ep_int1 (ep_opI0 (R1 := tt) (R2 := tt) (ep_opI (R1 := (· = i2)) (R2 := tt) (ep_int (ev_var rfl) rfl) (fun _ _ => ep_int (ev_var rfl) trivial) (fun i j hi _ => .inl (by rw [hi]; exact ⟨by omega, by omega⟩)) fun _ _ _ _ => trivial) (fun _ _ => ep_cR trivial) fun _ _ _ _ => trivial)) (fun _ _ => ep_c) (by decide)) fun v3 Hc ec h3 => ?_
    obtain ⟨i3, rfl, p3⟩ := h3
    exact sv_ret (Gv.imp (ep_modc (j := 2147483587) (ep_int1 (ep_opI (R1 := tt) (R2 := (· = 48271)) (ep_int (ev_var rfl) trivial) (fun _ _ => ep_c) (fun i j _ hj => .inr (by rw [hj]; exact ⟨by decide, by decide⟩)) fun _ _ _ _ => trivial)) (fun _ _ => ep_c) (by decide)) fun v H' e ⟨i, h, _⟩ => ⟨i, h, trivial⟩)
/-! ### the purse apart -/
def Pu (n : Nat) (p : Addr) (T : Hp) : Prop := ∃ a b c d : Int, T p = some (.lst [.int a, .int b, .int c, .int d]) ∧ 0 ≤ c ∧ c ≤ n
theorem Pu.mono {n m : Nat} {p : Addr} {T : Hp} (h : Pu n p T) (k : n ≤ m) : Pu m p T := by
  obtain ⟨a, b, c, d, h1, h2, h3⟩ := h
  exact ⟨a, b, c, d, h1, h2, by omega⟩
theorem Pu.ex {n : Nat} {p : Addr} {T T' : Hp} (e : Ex T T') (h : Pu n p T) : Pu n p T' := by
  obtain ⟨a, b, c, d, h1, h2⟩ := h
  exact ⟨a, b, c, d, e _ _ h1, h2⟩
structure StepQ (p : Addr) (H H1 H' H2 : Hp) : Prop where
  loc : Ex H H'
  tot : ∀ b o, b ≠ p → H1 b = some o → H2 b = some o
  inn : Ex H' H2
  fre : ∀ b, H' b ≠ none → H b ≠ none ∨ H1 b = none
theorem StepQ.of {p : Addr} {H1 H' H2 : Hp} (s : Step H H1 H' H2) : StepQ p H H1 H' H2 := ⟨s.loc, fun b o _ h => s.tot b o h, s.inn, s.fre⟩
theorem StepQ.out {p : Addr} {n : Nat} {H1 H' H2 : Hp} (s : StepQ p H H1 H' H2) (h : H p = none) (hp : Pu n p H1) : H' p = none := by
  cases q : H' p with
  | none => rfl
  | some o =>
    obtain ⟨a, b, c, d, h1, _⟩ := hp
    rcases s.fre p (by rw [q]; exact fun z => nomatch z) with z | z
    · exact absurd h z
    · rw [h1] at z; cases z
theorem StepQ.trans {p : Addr} {n : Nat} {H1 H' H2 H'' H3 : Hp} (s : StepQ p H H1 H' H2) (t : StepQ p H' H2 H'' H3) (hp : Pu n p H1) (h0 : H p = none) (hp2 : ∃ m, Pu m p H2) : StepQ p H H1 H'' H3 := ⟨s.loc.trans t.loc, fun b o hb h => t.tot b o hb (s.tot b o hb h), t.inn, fun b hb => (t.fre b hb).elim (fun z => s.fre b z) fun z => by
  by_cases hbp : b = p
  · subst hbp
    obtain ⟨m, a, b', c, d, h1, _⟩ := hp2
    rw [h1] at z
    cases z
  · right
    cases q : H1 b with
    | none => rfl
    | some o => rw [s.tot b o hbp q] at z; cases z⟩
/-- a value that is asked for where the purse at p may be drawn from: n spins so far -/
def EvQ (p : Addr) (te : TE) (σ : L2.St) (n : Nat) (H : Hp) (Pq : V → Nat → Hp → Prop) : Prop := ∀ H1, Ex H H1 → H p = none → Pu n p H1 → ∀ Q : VK, (∀ v n' H' H2, StepQ p H H1 H' H2 → Pu n' p H2 → Pq v n' H' → Q v H2) → te σ H1 Q
variable {p : Addr} {n : Nat} {ta tb te : TE}
theorem eq_of {P1 : V → Hp → Prop} (h : EvP te σ H P1) : EvQ p te σ n H (fun v n' H' => n' = n ∧ P1 v H') := fun H1 e h0 hp Q q => h H1 e Q fun v H' H2 s p1 => q v n H' H2 (StepQ.of s) (hp.ex s.tot) ⟨rfl, p1⟩
theorem EvQ.imp {P1 P2 : V → Nat → Hp → Prop} (h : EvQ p te σ n H P1) (k : ∀ v n' H', Ex H H' → P1 v n' H' → P2 v n' H') : EvQ p te σ n H P2 := fun H1 e h0 hp Q q => h H1 e h0 hp Q fun v n' H' H2 s hp2 p1 => q v n' H' H2 s hp2 (k v n' H' s.loc p1)
/-- one after another -/
theorem eq_bind {f1 : Hp → VK → Prop} {P1 P2 : V → Nat → Hp → Prop} {g : V → Hp → VK → Prop} (h : EvQ p te σ n H P1) (k : ∀ v n' H', Ex H H' → P1 v n' H' → ∀ H2, Ex H' H2 → H' p = none → Pu n' p H2 → ∀ Q : VK, (∀ v n'' H'' H3, StepQ p H' H2 H'' H3 → Pu n'' p H3 → P2 v n'' H'' → Q v H3) → g v H2 Q) :
    ∀ H1, Ex H H1 → H p = none → Pu n p H1 → ∀ Q : VK, (∀ v n' H' H2, StepQ p H H1 H' H2 → Pu n' p H2 → P2 v n' H' → Q v H2) → te σ H1 fun v H2 => g v H2 Q := fun H1 e h0 hp Q q =>
  h H1 e h0 hp _ fun v n' H' H2 s hp2 p1 => k v n' H' s.loc p1 H2 s.inn (s.out h0 hp) hp2 Q fun w n'' H'' H3 s2 hp3 p2 => q w n'' H'' H3 (s.trans s2 hp h0 ⟨_, hp2⟩) hp3 p2
theorem eq_op {r : R2} {P1 P3 : V → Nat → Hp → Prop} {P2 : V → V → Nat → Hp → Prop} (ha : EvQ p ta σ n H P1) (hb : ∀ x n' H', Ex H H' → P1 x n' H' → EvQ p tb σ n' H' (P2 x)) (hr : ∀ x y n' H', P2 x y n' H' → Gv (r x y) H' (fun v H'' => P3 v n' H'')) : EvQ p (tOp r ta tb) σ n H P3 := fun H1 e h0 hp Q q =>
  ha H1 e h0 hp _ fun x n' H' H2 s hp2 p1 => hb x n' H' s.loc p1 H2 s.inn (s.out h0 hp) hp2 _ fun y n'' H'' H3 s2 hp3 p2 => hr x y n'' H'' p2 H3 s2.inn _ fun v H4 H5 s3 p3 =>
    q v n'' H4 H5 ((s.trans s2 hp h0 ⟨_, hp2⟩).trans (StepQ.of s3) hp h0 ⟨_, hp3⟩) (hp3.ex s3.tot) p3
/-! ### _law_draw -/
abbrev nDr : List Str := ["_law_purse_here", "_law_many", "_law_drawn", "_law_found", "_law_piece"]
theorem scDr : FnScope nDr ["_law_purse_here", "_law_many"] (defScope (top 28)) := ⟨rfl, rfl, rfl, by decide +kernel, rfl, by decide +kernel, by decide +kernel⟩
def spDr : Sp := fun vs H1 Q _ => ∃ (H : Hp) (p : Addr) (m : Int) (n : Nat), vs = [.ref p, .int m] ∧ Ex H H1 ∧ H p = none ∧ Pu n p H1 ∧ 1 ≤ m ∧ m ≤ 100000 ∧ n ≤ 900000000 ∧ ∀ r H2, StepQ p H H1 H H2 → Pu (n + 1) p H2 → 0 ≤ r → r < m → Q (.int r) H2
theorem bits_small {m : Int} (h1 : 1 ≤ m) (h2 : m ≤ 100000) : (Builtin.Int.intBits m : Int) / 28 = 0 := by
  have := PyProof.Rows.intBits_le (a := m) (k := 17) (by
    have h3 : (2 : Nat) ^ 17 = 131072 := by decide
    omega)
  omega
theorem ok_draw (F : FnT K "_law_draw" 28 f fd) (KM : Kp P w K mg base CX0 1 "_law_mixed" ["_law_seed", "_law_spin", "_law_at"] spMi) (fr : Fr mg) : FnOk P w K mg base CX0 2 f fd ["_law_purse_here", "_law_many"] spDr := by
  refine F.ok scDr (fun vs H Q E h => ?_) (fun cdv A outer s H1 vs Q E hr h => ?_)
  · obtain ⟨H, p, m, n, rfl, _⟩ := h
    rfl
  · obtain ⟨H, p, m, n, rfl, e, h0, ⟨a, b, c, d, hp, hc0, hc⟩, hm1, hm2, hn, q⟩ := h
    refine ⟨_, PSs.nox (pss_cons (ps_if (pt_cmpR op_gt (pe_ix ix_list (pv 0) pe_int (fun _ _ => rfl)) pe_int (nomark _))
        (pss_cons (ps_set (i := 2) scDr.nd rfl (.inl rfl) (pe_op op_mod (pe_callTy call_int1 rfl fr.int_ bt_int (pa_cons (pe_ix ix_list (pv 0) pe_int (fun _ _ => rfl)) pa_nil)) (pv 1)))
        (pss_cons (ps_asg (pe_op op_fdiv (pe_ix ix_list (pv 0) pe_int (fun _ _ => rfl)) (pv 1)) (pg_sub (pv 0) pe_int set_list))
        (pss_one (ps_ret (pv 2))))) pss_nil)
      (pss_cons (ps_set (i := 3) scDr.nd rfl (.inl rfl) pe_int)
      (pss_cons (ps_for PassesOwn.never rfl (pi_range1 rfl fr.range_ (pa_cons (pe_op op_add pe_int (pe_op op_fdiv (pe_bits (pv 1)) pe_int)) pa_nil)) (pg_name (i := 4) scDr.nd rfl (.inl rfl))
        (pss_cons (ps_asg (pe_op op_add (pe_ix ix_list (pv 0) pe_int (fun _ _ => rfl)) pe_int) (pg_sub (pv 0) pe_int set_list))
        (pss_one (ps_set (i := 3) scDr.nd rfl (.inl rfl) (pe_op op_add (pe_op op_mul (pv 3) pe_int) (pe_cl KM hr (pa_cons (pe_ix ix_list (pv 0) pe_int (fun _ _ => rfl)) (pa_cons (pe_ix ix_list (pv 0) pe_int (fun _ _ => rfl)) (pa_cons (pe_ix ix_list (pv 0) pe_int (fun _ _ => rfl)) pa_nil))))))))) 
      (pss_one (ps_ret (pe_op op_mod (pe_callTy call_int1 rfl fr.int_ bt_int (pa_cons (pv 3) pa_nil)) (pv 1))))))), ?_⟩
    have fin : ∀ (r : Int) (T : Hp) (a' b' c' d' : Int), (∀ b o, b ≠ p → H1 b = some o → T b = some o) → T p = some (.lst [.int a', .int b', .int c', .int d']) → 0 ≤ c' → c' ≤ n + 1 → 0 ≤ r → r < m → Q (.int r) T := fun r T a' b' c' d' ht hpT h1 h2 h3 h4 =>
      q r T ⟨Ex.refl _, ht, fun b o hb => ht b o (ne_of_none hb h0) (e b o hb), fun b hb => .inl hb⟩ ⟨a', b', c', d', hpT, h1, by omega⟩ h3 h4
    have st0 : L2.start nDr [.ref p, .int m] = [some (.ref p), some (.int m), none, none, none] := rfl
    rw [st0]
    have ix : ∀ {T : Hp} {σ' : L2.St} {xs : List V} (j : Nat) {v : V}, σ'[0]? = some (some (.ref p)) → T p = some (.lst xs) → xs[j]? = some v → Ev (tOp (rIxL K) (tVar 0) (tC (.int (j : Int)))) σ' T v := fun {T σ' xs} j {v} h hT hj => ev_op (ev_var h) ev_c (rv_ixL (sq_of hT) (atI_nat hj))
    have evT : EvT (tTest (tOp (rI0 fun i j => .bl (decide (j < i))) (tOp (rIxL K) (tVar 0) (tC (.int 0))) (tC (.int 0)))) [some (.ref p), some (.int m), none, none, none] H1 (decide (0 < a)) := et_test (ev_op (ix 0 rfl hp rfl) ev_c rv_I0)
    refine q_when evT (fun ha T1 e1 => ?_) fun ha T1 e1 => ?_
    · refine q_asg (v := .int (a % m)) (ev_op (ev_cb (ea_cons (ix 0 rfl (e1 _ _ hp) rfl) ea_nil) fun H1 e Q q => .inl ⟨a, rfl, q H1 (Ex.refl _)⟩) (ev_var rfl) (rv_I (by show 0 < m; omega))) fun T2 e2 => ?_
      refine q_setL (xs := [.int a, .int b, .int c, .int d]) (j := 0) (v := .int (a / m)) ((e1.trans e2) _ _ hp) (ev_op (ix 0 rfl ((e1.trans e2) _ _ hp) rfl) (ev_var rfl) (rv_I (by show 0 < m ∧ m < 1073741824; omega))) (ev_var rfl) ev_c (by show 0 < 4; decide) fun T3 e3 => ?_
      refine s_ret (v := .int (a % m)) (ev_var rfl) fun T4 e4 => ?_
      refine fin _ T4 (a / m) b c d (fun b' o hb' h => e4 _ _ (by rw [upd_ne hb']; exact ((e1.trans e2).trans e3) _ _ h)) (e4 _ _ upd_same) hc0 (by omega) (Int.emod_nonneg _ (by omega)) (Int.emod_lt_of_pos _ (by omega))
    · refine q_asg (v := .int 0) ev_c fun T2 e2 => ?_
      refine q_forR1 (n := 1) (ea_cons (by
          have := ev_op (σ := [some (.ref p), some (.int m), none, some (.int 0), none]) (H := T2) (ta := tC (.int 1)) (tb := tOp (rI CDiv fun i j => .int (i / j)) (tBits (tVar 1)) (tC (.int 28))) ev_c (ev_op (x := .int (Builtin.Int.intBits m : Nat)) (fun H5 e5 Q q => ⟨.int m, rfl, m, rfl, q H5 (Ex.refl _)⟩) ev_c (rv_I (C := CDiv) (g := fun i j => .int (i / j)) (by show (0 : Int) < 28 ∧ (28 : Int) < 1073741824; decide))) (rv_I0 (g := fun i j => .int (i + j)))
          rw [bits_small hm1 hm2] at this
          exact this) ea_nil) ⟨by decide, by decide⟩ (fun i σ' T => ∃ fo y c', σ' = [some (.ref p), some (.int m), none, some (.int fo), y] ∧ (∀ b o, b ≠ p → H1 b = some o → T b = some o) ∧ T p = some (.lst [.int a, .int b, .int c', .int d]) ∧ 0 ≤ c' ∧ c' ≤ c + i)
        (fun T3 e3 => ⟨0, none, c, rfl, fun b' o _ h => ((e1.trans e2).trans e3) _ _ h, ((e1.trans e2).trans e3) _ _ hp, hc0, by omega⟩) (fun i σ' T hi hP => ?_) fun σ' T hP => ?_
      · obtain ⟨fo, y, c', rfl, ht, hpT, k1, k2⟩ := hP
        have hi0 : i = 0 := by omega
        subst hi0
        refine q_setL (xs := [.int a, .int b, .int c', .int d]) (j := 2) (v := .int (c' + 1)) hpT (ev_op (ix 2 rfl hpT rfl) ev_c rv_I0) (ev_var rfl) ev_c (by show 2 < 4; decide) fun T3 e3 => ?_
        have hp3 : (upd T3 p (.lst [.int a, .int b, .int (c' + 1), .int d])) p = some (.lst [.int a, .int b, .int (c' + 1), .int d]) := upd_same
        have evm : EvP (tCall spMi [] E0 (tCons (tOp (rIxL K) (tVar 0) (tC (.int 1))) (tCons (tOp (rIxL K) (tVar 0) (tC (.int 2))) (tCons (tOp (rIxL K) (tVar 0) (tC (.int 3))) tNil)))) [some (.ref p), some (.int m), none, some (.int fo), some (.int (((0 : Nat) : Int)))] (upd T3 p (.lst [.int a, .int b, .int (c' + 1), .int d])) (IntP tt) :=
          ep_callA (ea_cons (ix 1 rfl hp3 rfl) (ea_cons (ix 2 rfl hp3 rfl) (ea_cons (ix 3 rfl hp3 rfl) ea_nil))) (gv_spP (b, c' + 1, d) ⟨rfl, by show 0 ≤ c' + 1; omega, by show c' + 1 ≤ 1000000000; omega⟩ fun v H' e hv => hv)
        have evs : EvP (tOp (rI0 fun i j => .int (i + j)) (tOp (rI CMul fun i j => .int (i * j)) (tVar 3) (tC (.int 2147483587))) (tCall spMi [] E0 (tCons (tOp (rIxL K) (tVar 0) (tC (.int 1))) (tCons (tOp (rIxL K) (tVar 0) (tC (.int 2))) (tCons (tOp (rIxL K) (tVar 0) (tC (.int 3))) tNil))))) [some (.ref p), some (.int m), none, some (.int fo), some (.int (((0 : Nat) : Int)))] (upd T3 p (.lst [.int a, .int b, .int (c' + 1), .int d])) (IntP tt) :=
          ep_opI0 (R1 := tt) (R2 := tt) (ep_opI (R1 := tt) (R2 := (· = 2147483587)) (ep_int (ev_var rfl) trivial) (fun _ _ => ep_c) (fun i j _ hj => .inr (by rw [hj]; exact ⟨by decide, by decide⟩)) fun _ _ _ _ => trivial) (fun H' e' Ht et Q q => evm Ht (e'.trans et) Q fun v H3 H4 s hv => by
            obtain ⟨z, rfl, hz⟩ := hv
            exact q _ H' H4 (Step.ex et s.tot) ⟨z, rfl, hz⟩) fun _ _ _ _ => trivial
        refine evs _ (Ex.refl _) _ fun v H' T4 s4 hv => ?_
        obtain ⟨z, rfl, _⟩ := hv
        exact ⟨z, _, c' + 1, rfl, fun b' o hb' h => s4.tot _ _ (by rw [upd_ne hb']; exact e3 _ _ (ht b' o hb' h)), s4.tot _ _ upd_same, by omega, by omega⟩
      · obtain ⟨fo, y, c', rfl, ht, hpT, k1, k2⟩ := hP
        have k2 : c' ≤ c + (1 : Nat) := k2
        refine s_ret (v := .int (fo % m)) (ev_op (ev_cb (ea_cons (ev_var rfl) ea_nil) fun H1 e Q q => .inl ⟨fo, rfl, q H1 (Ex.refl _)⟩) (ev_var rfl) (rv_I (by show 0 < m; omega))) fun T4 e4 => ?_
        exact fin _ T4 a b c' d (fun b' o hb' h => e4 _ _ (ht b' o hb' h)) (e4 _ _ hpT) k1 (by omega) (Int.emod_nonneg _ (by omega)) (Int.emod_lt_of_pos _ (by omega))
end
end G

/-! The purse's calculus; _law_one_of, _law_drawn_lot. -/
namespace G
open PySem PySem.Spec PyProof.Rows L2 Evl Tp RZ TL L2X StX
section
variable {P : Program} {w : World} {K : PySem.W.Frag} {mg : Str → Option Value} {base : Heap} {f C CL CT CR : Addr} {fd : FuncData} {H : Hp} {σ : L2.St} {p : Addr} {n : Nat} {ta tb te : TE}
/-! ### arguments, calls, tests -/
def EvQA (p : Addr) (ta : TA) (σ : L2.St) (n : Nat) (H : Hp) (Pq : List V → Nat → Hp → Prop) : Prop := ∀ H1, Ex H H1 → H p = none → Pu n p H1 → ∀ Q : List V → Hp → Prop, (∀ vs n' H' H2, StepQ p H H1 H' H2 → Pu n' p H2 → Pq vs n' H' → Q vs H2) → ta σ H1 Q
theorem StepQ.refl {H H1 : Hp} (e : Ex H H1) : StepQ p H H1 H H1 := ⟨Ex.refl _, fun _ _ _ h => h, e, fun _ h => .inl h⟩
theorem eqa_nil {Pq : List V → Nat → Hp → Prop} (h : Pq [] n H) : EvQA p tNil σ n H Pq := fun H1 e h0 hp Q q => q [] n H H1 (StepQ.refl e) hp h
theorem eqa_cons {tr : TA} {P1 : V → Nat → Hp → Prop} {Pq : List V → Nat → Hp → Prop} (h : EvQ p te σ n H P1) (hr : ∀ v n' H', Ex H H' → P1 v n' H' → EvQA p tr σ n' H' (fun r n'' H'' => Pq (v :: r) n'' H'')) : EvQA p (tCons te tr) σ n H Pq := fun H1 e h0 hp Q q =>
  h H1 e h0 hp _ fun v n' H' H2 s hp2 p1 => hr v n' H' s.loc p1 H2 s.inn (s.out h0 hp) hp2 _ fun r n'' H'' H3 s2 hp3 p2 => q _ n'' H'' H3 (s.trans s2 hp h0 ⟨_, hp2⟩) hp3 p2
theorem eqa_of {tr : TA} {vs : List V} (h : EvA tr σ H vs) : EvQA p tr σ n H (fun ws n' H' => ws = vs ∧ n' = n ∧ H' = H) := fun H1 e h0 hp Q q => h H1 e Q fun H2 e2 => q vs n H H2 (StepQ.of (Step.ex e e2)) (hp.ex e2) ⟨rfl, rfl, rfl⟩
/-- a def that draws: what it costs, what it gives -/
def spQ {α : Type} (pre : α → Addr → List V → Hp → Prop) (cost : α → Nat) (post : α → V → Hp → Prop) : Sp := fun vs H1 Q _ => ∃ (a : α) (H : Hp) (p : Addr) (n : Nat), Ex H H1 ∧ H p = none ∧ Pu n p H1 ∧ n + cost a ≤ 900000000 ∧ pre a p vs H ∧
  ∀ v n' H' H2, StepQ p H H1 H' H2 → Pu n' p H2 → n' ≤ n + cost a → post a v H' → Q v H2
theorem eq_call {α : Type} {pre : α → Addr → List V → Hp → Prop} {cost : α → Nat} {post : α → V → Hp → Prop} {tr : TA} {E : XK} {P1 : List V → Nat → Hp → Prop} {Pq : V → Nat → Hp → Prop} (h : EvQA p tr σ n H P1)
    (k : ∀ vs n' H', Ex H H' → P1 vs n' H' → ∃ a, pre a p vs H' ∧ n' + cost a ≤ 900000000 ∧ ∀ v n'' H'', Ex H' H'' → n'' ≤ n' + cost a → post a v H'' → Pq v n'' H'') : EvQ p (tCall (spQ pre cost post) [] E tr) σ n H Pq := fun H1 e h0 hp Q q =>
  h H1 e h0 hp _ fun vs n' H' H2 s hp2 p1 => by
    obtain ⟨a, ha, hc, hq⟩ := k vs n' H' s.loc p1
    show spQ pre cost post (vs ++ []) H2 Q E
    rw [List.append_nil]
    exact ⟨a, H', p, n', s.inn, s.out h0 hp, hp2, hc, ha, fun v n'' H'' H3 s2 hp3 hn pp => q v n'' H'' H3 (s.trans s2 hp h0 ⟨_, hp2⟩) hp3 (hq v n'' H'' s2.loc hn pp)⟩
/-- a test of what was drawn -/
def EvQT (p : Addr) (tt : TT) (σ : L2.St) (n : Nat) (H : Hp) (Pq : Bool → Nat → Hp → Prop) : Prop := ∀ H1, Ex H H1 → H p = none → Pu n p H1 → ∀ Q : Bool → Hp → Prop, (∀ b n' H' H2, StepQ p H H1 H' H2 → Pu n' p H2 → Pq b n' H' → Q b H2) → tt σ H1 Q
theorem eqt_test {Pq : Bool → Nat → Hp → Prop} (h : EvQ p te σ n H (fun v n' H' => ∃ b, v = .bl b ∧ Pq b n' H')) : EvQT p (tTest te) σ n H Pq := fun H1 e h0 hp Q q => h H1 e h0 hp _ fun v n' H' H2 s hp2 ⟨b, hv, pp⟩ => ⟨b, hv, q b n' H' H2 s hp2 pp⟩
theorem eq_if {tt : TT} {R : Bool → Nat → Hp → Prop} {Pq : V → Nat → Hp → Prop} (h : EvQT p tt σ n H R) (h1 : ∀ n' H', Ex H H' → R true n' H' → EvQ p ta σ n' H' Pq) (h2 : ∀ n' H', Ex H H' → R false n' H' → EvQ p tb σ n' H' Pq) : EvQ p (tIf tt ta tb) σ n H Pq := fun H1 e h0 hp Q q =>
  h H1 e h0 hp _ fun b n' H' H2 s hp2 r => by
    have k : ∀ {te : TE}, EvQ p te σ n' H' Pq → te σ H2 Q := fun hh => hh H2 s.inn (s.out h0 hp) hp2 Q fun v n'' H'' H3 s2 hp3 pp => q v n'' H'' H3 (s.trans s2 hp h0 ⟨_, hp2⟩) hp3 pp
    cases b with
    | true => exact k (h1 n' H' s.loc r)
    | false => exact k (h2 n' H' s.loc r)
/-! ### statements -/
def SvQ (p : Addr) (ts : TS) (σ : L2.St) (n : Nat) (H : Hp) (Nx : L2.St → Nat → Hp → Prop) (Rt : V → Nat → Hp → Prop) : Prop := ∀ H1, Ex H H1 → H p = none → Pu n p H1 → ∀ D : Ends, (∀ σ' n' H' H2, StepQ p H H1 H' H2 → Pu n' p H2 → Nx σ' n' H' → D.nx σ' H2) →
  (∀ v n' H' H2, StepQ p H H1 H' H2 → Pu n' p H2 → Rt v n' H' → D.rt v H2) → ts D σ H1
variable {tu tz : TS} {Nx : L2.St → Nat → Hp → Prop} {Rt : V → Nat → Hp → Prop}
theorem sq_set {i : Nat} {P1 : V → Nat → Hp → Prop} (h : EvQ p te σ n H P1) (k : ∀ v n' H', Ex H H' → P1 v n' H' → SvQ p tz (σ.set i (some v)) n' H' Nx Rt) : SvQ p (tSeq (tAsg te (gName i)) tz) σ n H Nx Rt := fun H1 e h0 hp D dn dr =>
  h H1 e h0 hp _ fun v n' H' H2 s hp2 p1 => k v n' H' s.loc p1 H2 s.inn (s.out h0 hp) hp2 D (fun σ2 n2 H2' H3 s2 hp3 => dn σ2 n2 H2' H3 (s.trans s2 hp h0 ⟨_, hp2⟩) hp3) fun v n2 H2' H3 s2 hp3 => dr v n2 H2' H3 (s.trans s2 hp h0 ⟨_, hp2⟩) hp3
theorem sq_ret (h : EvQ p te σ n H Rt) : SvQ p (tRet te) σ n H Nx Rt := fun H1 e h0 hp D dn dr => h H1 e h0 hp _ fun v n' H' H2 s hp2 p1 => dr v n' H' H2 s hp2 p1
theorem sq_when {tt : TT} {b : Bool} (h : EvT tt σ H b) (h1 : b = true → SvQ p tu σ n H (fun σ' n' H' => SvQ p tz σ' n' H' Nx Rt) Rt) (h2 : b = false → SvQ p tz σ n H Nx Rt) : SvQ p (tSeq (tIfS tt tu tNext) tz) σ n H Nx Rt := fun H1 e h0 hp D dn dr =>
  h H1 e _ fun H2 e2 => by
    have s0 : StepQ p H H1 H H2 := StepQ.of (Step.ex e e2)
    have hp2 := hp.ex e2
    cases b with
    | true =>
      show tu { D with nx := tz D } σ H2
      exact h1 rfl H2 (e.trans e2) h0 hp2 { D with nx := tz D } (fun σ' n' H' H3 s hp3 pp => pp H3 s.inn (s.out h0 hp2) hp3 D (fun σ2 n2 H2' H4 s2 hp4 => dn σ2 n2 H2' H4 ((s0.trans s hp h0 ⟨_, hp2⟩).trans s2 hp h0 ⟨_, hp3⟩) hp4) fun v n2 H2' H4 s2 hp4 => dr v n2 H2' H4 ((s0.trans s hp h0 ⟨_, hp2⟩).trans s2 hp h0 ⟨_, hp3⟩) hp4)
        fun v n' H' H3 s hp3 => dr v n' H' H3 (s0.trans s hp h0 ⟨_, hp2⟩) hp3
    | false =>
      show tz D σ H2
      exact h2 rfl H2 (e.trans e2) h0 hp2 D (fun σ2 n2 H2' H4 s2 hp4 => dn σ2 n2 H2' H4 (s0.trans s2 hp h0 ⟨_, hp2⟩) hp4) fun v n2 H2' H4 s2 hp4 => dr v n2 H2' H4 (s0.trans s2 hp h0 ⟨_, hp2⟩) hp4
theorem svq_of {Nx1 : L2.St → Hp → Prop} {Rt1 : V → Hp → Prop} (h : Sv tu σ H Nx1 Rt1) (k1 : ∀ σ' H', Ex H H' → Nx1 σ' H' → Nx σ' n H') (k2 : ∀ v H', Ex H H' → Rt1 v H' → Rt v n H') : SvQ p tu σ n H Nx Rt := fun H1 e h0 hp D dn dr =>
  h H1 e D (fun σ' H' H2 s pp => dn σ' n H' H2 (StepQ.of s) (hp.ex s.tot) (k1 σ' H' s.loc pp)) fun v H' H2 s pp => dr v n H' H2 (StepQ.of s) (hp.ex s.tot) (k2 v H' s.loc pp)
end
section
variable {P : Program} {w : World} {K : PySem.W.Frag} {mg : Str → Option Value} {base : Heap} {x qual : Str} {params : Arguments} {body : List Stmt} {scope : Scope} {f : Addr} {fd : FuncData}
theorem okQ {α : Type} {pre : α → Addr → List V → Hp → Prop} {cost : α → Nat} {post : α → V → Hp → Prop} {N ps : List Str} {k : Nat} (F : FunD K x qual params body scope [] [] f fd) (S : FnScope N ps scope) (len : ∀ a p vs H, pre a p vs H → vs.length = ps.length)
    (hbody : ∀ (cdv : Value) (A : Around) (outer : List Env) (s : Shared) (H1 : Hp) (vs : List V) (E : XK) (a : α) (H : Hp) (p : Addr) (n : Nat), Room k (A.deeper (envOfC qual scope s.heap.objs.size f cdv)) → n + cost a ≤ 900000000 → pre a p vs H →
      ∃ t, PSs (cxOf CX0 P w K mg base N qual scope f cdv A outer s H1 E).nox body t ∧ SvQ p t (start N vs) n H (fun _ n' H' => n' ≤ n + cost a ∧ post a .non H') (fun v n' H' => n' ≤ n + cost a ∧ post a v H')) : FnOk P w K mg base CX0 (k + 1) f fd ps (spQ pre cost post) :=
  F.ok S (fun vs H Q E h => by
    obtain ⟨a, H0, p, n, _, _, _, _, h, _⟩ := h
    exact len a p vs H0 h) fun cdv A outer s H1 vs Q E hr h => by
    obtain ⟨a, H, p, n, e, h0, hp, hn, hpre, q⟩ := h
    obtain ⟨t, ht, hs⟩ := hbody cdv A outer s H1 vs E a H p n hr hn hpre
    exact ⟨t, ht.nox, hs H1 e h0 hp _ (fun σ' n' H' H2 s hp2 pp => q _ n' H' H2 s hp2 pp.1 pp.2) fun v n' H' H2 s hp2 pp => q _ n' H' H2 s hp2 pp.1 pp.2⟩
end
/-! ### draws -/
def preDr (m : Int) (p : Addr) (vs : List V) (_ : Hp) : Prop := vs = [.ref p, .int m] ∧ 1 ≤ m ∧ m ≤ 100000
def postDr (m : Int) (v : V) (_ : Hp) : Prop := ∃ r : Nat, v = nV r ∧ (r : Int) < m
abbrev spD : Sp := spQ preDr (fun _ => 1) postDr
theorem draw_imp : ∀ vs H Q E, spD vs H Q E → spDr vs H Q E := fun vs H1 Q E ⟨m, H, p, n, e, h0, hp, hn, ⟨hv, h1, h2⟩, q⟩ => ⟨H, p, m, n, hv, e, h0, hp, h1, h2, by omega, fun r H2 s hp2 k1 k2 => q _ (n + 1) H H2 s hp2 (Nat.le_refl _) ⟨r.toNat, by show V.int r = V.int _; congr 1; omega, by omega⟩⟩
section
variable {P : Program} {w : World} {K : PySem.W.Frag} {mg : Str → Option Value} {base : Heap} {f C CL CT CR : Addr} {fd : FuncData} {H : Hp} {σ : L2.St} {p : Addr} {n : Nat} {ta tb te : TE}
/-- draw(purse, m) -/
theorem eq_draw {i : Nat} {m : Int} (hi : σ[i]? = some (some (.ref p))) (hm : Ev te σ H (.int m)) (h1 : 1 ≤ m) (h2 : m ≤ 100000) (hn : n + 1 ≤ 900000000) : EvQ p (tCall spD [] E0 (tCons (tVar i) (tCons te tNil))) σ n H (fun v n' _ => n' ≤ n + 1 ∧ ∃ r : Nat, v = nV r ∧ (r : Int) < m) :=
  eq_call (eqa_of (ea_cons (ev_var hi) (ea_cons hm ea_nil))) fun vs n' H' e ⟨hv, hn', hH⟩ => ⟨m, ⟨hv, h1, h2⟩, by omega, fun v n'' H'' _ hn'' hq => ⟨by omega, hq⟩⟩
/-! ### comprehensions that draw -/
def TurnQ (p : Addr) (tt : TT) (te : TE) (σ : L2.St) (n : Nat) (H : Hp) (Pq : Option V → Nat → Hp → Prop) : Prop := ∀ H1, Ex H H1 → H p = none → Pu n p H1 → ∀ (Qs : VK) (Qn : Hp → Prop), (∀ y n' H' H2, StepQ p H H1 H' H2 → Pu n' p H2 → Pq (some y) n' H' → Qs y H2) →
  (∀ n' H' H2, StepQ p H H1 H' H2 → Pu n' p H2 → Pq none n' H' → Qn H2) → tt σ H1 fun b H3 => if b = true then te σ H3 Qs else Qn H3
theorem turn_yes {Pq : Option V → Nat → Hp → Prop} (h : EvQ p te σ n H (fun v n' H' => Pq (some v) n' H')) : TurnQ p tYes te σ n H Pq := fun H1 e h0 hp Qs Qn k1 k2 => by
  show te σ H1 Qs
  exact h H1 e h0 hp Qs k1
theorem turn_test {tt : TT} {R : Bool → Nat → Hp → Prop} {Pq : Option V → Nat → Hp → Prop} (h : EvQT p tt σ n H R) (h1 : ∀ n' H', Ex H H' → R true n' H' → EvQ p te σ n' H' (fun v n'' H'' => Pq (some v) n'' H'')) (h2 : ∀ n' H', Ex H H' → R false n' H' → Pq none n' H') : TurnQ p tt te σ n H Pq := fun H1 e h0 hp Qs Qn k1 k2 =>
  h H1 e h0 hp _ fun b n' H' H2 s hp2 r => by
    cases b with
    | true => exact h1 n' H' s.loc r H2 s.inn (s.out h0 hp) hp2 Qs fun v n'' H'' H3 s2 hp3 pp => k1 v n'' H'' H3 (s.trans s2 hp h0 ⟨_, hp2⟩) hp3 pp
    | false => exact k2 n' H' H2 s hp2 (h2 n' H' s.loc r)
def CvQ (p : Addr) (n0 c : Nat) (H1 H : Hp) (D : Addr) (Inv : Nat → List V → Hp → Prop) (i : Nat) (H2 : Hp) : Prop := ∃ (ys : List V) (H' : Hp) (m : Nat), Ex H H' ∧ (∀ b o, b ≠ p → H1 b = some o → H2 b = some o) ∧ Ex H' H2 ∧ (∀ b, H' b ≠ none → H b ≠ none ∨ H1 b = none) ∧ H' D = none ∧ H2 D = some (.lst ys) ∧ ys.length ≤ i ∧ Inv i ys H' ∧ Pu m p H2 ∧ m ≤ n0 + c * i
def LcQ (n0 c : Nat) (H : Hp) (N : Nat) (Inv : Nat → List V → Hp → Prop) : V → Nat → Hp → Prop := fun v n' H' => ∃ D ys, v = .ref D ∧ H D = none ∧ H' D = some (.lst ys) ∧ ys.length ≤ N ∧ Inv N ys H' ∧ n' ≤ n0 + c * N
theorem eq_lc {J : It} {N c : Nat} {g : TG} {tt : TT} {vs : List Nat} (Inv : Nat → List V → Hp → Prop) (stab : ∀ i ys A B, Ex A B → Inv i ys A → Inv i ys B) (hN : N ≤ 40000) {H1 : Hp} (e : Ex H H1) (h0 : H p = none) (hp : Pu n p H1) (hi0 : Inv 0 [] H)
    (hgo : ∀ i H2, i < N → (∀ b o, b ≠ p → H1 b = some o → H2 b = some o) → J.go i H2) (hst : ∀ H2, (∀ b o, b ≠ p → H1 b = some o → H2 b = some o) → J.stop N H2)
    (turn : ∀ i H2 x H3, i < N → (∀ b o, b ≠ p → H1 b = some o → H2 b = some o) → J.yld i H2 x H3 → H3 = H2 ∧ ∃ σ', (∀ Qg : L2.St → Hp → Prop, Qg σ' H3 → g x (wipe σ vs) H3 Qg) ∧ wipe σ' vs = wipe σ vs ∧ ∀ H' m ys, Ex H H' → m ≤ n + c * i → Inv i ys H' →
      TurnQ p tt te σ' m H' (fun o m' H'' => m' ≤ n + c * (i + 1) ∧ Inv (i + 1) (match o with | some y => ys ++ [y] | none => ys) H''))
    {Q : VK} (q : ∀ v n' H' H2, StepQ p H H1 H' H2 → Pu n' p H2 → LcQ n c H N Inv v n' H' → Q v H2) : ∀ D, H1 D = none → ∃ W : Nat → Nat → Hp → Prop, (∃ m, W 0 m (upd H1 D (.lst []))) ∧ ∀ i m H, W i m H →
  (J.stop i H ∧ Q (.ref D) H) ∨ (J.go i H ∧ ∃ Nx : Hp → Prop, (∀ H', Nx H' → ∃ m', m' < m ∧ W (i + 1) m' H') ∧ ∀ x H', J.yld i H x H' → g x (wipe σ vs) H' fun σ2 H2 => wipe σ2 vs = wipe σ vs ∧ tt σ2 H2 fun b H3 =>
    if b = true then te σ2 H3 fun y H4 => ∃ acc, H4 D = some (.lst acc) ∧ acc.length < sizeLine ∧ Nx (upd H4 D (.lst (acc ++ [y]))) else Nx H3) := by
  intro D hD
  have nDp : D ≠ p := fun z => by
    obtain ⟨a, b, c', d, h, _⟩ := hp
    rw [z, h] at hD
    cases hD
  refine ⟨fun i m H2 => m = N - i ∧ i ≤ N ∧ CvQ p n c H1 H D Inv i H2, ⟨N, by simp, Nat.zero_le _, [], H, n, Ex.refl _, fun b o _ h => Ex.new hD _ _ h, e.trans (Ex.new hD), fun b hb => .inl hb, fresh_back e hD, upd_same, Nat.le_refl _, hi0, hp.ex (Ex.new hD), by omega⟩, ?_⟩
  rintro i m H2 ⟨rfl, hi, ys, H', m, e1, e2, e3, fr, hDn, h2, hl, hinv, hpm, hm⟩
  have hp' : H' p = none := by
    cases z : H' p with
    | none => rfl
    | some o =>
      obtain ⟨a, b, c', d, h, _⟩ := hp
      rcases fr p (by rw [z]; exact fun y => nomatch y) with y | y
      · exact absurd h0 y
      · rw [h] at y; cases y
  by_cases hlt : i < N
  · refine .inr ⟨hgo i H2 hlt e2, CvQ p n c H1 H D Inv (i + 1), fun H' p' => ⟨N - (i + 1), by omega, rfl, hlt, p'⟩, fun x H3 y => ?_⟩
    obtain ⟨eq3, σ', hg, hw, ht⟩ := turn i H2 x H3 hlt e2 y
    subst eq3
    refine hg _ ⟨hw, ?_⟩
    have back : ∀ {H'' H4 : Hp}, StepQ p H' H3 H'' H4 → H4 D = some (.lst ys) ∧ H'' D = none ∧ (∀ b o, b ≠ p → H1 b = some o → H4 b = some o) ∧ (∀ b, H'' b ≠ none → H b ≠ none ∨ H1 b = none) := fun {H'' H4} s => by
      refine ⟨s.tot D _ nDp h2, ?_, fun b o hb h => s.tot b o hb (e2 b o hb h), fun b hb => (s.fre b hb).elim (fun z => fr b z) fun z => ?_⟩
      · cases z : H'' D with
        | none => rfl
        | some o =>
          rcases s.fre D (by rw [z]; exact fun y => nomatch y) with y | y
          · exact absurd hDn y
          · rw [h2] at y; cases y
      · by_cases hbp : b = p
        · subst hbp
          obtain ⟨a, b', c', d, h, _⟩ := hpm
          rw [h] at z
          cases z
        · right
          cases w : H1 b with
          | none => rfl
          | some o => rw [e2 b o hbp w] at z; cases z
    refine ht H' m ys e1 hm hinv H3 e3 hp' hpm _ _ (fun y m' H'' H4 s hp4 pp => ?_) (fun m' H'' H4 s hp4 pp => ?_)
    · obtain ⟨b1, b2, b3, b4⟩ := back s
      refine ⟨ys, b1, sz_lt (by omega), ys ++ [y], H'', m', e1.trans s.loc, fun b o hb h => ?_, s.inn.mut b2, b4, b2, upd_same, by simp; omega, pp.2, ?_, pp.1⟩
      · rw [upd_ne (ne_of_none h hD)]
        exact b3 b o hb h
      · obtain ⟨a, b, c', d, h, h'⟩ := hp4
        exact ⟨a, b, c', d, by rw [upd_ne (Ne.symm nDp)]; exact h, h'⟩
    · obtain ⟨b1, b2, b3, b4⟩ := back s
      exact ⟨ys, H'', m', e1.trans s.loc, b3, s.inn, b4, b2, b1, by omega, pp.2, hp4, pp.1⟩
  · have ei : i = N := by omega
    subst ei
    refine .inl ⟨hst H2 e2, q (.ref D) m (upd H' D (.lst ys)) H2 ⟨e1.trans (Ex.new hDn), e2, fun a u z => ?_, fun b hb => ?_⟩ hpm ⟨D, ys, rfl, fresh_back e hD, upd_same, hl, stab _ _ _ _ (Ex.new hDn) hinv, hm⟩⟩
    · by_cases ha : a = D
      · subst ha; rw [upd_same] at z; cases z; exact h2
      · rw [upd_ne ha] at z; exact e3 a u z
    · by_cases ha : b = D
      · subst ha; exact .inr hD
      · rw [upd_ne ha] at hb; exact fr b hb
/-- [.. for x in range(N) ..], N at most B -/
theorem eq_lcR {tr : TA} {j c B : Nat} {tt : TT} {vs : List Nat} (Inv : Nat → List V → Hp → Prop) (stab : ∀ i ys A B, Ex A B → Inv i ys A → Inv i ys B) (h : EvQA p tr σ n H (fun ws n' _ => n' ≤ n + 1 ∧ ∃ N : Nat, ws = [nV N] ∧ N ≤ B)) (hB : B ≤ 40000) (hi0 : ∀ H', Ex H H' → Inv 0 [] H')
    (hw : ∀ x, wipe ((wipe σ vs).set j (some x)) vs = wipe σ vs)
    (turn : ∀ (i : Nat) H' m ys n', Ex H H' → i < B → n' ≤ n + 1 → m ≤ n' + c * i → Inv i ys H' → TurnQ p tt te ((wipe σ vs).set j (some (nV i))) m H' (fun o m' H'' => m' ≤ n' + c * (i + 1) ∧ Inv (i + 1) (match o with | some y => ys ++ [y] | none => ys) H'')) :
    EvQ p (tLc (iRng1 tr) (gName j) tt te vs) σ n H (fun v n' H' => ∃ (N m : Nat) (H'' : Hp), N ≤ B ∧ m ≤ n + 1 ∧ Ex H H'' ∧ LcQ m c H'' N Inv v n' H') := fun H1 e h0 hp Q q =>
  h H1 e h0 hp _ fun ws n' H' H2 s hp2 ⟨hn', N, hws, hN⟩ => by
    refine ⟨(N : Int), hws, by omega, by omega, ?_⟩
    have e1 : ((N : Int)).toNat = N := by omega
    rw [e1]
    exact eq_lc (H := H') (p := p) (n := n') (c := c) Inv stab (by omega) s.inn (s.out h0 hp) hp2 (hi0 H' s.loc) (fun i H3 hi _ => hi) (fun H3 _ => Nat.le_refl _) (fun i H3 x H4 hi _ y => by
      obtain ⟨e4, rfl⟩ := y
      refine ⟨e4, _, fun Qg z => z, hw _, fun H'' m ys e5 hm hinv => ?_⟩
      have e0 : (0 : Int) + (i : Int) = (i : Int) := Int.zero_add _
      rw [e0]
      exact turn i H'' m ys n' (s.loc.trans e5) (by omega) hn' hm hinv) fun v n'' H'' H3 s3 hp3 pp => q v n'' H'' H3 (s.trans s3 hp h0 ⟨_, hp2⟩) hp3 ⟨N, n', H', hN, hn', s.loc, pp⟩
/-- range(N), N known -/
theorem eqa_N {N : Nat} {tr : TA} {B : Nat} (h : EvA tr σ H [nV N]) (hB : N ≤ B) : EvQA p tr σ n H (fun ws n' _ => n' ≤ n + 1 ∧ ∃ N : Nat, ws = [nV N] ∧ N ≤ B) := fun H1 e h0 hp Q q => h H1 e Q fun H2 e2 => q _ n H H2 (StepQ.of (Step.ex e e2)) (hp.ex e2) ⟨by omega, N, rfl, hB⟩
/-! ### rising rows -/
def RowI (i : Nat) (ys : List V) (_ : Hp) : Prop := ∃ ns : List Nat, ys = ns.map nV ∧ Pap.rising ns = true ∧ ∀ x ∈ ns, x < i
theorem rising_snoc : ∀ (ns : List Nat) (i : Nat), Pap.rising ns = true → (∀ x ∈ ns, x < i) → Pap.rising (ns ++ [i]) = true
  | [], i, _, _ => rfl
  | [a], i, _, h => by
    have := h a (by simp)
    show (decide (a < i) && true) = true
    rw [decide_eq_true this]
    rfl
  | a :: b :: r, i, h, k => by
    have h1 := Pap.rising_head h
    have h2 := rising_snoc (b :: r) i (Pap.rising_tail h) fun x hx => k x (List.mem_cons_of_mem _ hx)
    show (decide (a < b) && Pap.rising ((b :: r) ++ [i])) = true
    rw [decide_eq_true h1, h2]
    rfl
theorem RowI.none {i : Nat} {ys : List V} {H : Hp} (h : RowI i ys H) : RowI (i + 1) ys H := by
  obtain ⟨ns, h1, h2, h3⟩ := h
  exact ⟨ns, h1, h2, fun x hx => by have := h3 x hx; omega⟩
theorem RowI.some {i : Nat} {ys : List V} {H : Hp} (h : RowI i ys H) : RowI (i + 1) (ys ++ [nV i]) H := by
  obtain ⟨ns, h1, h2, h3⟩ := h
  exact ⟨ns ++ [i], by rw [h1, List.map_append]; rfl, rising_snoc ns i h2 h3, fun x hx => by
    rcases List.mem_append.mp hx with hx | hx
    · have := h3 x hx; omega
    · rw [List.mem_singleton.mp hx]; omega⟩
/-- a row of numbers below m -/
def RowV (m : Nat) (v : V) (H : Hp) : Prop := ∃ q ns, v = .ref q ∧ H q = some (.lst (ns.map nV)) ∧ Pap.rising ns = true ∧ ∀ x ∈ ns, x < m
/-- [x for x in range(N) if draw(purse, k) .. ], the test r of what is drawn -/
theorem eq_rowLc {i j N : Nat} {k : Int} {r : R2} {kk : Int} {tr : TA} (hi : σ[i]? = some (some (.ref p))) (hij : i ≠ j) (hj : j < σ.length) (h : EvA tr σ H [nV N]) (hN : N ≤ 30) (hk : 1 ≤ k) (hk2 : k ≤ 100000) (hn : n + 32 ≤ 900000000) (hr : ∀ (d : Nat) L, Gv (r (nV d) (.int kk)) L (fun v _ => ∃ b, v = .bl b)) :
    EvQ p (tLc (iRng1 tr) (gName j) (tTest (tOp r (tCall spD [] E0 (tCons (tVar i) (tCons (tC (.int k)) tNil))) (tC (.int kk)))) (tVar j) [j]) σ n H (fun v n' H' => n' ≤ n + N + 1 ∧ RowV N v H') := by
  have hw : ∀ x, wipe ((wipe σ [j]).set j (some x)) [j] = wipe σ [j] := fun x => by
    show ((σ.set j none).set j (some x)).set j none = σ.set j none
    rw [List.set_set, List.set_set]
  have gi : ∀ x, ((wipe σ [j]).set j (some x))[i]? = some (some (.ref p)) := fun x => by
    show ((σ.set j none).set j (some x))[i]? = _
    rw [List.set_set, List.getElem?_set_ne (Ne.symm hij)]
    exact hi
  have gj : ∀ x, ((wipe σ [j]).set j (some x))[j]? = some (some x) := fun x => by
    show ((σ.set j none).set j (some x))[j]? = _
    rw [List.set_set, List.getElem?_set_self hj]
  have main := eq_lcR (p := p) (te := tVar j) (tt := tTest (tOp r (tCall spD [] E0 (tCons (tVar i) (tCons (tC (.int k)) tNil))) (tC (.int kk)))) (j := j) (vs := [j]) (c := 1) (B := N) RowI (fun _ _ _ _ _ h => h) (eqa_N (p := p) (n := n) h (Nat.le_refl _)) (by omega) (fun _ _ => ⟨[], rfl, rfl, fun _ h => by cases h⟩) hw (fun i' H' m ys n' e hi' hn' hm hinv => by
    refine turn_test (R := fun b m' _ => m' ≤ m + 1) (eqt_test (eq_op (P1 := fun v m' _ => m' ≤ m + 1 ∧ ∃ d : Nat, v = nV d) (P2 := fun x y m' _ => m' ≤ m + 1 ∧ (∃ d : Nat, x = nV d) ∧ y = .int kk) ((eq_draw (gi _) ev_c hk hk2 (by omega)).imp fun v m' H'' _ ⟨h1, d, h2, _⟩ => ⟨h1, d, h2⟩) (fun x m' H'' e2 hx => (eq_of (ep_of (ev_c (v := .int kk)))).imp fun v m'' H3 _ ⟨h1, h2⟩ => ⟨by omega, hx.2, h2⟩) fun x y m' H'' ⟨h1, ⟨d, hd⟩, hy⟩ => ?_)) (fun m' H'' e2 hm' => ?_) (fun m' H'' e2 hm' => ⟨by omega, hinv.none⟩)
    · subst hd hy
      exact (hr d H'').imp fun v _ _ ⟨b, hb⟩ => ⟨b, hb, h1⟩
    · exact (eq_of (ep_of (ev_var (gj _)))).imp fun v m'' H3 _ ⟨h1, h2⟩ => by
        cases (show v = nV i' from h2)
        exact ⟨by omega, hinv.some⟩)
  refine main.imp fun v n' H' e ⟨N', m, H'', hN', hm, e2, D, ys, hv, hD, hDl, hlen, ⟨ns, h1, h2, h3⟩, hn'⟩ => ⟨by omega, D, ns, hv, by rw [hDl, h1], h2, fun x hx => by have := h3 x hx; omega⟩
/-! ### _law_one_of -/
theorem scOo : FnScope ["_law_purse_here", "_law_some"] ["_law_purse_here", "_law_some"] (defScope (top 30)) := ⟨rfl, rfl, rfl, by decide +kernel, rfl, by decide +kernel, by decide +kernel⟩
def preOo (xs : List V) (p : Addr) (vs : List V) (H : Hp) : Prop := ∃ a, vs = [.ref p, .ref a] ∧ H a = some (.lst xs) ∧ 1 ≤ xs.length ∧ xs.length ≤ 1000
abbrev spOo : Sp := spQ preOo (fun _ => 1) (fun xs v _ => v ∈ xs)
theorem ok_one_of {f : Addr} {fd : FuncData} (F : FnT K "_law_one_of" 30 f fd) (KD : Kp P w K mg base CX0 2 "_law_draw" ["_law_purse_here", "_law_many"] spD) (fr : Fr mg) : FnOk P w K mg base CX0 3 f fd ["_law_purse_here", "_law_some"] spOo := by
  refine okQ F scOo (fun xs p vs H h => ?_) (fun cdv A outer s H1 vs E xs H p n hr hn h => ?_)
  · obtain ⟨a, rfl, _⟩ := h
    rfl
  · obtain ⟨a, rfl, ha, h1, h2⟩ := h
    refine ⟨_, PSs.nox (pss_one (ps_ret (pe_ix ix_list (pv 1) (pe_cl KD hr (pa_cons (pv 0) (pa_cons (pe_callB call_len_seq rfl fr.len_ bt_len (pa_cons (pv 1) pa_nil)) pa_nil))) (fun _ _ => rfl)))), ?_⟩
    refine sq_ret (eq_op (P1 := fun v n' H' => n' = n ∧ v = .ref a) (P2 := fun x y n' L => n' ≤ n + 1 ∧ x = .ref a ∧ (∃ d : Nat, y = nV d ∧ d < xs.length) ∧ L a = some (.lst xs)) ((eq_of (ep_of (ev_var rfl))).imp fun v n' H' _ ⟨h1, h2⟩ => ⟨h1, h2⟩) (fun x n' H' e hx => ((eq_draw (m := (xs.length : Int)) rfl (ev_lenL (ev_var rfl) (sq_of (e _ _ ha))) (by omega) (by omega) (by have := hn; show n' + 1 ≤ _; rw [hx.1]; exact this)).imp fun v n'' H'' e2 ⟨k1, d, k2, k3⟩ => ⟨by have := hx.1; omega, hx.2, ⟨d, k2, by omega⟩, e2 _ _ (e _ _ ha)⟩)) fun x y n' H' ⟨k1, k2, ⟨d, k3, k4⟩, k5⟩ => ?_)
    subst k2 k3
    exact fun H1 e1 Q q => ⟨a, xs, (d : Int), xs[d], rfl, rfl, .inl (.inl (e1 _ _ k5)), atI_nat (List.getElem?_eq_getElem k4), q _ H' H1 (Step.refl e1) ⟨k1, List.getElem_mem k4⟩⟩
end
end G

/-! _law_row, _law_drawn_lot. -/
namespace G
open PySem PySem.Spec PyProof.Rows L2 Evl Tp RZ TL L2X StX
theorem putK_keys (acc : List (Key × V)) (k : Key) (v : V) : (putK acc k v).map (·.1) = if (acc.any fun kv => decide (kv.1 = k)) = true then acc.map (·.1) else acc.map (·.1) ++ [k] := by
  unfold putK
  by_cases h : (acc.any fun kv => decide (kv.1 = k)) = true
  · rw [if_pos h, if_pos h, List.map_map]
    refine congrArg (fun g => acc.map g) (funext fun kv => ?_)
    show (if kv.1 = k then (kv.1, v) else kv).1 = kv.1
    split <;> rfl
  · rw [if_neg h, if_neg h, List.map_append]
    rfl
theorem merge_ok (old : Nat) : ∀ (more acc : List (Key × V)) (ks : List Int), acc.map (·.1) = ks.map Sum.inl → ks.Nodup → (∀ k ∈ ks, 0 ≤ k ∧ k < old) → (∀ kv ∈ more, ∃ r : Nat, kv.1 = Sum.inl (r : Int) ∧ r < old) →
    ∃ ks' : List Int, (mergeK acc more).map (·.1) = ks'.map Sum.inl ∧ ks'.Nodup ∧ (∀ k ∈ ks', 0 ≤ k ∧ k < old) ∧ ks'.length ≤ ks.length + more.length
  | [], acc, ks, h1, h2, h3, _ => ⟨ks, h1, h2, h3, Nat.le_refl _⟩
  | (k, v) :: more, acc, ks, h1, h2, h3, h4 => by
    obtain ⟨r, hr, hro⟩ := h4 (k, v) (by simp)
    have hk : k = Sum.inl (r : Int) := hr
    have hk2 := putK_keys acc k v
    show ∃ ks' : List Int, (mergeK (putK acc k v) more).map (·.1) = _ ∧ _
    by_cases hin : (acc.any fun kv => decide (kv.1 = k)) = true
    · rw [if_pos hin] at hk2
      obtain ⟨ks', q1, q2, q3, q4⟩ := merge_ok old more (putK acc k v) ks (hk2.trans h1) h2 h3 fun kv hkv => h4 kv (by simp [hkv])
      exact ⟨ks', q1, q2, q3, by rw [List.length_cons]; omega⟩
    · rw [if_neg hin] at hk2
      have hni : (r : Int) ∉ ks := fun hm => hin (by
        have : Sum.inl (r : Int) ∈ acc.map (·.1) := by rw [h1]; exact List.mem_map_of_mem hm
        obtain ⟨kv, hkv, e⟩ := List.mem_map.mp this
        exact List.any_eq_true.mpr ⟨kv, hkv, decide_eq_true (by rw [hk]; exact e)⟩)
      obtain ⟨ks', q1, q2, q3, q4⟩ := merge_ok old more (putK acc k v) (ks ++ [(r : Int)]) (by rw [hk2, h1, hk, List.map_append]; rfl) (by
          rw [List.nodup_append]
          exact ⟨h2, by simp, fun a ha b hb => by rw [List.mem_singleton] at hb; subst hb; exact fun z => hni (z ▸ ha)⟩)
        (fun x hx => by
          rcases List.mem_append.mp hx with hx | hx
          · exact h3 x hx
          · rw [List.mem_singleton.mp hx]; omega) fun kv hkv => h4 kv (by simp [hkv])
      exact ⟨ks', q1, q2, q3, by rw [List.length_append, List.length_singleton] at q4; rw [List.length_cons]; omega⟩
theorem rising_int : ∀ ys : List Int, ys.Pairwise (· ≤ ·) → ys.Nodup → (∀ y ∈ ys, 0 ≤ y) → Pap.rising (ys.map Int.toNat) = true
  | [], _, _, _ => rfl
  | [_], _, _, _ => rfl
  | a :: b :: r, h, hn, h0 => by
    have ih := rising_int (b :: r) (List.pairwise_cons.mp h).2 (List.nodup_cons.mp hn).2 fun y hy => h0 y (List.mem_cons_of_mem _ hy)
    have h1 := (List.pairwise_cons.mp h).1 b (by simp)
    have h2 : a ≠ b := fun z => (List.nodup_cons.mp hn).1 (by rw [z]; simp)
    have h3 := h0 a (by simp)
    show (decide (a.toNat < b.toNat) && Pap.rising ((b :: r).map Int.toNat)) = true
    rw [ih, decide_eq_true (by omega)]
    rfl
theorem map_nat : ∀ ys : List Int, (∀ y ∈ ys, 0 ≤ y) → ys.map V.int = (ys.map Int.toNat).map nV
  | [], _ => rfl
  | y :: ys, h => by
    have h1 := h y (by simp)
    rw [List.map_cons, List.map_cons, List.map_cons, ← map_nat ys fun y hy => h y (List.mem_cons_of_mem _ hy)]
    congr 1
    show V.int y = V.int ((y.toNat : Nat) : Int)
    congr 1
    omega
theorem rising_range (a k : Nat) : Pap.rising ((List.range k).map fun i => a + i) = true := by
  rw [Pap.rising_at]
  refine List.all_eq_true.mpr fun i hi => ?_
  have hi := List.mem_range.mp hi
  rw [List.length_map, List.length_range] at hi
  rw [List.getD_eq_getElem?_getD, List.getD_eq_getElem?_getD, List.getElem?_map, List.getElem?_map, List.getElem?_range (by omega), List.getElem?_range (by omega)]
  exact decide_eq_true (by show a + i < a + (i + 1); omega)
section
variable {P : Program} {w : World} {K : PySem.W.Frag} {mg : Str → Option Value} {base : Heap} {f C CL CT CR : Addr} {fd : FuncData} {H : Hp} {σ : L2.St} {p : Addr} {n : Nat} {ta tb te : TE}
theorem eq_cb1 {r : List V → Hp → VK → Prop} {P1 P2 : V → Nat → Hp → Prop} (h : EvQ p te σ n H P1) (hr : ∀ v n' H', Ex H H' → P1 v n' H' → Gv (r [v]) H' (fun w H'' => P2 w n' H'')) : EvQ p (tCB r (tCons te tNil)) σ n H P2 := fun H1 e h0 hp Q q =>
  h H1 e h0 hp _ fun v n' H' H2 s hp2 p1 => hr v n' H' s.loc p1 H2 s.inn _ fun w H3 H4 s3 p3 => q w n' H3 H4 (s.trans (StepQ.of s3) hp h0 ⟨_, hp2⟩) (hp2.ex s3.tot) p3
theorem eq_imp_n {P1 : V → Hp → Prop} (h : EvP te σ H P1) : EvQ p te σ n H (fun v n' H' => n' = n ∧ P1 v H') := eq_of h
/-- pairs (r, True) -/
def PrI (K : PySem.W.Frag) (old i : Nat) (ys : List V) (H : Hp) : Prop := ∃ (ps : List Addr) (kvs : List (Key × V)), ys = ps.map V.ref ∧ Paired (fun p (kv : Key × V) => SqT K H p [kV kv.1, kv.2]) ps kvs ∧ (∀ kv ∈ kvs, ∃ r : Nat, kv.1 = Sum.inl (r : Int) ∧ r < old) ∧ kvs.length ≤ i
theorem paired_snoc {α β : Type} {R : α → β → Prop} : ∀ {xs : List α} {ys : List β} {x : α} {y : β}, Paired R xs ys → R x y → Paired R (xs ++ [x]) (ys ++ [y])
  | _, _, _, _, .nil, h => .cons h .nil
  | _, _, _, _, .cons a t, h => .cons a (paired_snoc t h)
theorem eq_pairs {i i1 j old : Nat} {tr : TA} (hi : σ[i]? = some (some (.ref p))) (h1 : σ[i1]? = some (some (nV old))) (hij : i ≠ j) (hij1 : i1 ≠ j) (ho : 1 ≤ old) (ho2 : old ≤ 100) (hn : n + 8 ≤ 900000000) (h : EvQA p tr σ n H (fun ws n' _ => n' ≤ n + 1 ∧ ∃ N : Nat, ws = [nV N] ∧ N ≤ 3)) :
    EvQ p (tLc (iRng1 tr) (gName j) tYes (tTup (tCons (tCall spD [] E0 (tCons (tVar i) (tCons (tVar i1) tNil))) (tCons (tC (.bl true)) tNil))) [j]) σ n H (fun v n' H' => n' ≤ n + 4 ∧ ∃ D ys, v = .ref D ∧ H' D = some (.lst ys) ∧ PrI K old 3 ys H') := by
  have hw : ∀ x, wipe ((wipe σ [j]).set j (some x)) [j] = wipe σ [j] := fun x => by
    show ((σ.set j none).set j (some x)).set j none = σ.set j none
    rw [List.set_set, List.set_set]
  have gi : ∀ x, ((wipe σ [j]).set j (some x))[i]? = some (some (.ref p)) := fun x => by
    show ((σ.set j none).set j (some x))[i]? = _
    rw [List.set_set, List.getElem?_set_ne (Ne.symm hij)]
    exact hi
  have gi1 : ∀ x, ((wipe σ [j]).set j (some x))[i1]? = some (some (nV old)) := fun x => by
    show ((σ.set j none).set j (some x))[i1]? = _
    rw [List.set_set, List.getElem?_set_ne (Ne.symm hij1)]
    exact h1
  have main := eq_lcR (p := p) (te := tTup (tCons (tCall spD [] E0 (tCons (tVar i) (tCons (tVar i1) tNil))) (tCons (tC (.bl true)) tNil))) (tt := tYes) (j := j) (vs := [j]) (c := 1) (B := 3) (PrI K old) (fun i ys A B e ⟨ps, kvs, q1, q2, q3, q4⟩ => ⟨ps, kvs, q1, paired_ex e q2, q3, q4⟩) h (by decide) (fun _ _ => ⟨[], [], rfl, .nil, (fun _ h => by cases h), Nat.le_refl _⟩) hw (fun i' H' m ys n' e hi' hn' hm hinv => turn_yes fun H1 e1 h0 hp Q q => by
    refine eq_draw (m := (old : Int)) (gi _) (ev_var (gi1 _)) (by omega) (by omega) (by omega) H1 e1 h0 hp _ fun v m' H'' H2 s hp2 ⟨k1, r, k2, k3⟩ => ?_
    subst k2
    refine ⟨by show 2 ≤ sizeLine; decide, fun T hT => ?_⟩
    have sT : StepQ p H'' H2 (upd H'' T (.tup [nV r, .bl true])) (upd H2 T (.tup [nV r, .bl true])) := StepQ.of (Step.new s.inn hT)
    refine q (.ref T) m' _ _ (s.trans sT hp h0 ⟨_, hp2⟩) (hp2.ex (Ex.new hT)) ⟨by omega, ?_⟩
    obtain ⟨ps, kvs, q1, q2, q3, q4⟩ := hinv
    exact ⟨ps ++ [T], kvs ++ [(Sum.inl (r : Int), .bl true)], by rw [q1, List.map_append]; rfl, paired_snoc (paired_ex (s.loc.trans (Ex.new (fresh_back s.inn hT))) q2) (.inl (.inl upd_same)), fun kv hkv => by
      rcases List.mem_append.mp hkv with hkv | hkv
      · exact q3 kv hkv
      · rw [List.mem_singleton.mp hkv]; exact ⟨r, rfl, by omega⟩, by simp; omega⟩)
  exact main.imp fun v n' H' e ⟨N', m, H'', hN', hm, e2, D, ys, hv, hD, hDl, hlen, ⟨ps, kvs, q1, q2, q3, q4⟩, hn'⟩ => ⟨by omega, D, ys, hv, hDl, ps, kvs, q1, q2, q3, by omega⟩
abbrev rDictP (K : PySem.W.Frag) : List V → Hp → VK → Prop := fun xs H Q => ∃ (a : Addr) (ps : List Addr) (kvs : List (Key × V)), xs = [.ref a] ∧ SqL K H a (ps.map V.ref) ∧ Paired (fun p (kv : Key × V) => SqT K H p [kV kv.1, kv.2]) ps kvs ∧ ∀ p, H p = none → Q (.ref p) (upd H p (.dK (mergeK [] kvs)))
abbrev rSortDI : List V → Hp → VK → Prop := fun xs H Q => ∃ (a : Addr) (kvs : List (Key × V)) (ks : List Int), xs = [.ref a] ∧ Rd H a (.dK kvs) ∧ kvs.map (·.1) = ks.map Sum.inl ∧ ks.length < 64 ∧ ∀ (ys : List Int) (p : Addr), ys.Perm ks → ys.Pairwise (· ≤ ·) → H p = none → Q (.ref p) (upd H p (.lst (ys.map V.int)))
theorem eq_sorted {old : Nat} {P1 : V → Nat → Hp → Prop} {c : Nat} (h : EvQ p te σ n H P1) (hP : ∀ v n' H', P1 v n' H' → n' ≤ n + c ∧ ∃ D ys, v = .ref D ∧ H' D = some (.lst ys) ∧ PrI K old 3 ys H') : EvQ p (tCB rSortDI (tCons (tCB (rDictP K) (tCons te tNil)) tNil)) σ n H (fun v n' H' => n' ≤ n + c ∧ RowV old v H') := by
  refine eq_cb1 (P1 := fun v n' H' => n' ≤ n + c ∧ ∃ d kvs, v = .ref d ∧ H' d = some (.dK kvs) ∧ ∃ ks : List Int, kvs.map (·.1) = ks.map Sum.inl ∧ ks.Nodup ∧ (∀ k ∈ ks, 0 ≤ k ∧ k < old) ∧ ks.length ≤ 3) (eq_cb1 h fun v n' H' e pp => ?_) fun v n' H' e ⟨hn', d, kvs, hv, hd, ks, k1, k2, k3, k4⟩ => ?_
  · obtain ⟨hn', D, ys, hv, hD, ps, kvs, q1, q2, q3, q4⟩ := hP v n' H' pp
    subst hv
    obtain ⟨ks, k1, k2, k3, k4⟩ := merge_ok old kvs [] [] rfl List.nodup_nil (fun _ h => by cases h) q3
    exact fun H1 e1 Q q => ⟨D, ps, kvs, rfl, .inl (.inl (by rw [← q1]; exact e1 _ _ hD)), paired_ex e1 q2, fun r hr => q _ _ _ (Step.new e1 hr) ⟨hn', r, _, rfl, upd_same, ks, k1, k2, k3, by simp at k4; omega⟩⟩
  · subst hv
    refine fun H1 e1 Q q => ⟨d, kvs, ks, rfl, .inl (e1 _ _ hd), k1, by omega, fun ys r hp hs hr => q _ _ _ (Step.new e1 hr) ⟨hn', r, ys.map Int.toNat, rfl, ?_, ?_, ?_⟩⟩
    · have h0 : ∀ y ∈ ys, 0 ≤ y := fun y hy => (k3 y (hp.mem_iff.mp hy)).1
      rw [upd_same, map_nat ys h0]
    · exact rising_int ys hs (hp.nodup_iff.mpr k2) fun y hy => (k3 y (hp.mem_iff.mp hy)).1
    · intro x hx
      obtain ⟨y, hy, rfl⟩ := List.mem_map.mp hx
      have := k3 y (hp.mem_iff.mp hy)
      omega
/-! ### _law_row -/
abbrev nRw : List Str := ["_law_purse_here", "_law_old", "_law_way", "_law_first", "_law_block", "_law_spin"]
theorem scRw : FnScope nRw ["_law_purse_here", "_law_old", "_law_way"] (defScope (top 33)) := ⟨rfl, rfl, rfl, by decide +kernel, rfl, by decide +kernel, by decide +kernel⟩
def preRw (q : Nat × Nat) (p : Addr) (vs : List V) (_ : Hp) : Prop := vs = [.ref p, nV q.1, nV q.2] ∧ q.1 ≤ 20
abbrev spRw : Sp := spQ preRw (fun _ => 40) (fun q v H => RowV q.1 v H)
theorem gv_eq {d : Nat} {k : Int} {L : Hp} : Gv (rEq (nV d) (.int k)) L (fun v _ => ∃ b, v = .bl b) := fun H1 e Q q => ⟨rfl, q _ L H1 (Step.refl e) ⟨_, rfl⟩⟩
theorem gv_gt {d : Nat} {k : Int} {L : Hp} : Gv ((rI0 fun i j => .bl (decide (j < i))) (nV d) (.int k)) L (fun v _ => ∃ b, v = .bl b) := fun H1 e Q q => ⟨_, _, rfl, rfl, q _ L H1 (Step.refl e) ⟨_, rfl⟩⟩
theorem ok_row (F : FnT K "_law_row" 33 f fd) (KD : Kp P w K mg base CX0 2 "_law_draw" ["_law_purse_here", "_law_many"] spD) (fr : Fr mg) : FnOk P w K mg base CX0 3 f fd ["_law_purse_here", "_law_old", "_law_way"] spRw := by
  refine okQ F scRw (fun q p vs H h => ?_) (fun cdv A outer s H1 vs E q H p n hr hn h => ?_)
  · obtain ⟨rfl, _⟩ := h
    rfl
  · obtain ⟨old, way⟩ := q
    obtain ⟨rfl, ho⟩ := h
    have ho : old ≤ 20 := ho
    have hn : n + 40 ≤ 900000000 := hn
    refine ⟨_, PSs.nox (pss_cons (ps_if (pt_cmpR op_eq (pv 2) pe_int (nomark _)) (pss_one (ps_ret (pe_lc (own := [("_law_block", 4)]) (g := gName 4) rfl scRw.nd (pi_range1 rfl fr.range_ (pa_cons (pv 1) pa_nil)) (blkOk_by (N := nRw) (sc := defScope (top 33)) (by decide +kernel)) (fun _ _ _ _ _ => pg_name (i := 4) scRw.nd rfl (Or.inl rfl))
          (fun _ _ _ _ _ => pts_one (pt_cmpR op_eq (pe_cl KD hr (pa_cons (pv 0) (pa_cons pe_int pa_nil))) pe_int (nomark _))) (fun _ _ _ _ _ => pv 4)))) pss_nil)
      (pss_cons (ps_if (pt_cmpR op_eq (pv 2) pe_int (nomark _)) (pss_cons (ps_set (i := 3) scRw.nd rfl (.inl rfl) (pe_cl KD hr (pa_cons (pv 0) (pa_cons (pe_op op_add (pv 1) pe_int) pa_nil))))
          (pss_one (ps_ret (pe_listRg rfl rfl fr.list_ (prg_2 rfl fr.range_ (pv 3) (pe_callB (call_min2 rfl) rfl fr.min_ bt_min (pa_cons (pv 1) (pa_cons (pe_op op_add (pe_op op_add (pv 3) pe_int) (pe_cl KD hr (pa_cons (pv 0) (pa_cons pe_int pa_nil)))) pa_nil)))))))) pss_nil)
      (pss_cons (ps_if (pt_cmpR op_eq (pv 2) pe_int (nomark _)) (pss_one (ps_ret (pe_ifExp (pt_cmpR op_gt (pv 1) pe_int (nomark _)) (pe_callB (call_sortedDI rfl) rfl fr.sorted_ bt_sorted (pa_cons (pe_callTy (call_dictP rfl) rfl fr.dict_ bt_dict (pa_cons
          (pe_lc (own := [("_law_spin", 5)]) (g := gName 5) (tt := tYes) rfl scRw.nd (pi_range1 rfl fr.range_ (pa_cons (pe_op op_add pe_int (pe_cl KD hr (pa_cons (pv 0) (pa_cons pe_int pa_nil)))) pa_nil)) (blkOk_by (N := nRw) (sc := defScope (top 33)) (by decide +kernel)) (fun _ _ _ _ _ => pg_name (i := 5) scRw.nd rfl (Or.inl rfl)) (fun _ _ _ _ _ => pts_nil)
            (fun _ _ _ _ _ => pe_tup (pa_cons (pe_cl KD hr (pa_cons (pv 0) (pa_cons (pv 1) pa_nil))) (pa_cons pe_bl pa_nil)))) pa_nil)) pa_nil)) (pe_lst pa_nil)))) pss_nil)
      (pss_one (ps_ret (pe_lc (own := [("_law_block", 4)]) (g := gName 4) rfl scRw.nd (pi_range1 rfl fr.range_ (pa_cons (pv 1) pa_nil)) (blkOk_by (N := nRw) (sc := defScope (top 33)) (by decide +kernel)) (fun _ _ _ _ _ => pg_name (i := 4) scRw.nd rfl (Or.inl rfl))
          (fun _ _ _ _ _ => pts_one (pt_cmpR op_gt (pe_cl KD hr (pa_cons (pv 0) (pa_cons pe_int pa_nil))) pe_int (nomark _))) (fun _ _ _ _ _ => pv 4))))))), ?_⟩
    have st0 : L2.start nRw [.ref p, nV old, nV way] = [some (.ref p), some (nV old), some (nV way), none, none, none] := rfl
    rw [st0]
    have evw : ∀ (k : Int) b, decide (V.int (way : Int) = V.int k) = b → EvT (tTest (tOp rEq (tVar 2) (tC (.int k)))) [some (.ref p), some (nV old), some (nV way), none, none, none] H b := fun k b hb => by
      have := et_test (ev_op (σ := [some (.ref p), some (nV old), some (nV way), none, none, none]) (H := H) (ta := tVar 2) (tb := tC (.int k)) (ev_var rfl) ev_c (rv_eq rfl))
      rw [hb] at this
      exact this
    refine sq_when (evw 0 _ rfl) (fun _ => sq_ret ((eq_rowLc (i := 0) (j := 4) (N := old) rfl (by decide) (by show 4 < 6; decide) (ea_cons (ev_var rfl) ea_nil) (by omega) (by decide) (by decide) (by omega) fun d L => gv_eq).imp fun v n' H' _ ⟨h1, h2⟩ => ⟨by show n' ≤ n + 40; omega, h2⟩)) fun _ => ?_
    refine sq_when (evw 1 _ rfl) (fun _ => ?_) fun _ => ?_
    · refine sq_set (eq_draw (m := (old : Int) + 1) rfl (ev_op (ev_var rfl) ev_c rv_I0) (by omega) (by omega) (by omega)) fun v n' H' e ⟨hn', r, hv, hr'⟩ => ?_
      subst hv
      refine sq_ret fun Ht et h0 hp Q q => ?_
      -- list(range(first, min(..)))
      refine ⟨nV r, rfl, nV old, rfl, nV r, rfl, (r : Int), 1, rfl, rfl, ?_⟩
      refine eq_draw (m := 3) rfl ev_c (by decide) (by decide) (by omega) Ht et h0 hp _ fun v n'' H'' H2 s hp2 ⟨hn'', d, hv, hd⟩ => ?_
      subst hv
      refine ⟨(r : Int) + 1, (d : Int), rfl, rfl, (old : Int), _, rfl, (r : Int), _, rfl, rfl, RgOk.of_le (by omega) ?_ (by omega) ?_, fun t ht => ?_⟩
      · split <;> omega
      · split <;> omega
      · obtain ⟨b, hb, hbo⟩ : ∃ b : Nat, (if (r : Int) + 1 + (d : Int) < (old : Int) then (r : Int) + 1 + (d : Int) else (old : Int)) = (b : Int) ∧ b ≤ old := by
          split
          · exact ⟨r + 1 + d, by omega, by omega⟩
          · exact ⟨old, rfl, Nat.le_refl _⟩
        rw [hb]
        refine q _ n'' _ _ (s.trans (StepQ.of (Step.new s.inn ht)) hp h0 ⟨_, hp2⟩) (hp2.ex (Ex.new ht)) ⟨by show n'' ≤ n + 40; omega, t, (List.range (b - r)).map fun i => r + i, rfl, ?_, rising_range r (b - r), fun x hx => ?_⟩
        · rw [upd_same]
          unfold rgV
          have e1 : ((b : Int) - (r : Int)).toNat = b - r := by omega
          rw [e1, List.map_map]
          congr 2
        · obtain ⟨i, hi, rfl⟩ := List.mem_map.mp hx
          have := List.mem_range.mp hi
          show r + i < old
          omega
    refine sq_when (evw 2 _ rfl) (fun _ => ?_) fun _ => ?_
    · have evo := et_test (ev_op (σ := [some (.ref p), some (nV old), some (nV way), none, none, none]) (H := H) (ta := tVar 1) (tb := tC (.int 0)) (ev_var rfl) ev_c (rv_I0 (g := fun i j => .bl (decide (j < i)))))
      refine sq_ret (eq_if (R := fun b n' H' => n' = n ∧ b = decide ((0 : Int) < (old : Int))) (fun Ht et h0 hp Q q => evo Ht et _ fun H2 e2 => q _ n H H2 (StepQ.of (Step.ex et e2)) (hp.ex e2) ⟨rfl, rfl⟩) (fun n' H' e ⟨hn', hb⟩ => ?_) fun n' H' e ⟨hn', _⟩ => ?_)
      · subst hn'
        have ho1 : 1 ≤ old := by have := of_decide_eq_true hb.symm; omega
        refine (eq_sorted (K := K) (old := old) (c := 4) (eq_pairs (K := K) (i := 0) (i1 := 1) (j := 5) (old := old) rfl rfl (by decide) (by decide) ho1 (by omega) (by omega) ?_) fun v n'' H'' pp => pp).imp fun v n'' H'' _ ⟨h1, h2⟩ => ⟨by show n'' ≤ n' + 40; omega, h2⟩
        refine eqa_cons (P1 := fun v m _ => m ≤ n' + 1 ∧ ∃ N : Nat, v = nV N ∧ N ≤ 3) (eq_op (P1 := fun v m _ => m = n' ∧ v = .int 1) (P2 := fun x y m _ => m ≤ n' + 1 ∧ x = .int 1 ∧ ∃ d : Nat, y = nV d ∧ d < 2) ((eq_of (ep_of ev_c)).imp fun v m _ _ ⟨h1, h2⟩ => ⟨h1, h2⟩) (fun x m H'' _ hx => (eq_draw (m := 2) rfl ev_c (by decide) (by decide) (by have := hx.1; omega)).imp fun v m' _ _ ⟨h1, d, h2, h3⟩ => ⟨by have := hx.1; omega, hx.2, d, h2, by omega⟩) fun x y m H'' ⟨h1, h2, d, h3, h4⟩ => ?_) fun v m H'' _ ⟨h1, N, h2, h3⟩ => eqa_nil ⟨h1, N, by rw [h2], h3⟩
        subst h2 h3
        exact fun Ht et Q q => ⟨1, (d : Int), rfl, rfl, q _ H'' Ht (Step.refl et) ⟨h1, 1 + d, by show V.int _ = V.int _; congr 1, by omega⟩⟩
      · subst hn'
        exact (eq_of (ep_ofL (el_lst ea_nil (by decide)))).imp fun v m H'' _ ⟨h1, t, h2, _, h4⟩ => ⟨by show m ≤ n' + 40; omega, t, [], h2, h4, rfl, fun _ h => by cases h⟩
    · exact sq_ret ((eq_rowLc (i := 0) (j := 4) (N := old) rfl (by decide) (by show 4 < 6; decide) (ea_cons (ev_var rfl) ea_nil) (by omega) (by decide) (by decide) (by omega) fun d L => gv_gt).imp fun v n' H' _ ⟨h1, h2⟩ => ⟨by show n' ≤ n + 40; omega, h2⟩)
/-! ### _law_drawn_lot -/
abbrev nDl : List Str := ["_law_purse_here", "_law_recipe_here", "_law_block"]
theorem scDl : FnScope nDl ["_law_purse_here", "_law_recipe_here"] (defScope (top 39)) := ⟨rfl, rfl, rfl, by decide +kernel, rfl, by decide +kernel, by decide +kernel⟩
def preDl (C : Addr) (q : Nat × List (List Nat)) (p : Addr) (vs : List V) (H : Hp) : Prop := ∃ r, vs = [.ref p, .ref r] ∧ RecL C H r q.1 q.2 ∧ q.2.length ≤ 20
abbrev spDl (C : Addr) : Sp := spQ (preDl C) (fun _ => 40) (fun q v H => RowV q.2.length v H)
theorem ok_drawn_lot (F : FnT K "_law_drawn_lot" 39 f fd) (KD : Kp P w K mg base CX0 2 "_law_draw" ["_law_purse_here", "_law_many"] spD) (fr : Fr mg) : FnOk P w K mg base CX0 3 f fd ["_law_purse_here", "_law_recipe_here"] (spDl C) := by
  refine okQ F scDl (fun q p vs H h => ?_) (fun cdv A outer s H1 vs E q H p n hr hn h => ?_)
  · obtain ⟨r, rfl, _⟩ := h
    rfl
  · obtain ⟨m, rows⟩ := q
    obtain ⟨r, rfl, hrec, hrl⟩ := h
    have hrl : rows.length ≤ 20 := hrl
    have hn : n + 40 ≤ 900000000 := hn
    obtain ⟨pr, hre, hpr⟩ := hrec
    refine ⟨_, PSs.nox (pss_one (ps_ret (pe_lc (own := [("_law_block", 2)]) (g := gName 2) rfl scDl.nd (pi_range1 rfl fr.range_ (pa_cons (pe_callB call_len_seq rfl fr.len_ bt_len (pa_cons (pe_ix ix_list (pv 1) pe_int (fun _ _ => rfl)) pa_nil)) pa_nil)) (blkOk_by (N := nDl) (sc := defScope (top 39)) (by decide +kernel)) (fun _ _ _ _ _ => pg_name (i := 2) scDl.nd rfl (Or.inl rfl))
          (fun _ _ _ _ _ => pts_one (pt_cmpR op_eq (pe_cl KD hr (pa_cons (pv 0) (pa_cons pe_int pa_nil))) pe_int (nomark _))) (fun _ _ _ _ _ => pv 2)))), ?_⟩
    obtain ⟨_, yp, epp, hyp, hpd⟩ := hpr.2 _ (by rw [rowsD_nat])
    cases epp
    have hypl : yp.length = rows.length := by rw [DenL.len _ _ hpd, List.length_map]
    have evl := ev_lenL (K := K) (σ := L2.start nDl [.ref p, .ref r]) (te := tOp (rIxL K) (tVar 1) (tC (.int 1))) (ev_op (ev_var rfl) ev_c (rv_ixL (i := 1) (sq_of (K := K) hre) (atI_nat (j := 1) rfl))) (sq_of hyp)
    rw [hypl] at evl
    exact sq_ret ((eq_rowLc (i := 0) (j := 2) (N := rows.length) rfl (by decide) (by show 2 < 3; decide) (ea_cons evl ea_nil) (by omega) (by decide) (by decide) (by omega) fun d L => gv_eq).imp fun v n' H' _ ⟨h1, h2⟩ => ⟨by show n' ≤ n + 40; omega, h2⟩)
end
end G

/-! _law_recipe, _law_great. -/
namespace G
open PySem PySem.Spec PyProof.Rows L2 Evl Tp RZ TL L2X StX
section
variable {P : Program} {w : World} {K : PySem.W.Frag} {mg : Str → Option Value} {base : Heap} {f C CL CT CR : Addr} {fd : FuncData} {H : Hp} {σ : L2.St} {p : Addr} {n : Nat} {ta tb te : TE}
theorem RowV.mono {m : Nat} {v : V} {H H' : Hp} (e : Ex H H') (h : RowV m v H) : RowV m v H' := by
  obtain ⟨q, ns, h1, h2, h3, h4⟩ := h
  exact ⟨q, ns, h1, e _ _ h2, h3, h4⟩
/-- rows so far -/
def RwI (m i : Nat) (ys : List V) (H : Hp) : Prop := ys.length = i ∧ ∀ y ∈ ys, RowV m y H
theorem RwI.snoc {m i : Nat} {ys : List V} {v : V} {H H' : Hp} (e : Ex H H') (h : RwI m i ys H) (hv : RowV m v H') : RwI m (i + 1) (ys ++ [v]) H' := ⟨by simp [h.1], fun y hy => by
  rcases List.mem_append.mp hy with hy | hy
  · exact (h.2 y hy).mono e
  · rw [List.mem_singleton.mp hy]; exact hv⟩
theorem rows_of {m : Nat} {H : Hp} : ∀ ys : List V, (∀ y ∈ ys, RowV m y H) → ∃ rows : List (List Nat), rows.length = ys.length ∧ TrL C ((natR rows).map intsD) ys H ∧ (∀ r ∈ rows, Pap.rising r = true ∧ ∀ x ∈ r, x < m)
  | [], _ => ⟨[], rfl, ⟨rfl, fun _ _ _ h => by cases h⟩, fun _ h => by cases h⟩
  | y :: ys, h => by
    obtain ⟨rows, h1, h2, h3⟩ := rows_of ys fun y hy => h y (List.mem_cons_of_mem _ hy)
    obtain ⟨q, ns, k1, k2, k3, k4⟩ := h y (by simp)
    subst k1
    refine ⟨ns :: rows, by simp [h1], ⟨by simp [h2.1.symm, h1], fun i d v hd hv => ?_⟩, fun r hr => ?_⟩
    · cases i with
      | zero =>
        cases hv
        cases hd
        rw [intsD_nat]
        exact ⟨⟨q, _, rfl, .inl k2, den_nsL ns⟩, fun t ht => by cases ht; exact ⟨q, _, rfl, k2, den_nsL ns⟩⟩
      | succ i => exact h2.2 i d v hd hv
    · rcases List.mem_cons.mp hr with hr | hr
      · rw [hr]; exact ⟨k3, k4⟩
      · exact h3 r hr
/-- the great recipe -/
def GrV (C : Addr) (a b : Nat) (v : V) (H : Hp) : Prop := ∃ r m rows, v = .ref r ∧ RecL C H r m rows ∧ m ≤ b ∧ 1 ≤ rows.length ∧ rows.length ≤ a ∧ ∀ r ∈ rows, Pap.rising r = true ∧ ∀ x ∈ r, x < m
abbrev nRe : List Str := ["_law_purse_here", "_law_most_new", "_law_most_old", "_law_new", "_law_old", "_law_way", "_law_parts", "_law_block"]
theorem scRe : FnScope nRe ["_law_purse_here", "_law_most_new", "_law_most_old"] (defScope (top 34)) := ⟨rfl, rfl, rfl, by decide +kernel, rfl, by decide +kernel, by decide +kernel⟩
def preRe (q : Nat × Nat) (p : Addr) (vs : List V) (_ : Hp) : Prop := vs = [.ref p, nV q.1, nV q.2] ∧ 1 ≤ q.1 ∧ q.1 ≤ 8 ∧ q.2 ≤ 8
abbrev spRe (C : Addr) : Sp := spQ preRe (fun _ => 600) (fun q v H => GrV C q.1 q.2 v H)
theorem eq_row {i j m d : Nat} (hi : σ[i]? = some (some (.ref p))) (hj : σ[j]? = some (some (nV m))) (hk : Ev te σ H (nV d)) (hm : m ≤ 20) (hn : n + 40 ≤ 900000000) : EvQ p (tCall spRw [] E0 (tCons (tVar i) (tCons (tVar j) (tCons te tNil)))) σ n H (fun v n' H' => n' ≤ n + 40 ∧ RowV m v H') :=
  eq_call (eqa_of (ea_cons (ev_var hi) (ea_cons (ev_var hj) (ea_cons hk ea_nil)))) fun vs n' H' e ⟨hv, hn', hH⟩ => ⟨(m, d), ⟨hv, hm⟩, by omega, fun v n'' H'' _ hn'' hq => ⟨by omega, hq⟩⟩
abbrev rLst (K : PySem.W.Frag) : List V → Hp → VK → Prop := fun xs H Q => ∃ p ys, xs = [V.ref p] ∧ (SqL K H p ys ∨ SqT K H p ys) ∧ ∀ l, H l = none → Q (.ref l) (upd H l (.lst ys))
theorem gv_copyR {m : Nat} {v : V} {H : Hp} (h : RowV m v H) : Gv (fun H1 Q => ∃ q zs, [v] = [.ref q] ∧ (SqL K H1 q zs ∨ SqT K H1 q zs) ∧ ∀ l, H1 l = none → Q (.ref l) (upd H1 l (.lst zs))) H (RowV m) := by
  obtain ⟨q, ns, h1, h2, h3, h4⟩ := h
  subst h1
  exact gv_list (.inl (.inl (.inl h2))) fun l hl => ⟨l, ns, rfl, upd_same, h3, h4⟩
theorem eq_lst {tr : TA} {P1 : List V → Nat → Hp → Prop} {P2 : V → Nat → Hp → Prop} (h : EvQA p tr σ n H P1) (hl : ∀ vs n' H', P1 vs n' H' → vs.length ≤ 100000) (k : ∀ vs n' H' q, Ex H H' → P1 vs n' H' → H' q = none → P2 (.ref q) n' (upd H' q (.lst vs))) : EvQ p (tLst tr) σ n H P2 := fun H1 e h0 hp Q q =>
  h H1 e h0 hp _ fun vs n' H' H2 s hp2 p1 => ⟨by have := hl vs n' H' p1; rw [sizeLine_eq]; omega, fun r hr => q _ n' _ _ (s.trans (StepQ.of (Step.new s.inn hr)) hp h0 ⟨_, hp2⟩) (hp2.ex (Ex.new hr)) (k vs n' H' r s.loc p1 (fresh_back s.inn hr))⟩
theorem eq_tup {tr : TA} {P1 : List V → Nat → Hp → Prop} {P2 : V → Nat → Hp → Prop} (h : EvQA p tr σ n H P1) (hl : ∀ vs n' H', P1 vs n' H' → vs.length ≤ 100000) (k : ∀ vs n' H' q, Ex H H' → P1 vs n' H' → H' q = none → P2 (.ref q) n' (upd H' q (.tup vs))) : EvQ p (tTup tr) σ n H P2 := fun H1 e h0 hp Q q =>
  h H1 e h0 hp _ fun vs n' H' H2 s hp2 p1 => ⟨by have := hl vs n' H' p1; rw [sizeLine_eq]; omega, fun r hr => q _ n' _ _ (s.trans (StepQ.of (Step.new s.inn hr)) hp h0 ⟨_, hp2⟩) (hp2.ex (Ex.new hr)) (k vs n' H' r s.loc p1 (fresh_back s.inn hr))⟩
theorem eq_lcN {tr : TA} {j c N : Nat} {tt : TT} {vs : List Nat} (Inv : Nat → List V → Hp → Prop) (stab : ∀ i ys A B, Ex A B → Inv i ys A → Inv i ys B) (h : EvA tr σ H [nV N]) (hB : N ≤ 40000) (hi0 : Inv 0 [] H)
    (hw : ∀ x, wipe ((wipe σ vs).set j (some x)) vs = wipe σ vs)
    (turn : ∀ (i : Nat) H' m ys, Ex H H' → i < N → m ≤ n + c * i → Inv i ys H' → TurnQ p tt te ((wipe σ vs).set j (some (nV i))) m H' (fun o m' H'' => m' ≤ n + c * (i + 1) ∧ Inv (i + 1) (match o with | some y => ys ++ [y] | none => ys) H'')) :
    EvQ p (tLc (iRng1 tr) (gName j) tt te vs) σ n H (LcQ n c H N Inv) := fun H1 e h0 hp Q q =>
  h H1 e _ fun H2 e2 => by
    have s : StepQ p H H1 H H2 := StepQ.of (Step.ex e e2)
    have hp2 := hp.ex e2
    refine ⟨(N : Int), rfl, by omega, by omega, ?_⟩
    have e1 : ((N : Int)).toNat = N := by omega
    rw [e1]
    exact eq_lc (H := H) (p := p) (n := n) (c := c) Inv stab (by omega) s.inn h0 hp2 hi0 (fun i H3 hi _ => hi) (fun H3 _ => Nat.le_refl _) (fun i H3 x H4 hi _ y => by
      obtain ⟨e4, rfl⟩ := y
      refine ⟨e4, _, fun Qg z => z, hw _, fun H'' m ys e5 hm hinv => ?_⟩
      have e0 : (0 : Int) + (i : Int) = (i : Int) := Int.zero_add _
      rw [e0]
      exact turn i H'' m ys e5 (by omega) hm hinv) fun v n'' H'' H3 s3 hp3 pp => q v n'' H'' H3 (s.trans s3 hp h0 ⟨_, hp2⟩) hp3 pp
/-- [old, [.. for block in range(new)]] -/
theorem eq_rows {io j ir m nw : Nat} {c : Nat} (ho : σ[io]? = some (some (nV m))) (hr : σ[ir]? = some (some (nV nw))) (hnw8 : nw ≤ 8) (hw : ∀ x, wipe ((wipe σ [j]).set j (some x)) [j] = wipe σ [j])
    (turn : ∀ (i : Nat) H' m' , Ex H H' → m' ≤ n + c * 8 → EvQ p te ((wipe σ [j]).set j (some (nV i))) m' H' (fun v n' H'' => n' ≤ m' + c ∧ RowV m v H'')) :
    EvQ p (tLst (tCons (tVar io) (tCons (tLc (iRng1 (tCons (tVar ir) tNil)) (gName j) tYes te [j]) tNil))) σ n H (fun v n' H' => n' ≤ n + c * 8 ∧ ∃ r rows, v = .ref r ∧ RecL C H' r m rows ∧ rows.length = nw ∧ ∀ r ∈ rows, Pap.rising r = true ∧ ∀ x ∈ r, x < m) := by
  refine eq_lst (P1 := fun vs n' H' => n' ≤ n + c * 8 ∧ ∃ D ys, vs = [nV m, .ref D] ∧ H' D = some (.lst ys) ∧ RwI m nw ys H') (eqa_cons (P1 := fun v n' _ => n' = n ∧ v = nV m) ((eq_of (ep_of (ev_var ho))).imp fun v n' H' _ h => h) fun v n' H' e hv => ?_) (fun vs n' H' ⟨_, D, ys, hv, _⟩ => by rw [hv]; show 2 ≤ 100000; decide) fun vs n' H' q e ⟨h1, D, ys, hv, hD, h2⟩ hq => ⟨h1, ?_⟩
  · obtain ⟨rfl, rfl⟩ := hv
    have main := eq_lcN (p := p) (n := n') (te := te) (tt := tYes) (j := j) (vs := [j]) (c := c) (N := nw) (σ := σ) (H := H') (RwI m) (fun i ys A B e h => ⟨h.1, fun y hy => (h.2 y hy).mono e⟩) (ea_cons (ev_var hr) ea_nil) (by omega) ⟨rfl, fun _ h => by cases h⟩ hw (fun i' H'' m' ys e2 hi' hm hinv => turn_yes ((turn i' H'' m' (e.trans e2) (by have := Nat.mul_le_mul_left c (show i' ≤ 8 by omega); omega)).imp fun v n'' H3 e3 ⟨k1, k2⟩ => ⟨by rw [Nat.mul_succ]; omega, hinv.snoc e3 k2⟩))
    refine eqa_cons main fun v n2 H2 e2 ⟨D, ys, hv, _, hD, _, hinv, hn2⟩ => eqa_nil ⟨by have := Nat.mul_le_mul_left c hnw8; omega, D, ys, by rw [hv], hD, hinv⟩
  · obtain ⟨rows, k1, k2, k3⟩ := rows_of (C := C) ys h2.2
    subst hv
    refine ⟨q, rows, rfl, ⟨D, upd_same, ?_⟩, by rw [k1, h2.1], k3⟩
    have ex := Ex.new (o := .lst [nV m, .ref D]) hq
    exact ⟨⟨D, ys, rfl, .inl (ex _ _ hD), DenL.mono ex _ _ k2.den⟩, fun t ht => by cases ht; exact ⟨D, ys, rfl, ex _ _ hD, DenL.mono ex _ _ k2.den⟩⟩
theorem sq_tup3 {i j l : Nat} {tr : TA} {tz : TS} {Nx : L2.St → Nat → Hp → Prop} {Rt : V → Nat → Hp → Prop} {P1 : List V → Nat → Hp → Prop} (h : EvQA p tr σ n H P1) (k : ∀ vs n' H', Ex H H' → P1 vs n' H' → ∃ a b c, vs = [a, b, c] ∧ SvQ p tz (((σ.set i (some a)).set j (some b)).set l (some c)) n' H' Nx Rt) :
    SvQ p (tSeq (tAsg (tTup tr) (gTup K 3 (gCons (gName i) (gCons (gName j) (gCons (gName l) gNil))))) tz) σ n H Nx Rt := fun H1 e h0 hp D dn dr =>
  h H1 e h0 hp _ fun vs n' H' H2 s hp2 p1 => by
    obtain ⟨a, b, c, rfl, k⟩ := k vs n' H' s.loc p1
    refine ⟨by show 3 ≤ sizeLine; decide, fun T hT => ⟨T, [a, b, c], rfl, .inl (.inl upd_same), rfl, a, [b, c], rfl, b, [c], rfl, c, [], rfl, rfl, ?_⟩⟩
    have s1 : StepQ p H' H2 H' (upd H2 T (.tup [a, b, c])) := StepQ.of (Step.ex s.inn (Ex.new hT))
    have sT := s.trans s1 hp h0 ⟨_, hp2⟩
    have hp3 := hp2.ex (Ex.new (o := .tup [a, b, c]) hT)
    exact k _ sT.inn (s.out h0 hp) hp3 D (fun σ2 n2 H2' H3 s2 hp3' => dn σ2 n2 H2' H3 (sT.trans s2 hp h0 ⟨_, hp3⟩) hp3') fun v n2 H2' H3 s2 hp3' => dr v n2 H2' H3 (sT.trans s2 hp h0 ⟨_, hp3⟩) hp3'
theorem ok_recipe (F : FnT K "_law_recipe" 34 f fd) (KD : Kp P w K mg base CX0 2 "_law_draw" ["_law_purse_here", "_law_many"] spD) (KW : Kp P w K mg base CX0 3 "_law_row" ["_law_purse_here", "_law_old", "_law_way"] spRw) (KO : Kp P w K mg base CX0 3 "_law_one_of" ["_law_purse_here", "_law_some"] spOo) (fr : Fr mg) :
    FnOk P w K mg base CX0 4 f fd ["_law_purse_here", "_law_most_new", "_law_most_old"] (spRe C) := by
  refine okQ F scRe (fun q p vs H h => ?_) (fun cdv A outer s H1 vs E q H p n hr hn h => ?_)
  · obtain ⟨rfl, _⟩ := h
    rfl
  · obtain ⟨a, b⟩ := q
    obtain ⟨rfl, ha1, ha8, hb8⟩ := h
    have ha1 : 1 ≤ a := ha1
    have ha8 : a ≤ 8 := ha8
    have hb8 : b ≤ 8 := hb8
    have hn : n + 600 ≤ 900000000 := hn
    have h2 := hr.mono (show 2 ≤ 3 by decide)
    refine ⟨_, PSs.nox (pss_cons (ps_asg (g := gTup _ 3 (gCons (gName 3) (gCons (gName 4) (gCons (gName 5) gNil)))) (pe_tup (pa_cons (pe_op op_add pe_int (pe_cl KD h2 (pa_cons (pv 0) (pa_cons (pv 1) pa_nil)))) (pa_cons (pe_cl KD h2 (pa_cons (pv 0) (pa_cons (pe_op op_add (pv 2) pe_int) pa_nil))) (pa_cons (pe_cl KD h2 (pa_cons (pv 0) (pa_cons pe_int pa_nil))) pa_nil))))
        (pg_tup rfl (pgs_cons (pg_name (i := 3) scRe.nd rfl (.inl rfl)) (pgs_cons (pg_name (i := 4) scRe.nd rfl (.inr rfl)) (pgs_cons (pg_name (i := 5) scRe.nd rfl (.inr rfl)) pgs_nil)))))
      (pss_cons (ps_if (pt_cmpR op_lt (pv 5) pe_int (nomark _)) (pss_one (ps_ret (pe_lst (pa_cons (pv 4) (pa_cons (pe_lc (own := [("_law_block", 7)]) (g := gName 7) (tt := tYes) rfl scRe.nd (pi_range1 rfl fr.range_ (pa_cons (pv 3) pa_nil)) (blkOk_by (N := nRe) (sc := defScope (top 34)) (by decide +kernel)) (fun _ _ _ _ _ => pg_name (i := 7) scRe.nd rfl (Or.inl rfl)) (fun _ _ _ _ _ => pts_nil)
            (fun _ _ _ _ _ => pe_cl KW hr (pa_cons (pv 0) (pa_cons (pv 4) (pa_cons (pv 5) pa_nil))))) pa_nil))))) pss_nil)
      (pss_cons (ps_set (i := 6) scRe.nd rfl (.inr rfl) (pe_lst (pa_cons (pe_cl KW hr (pa_cons (pv 0) (pa_cons (pv 4) (pa_cons pe_int pa_nil)))) (pa_cons (pe_cl KW hr (pa_cons (pv 0) (pa_cons (pv 4) (pa_cons pe_int pa_nil)))) pa_nil))))
      (pss_cons (ps_if (pt_cmpR op_eq (pv 5) pe_int (nomark _)) (pss_one (ps_ret (pe_lst (pa_cons (pv 4) (pa_cons (pe_lc (own := [("_law_block", 7)]) (g := gName 7) (tt := tYes) rfl scRe.nd (pi_range1 rfl fr.range_ (pa_cons (pv 3) pa_nil)) (blkOk_by (N := nRe) (sc := defScope (top 34)) (by decide +kernel)) (fun _ _ _ _ _ => pg_name (i := 7) scRe.nd rfl (Or.inl rfl)) (fun _ _ _ _ _ => pts_nil)
            (fun _ _ _ _ _ => pe_callTy (show CallR _ (.type "list") (rLst K) from call_list_of) rfl fr.list_ bt_list (pa_cons (pe_cl KO hr (pa_cons (pv 0) (pa_cons (pv 6) pa_nil))) pa_nil))) pa_nil))))) pss_nil)
      (pss_one (ps_ret (pe_lst (pa_cons (pv 4) (pa_cons (pe_lc (own := [("_law_block", 7)]) (g := gName 7) (tt := tYes) rfl scRe.nd (pi_range1 rfl fr.range_ (pa_cons (pv 3) pa_nil)) (blkOk_by (N := nRe) (sc := defScope (top 34)) (by decide +kernel)) (fun _ _ _ _ _ => pg_name (i := 7) scRe.nd rfl (Or.inl rfl)) (fun _ _ _ _ _ => pts_nil)
            (fun _ _ _ _ _ => pe_ifExp (pt_cmpR op_eq (pe_cl KD h2 (pa_cons (pv 0) (pa_cons pe_int pa_nil))) pe_int (nomark _)) (pe_cl KW hr (pa_cons (pv 0) (pa_cons (pv 4) (pa_cons (pe_cl KD h2 (pa_cons (pv 0) (pa_cons pe_int pa_nil))) pa_nil)))) (pe_callTy (show CallR _ (.type "list") (rLst K) from call_list_of) rfl fr.list_ bt_list (pa_cons (pe_ix (r := rIxL K) ix_list (pv 6) pe_int (fun _ _ => rfl)) pa_nil)))) pa_nil))))))))), ?_⟩
    have st0 : L2.start nRe [.ref p, nV a, nV b] = [some (.ref p), some (nV a), some (nV b), none, none, none, none, none] := rfl
    rw [st0]
    refine sq_tup3 (P1 := fun vs n' _ => n' ≤ n + 3 ∧ ∃ nw m w : Nat, vs = [nV nw, nV m, nV w] ∧ 1 ≤ nw ∧ nw ≤ a ∧ m ≤ b) (eqa_cons (P1 := fun v n' _ => n' ≤ n + 1 ∧ ∃ nw : Nat, v = nV nw ∧ 1 ≤ nw ∧ nw ≤ a) ?_ fun v1 n1 H1' e1 ⟨q1, nw, q2, q3, q4⟩ => eqa_cons (P1 := fun v n' _ => n' ≤ n + 2 ∧ ∃ m : Nat, v = nV m ∧ m ≤ b) ?_ fun v2 n2 H2' e2 ⟨r1, m, r2, r3⟩ => eqa_cons (P1 := fun v n' _ => n' ≤ n + 3 ∧ ∃ w : Nat, v = nV w) ?_ fun v3 n3 H3' e3 ⟨u1, w, u2⟩ => eqa_nil ⟨u1, nw, m, w, by rw [q2, r2, u2], q3, q4, r3⟩) fun vs n' H' e ⟨hn', nw, m, w, hv, k1, k2, k3⟩ => ⟨_, _, _, hv, ?_⟩
    · refine eq_op (P1 := fun v m _ => m = n ∧ v = .int 1) (P2 := fun x y m _ => m ≤ n + 1 ∧ x = .int 1 ∧ ∃ d : Nat, y = nV d ∧ d < a) ((eq_of (ep_of ev_c)).imp fun v m _ _ h => h) (fun x m H'' _ hx => (eq_draw (m := (a : Int)) rfl (ev_var rfl) (by omega) (by omega) (by have := hx.1; omega)).imp fun v m' _ _ ⟨h1, d, h2, h3⟩ => ⟨by have := hx.1; omega, hx.2, d, h2, by omega⟩) fun x y m H'' ⟨h1, h2, d, h3, h4⟩ => ?_
      subst h2 h3
      exact fun Ht et Q q => ⟨1, (d : Int), rfl, rfl, q _ H'' Ht (Step.refl et) ⟨h1, 1 + d, by show V.int _ = V.int _; congr 1, by omega, by omega⟩⟩
    · exact (eq_draw (m := (b : Int) + 1) rfl (ev_op (ev_var rfl) ev_c rv_I0) (by omega) (by omega) (by omega)).imp fun v m' _ _ ⟨h1, d, h2, h3⟩ => ⟨by omega, d, h2, by omega⟩
    · exact (eq_draw (m := 6) rfl ev_c (by decide) (by decide) (by omega)).imp fun v m' _ _ ⟨h1, d, h2, h3⟩ => ⟨by omega, d, h2⟩
    -- the way
    have evw : ∀ {H : Hp} (k : Int) {z : Option V}, EvT (tTest (tOp (rI0 fun i j => .bl (decide (i < j))) (tVar 5) (tC (.int k)))) [some (.ref p), some (nV a), some (nV b), some (nV nw), some (nV m), some (nV w), z, none] H (decide ((w : Int) < k)) := fun {H} k {z} => et_test (ev_op (ev_var rfl) ev_c (rv_I0 (g := fun i j => .bl (decide (i < j)))))
    have fin : ∀ {N : Nat} {v : V} {n' : Nat} {H' : Hp}, N ≤ n + 600 → (n' ≤ N ∧ ∃ r rows, v = .ref r ∧ RecL C H' r m rows ∧ rows.length = nw ∧ ∀ r ∈ rows, Pap.rising r = true ∧ ∀ x ∈ r, x < m) → n' ≤ n + 600 ∧ GrV C a b v H' := fun hN ⟨h1, r, rows, h2, h3, h4, h5⟩ => ⟨by omega, r, m, rows, h2, h3, k3, by omega, by omega, h5⟩
    refine sq_when (evw 4) (fun _ => sq_ret ((eq_rows (C := C) (c := 40) (m := m) (nw := nw) rfl rfl (by omega) (fun _ => rfl) fun i H2 m' e2 hm' => eq_row (j := 4) (d := w) rfl rfl (ev_var rfl) (by omega) (by omega)).imp fun v n'' H'' _ h => fin (by omega) h)) fun _ => ?_
    refine sq_set (P1 := fun v n2 H2 => n2 ≤ n' + 80 ∧ ∃ D x y, v = .ref D ∧ H2 D = some (.lst [x, y]) ∧ RowV m x H2 ∧ RowV m y H2) (eq_lst (P1 := fun vs n2 H2 => n2 ≤ n' + 80 ∧ ∃ x y, vs = [x, y] ∧ RowV m x H2 ∧ RowV m y H2) (eqa_cons (eq_row (d := 3) (m := m) rfl rfl ev_c (by omega) (by omega)) fun x n1 H1' e1 ⟨q1, q2⟩ => eqa_cons (eq_row (d := 0) (m := m) rfl rfl ev_c (by omega) (by omega)) fun y n2 H2' e2 ⟨r1, r2⟩ => eqa_nil ⟨by omega, x, y, rfl, q2.mono e2, r2⟩) (fun vs n2 H2 ⟨_, x, y, hv, _⟩ => by rw [hv]; show 2 ≤ 100000; decide) fun vs n2 H2 q e2 ⟨h1, x, y, hv, h2, h3⟩ hq => ⟨h1, q, x, y, rfl, by rw [upd_same, hv], h2.mono (Ex.new hq), h3.mono (Ex.new hq)⟩) fun v n2 H2 e2 ⟨hn2, D, x, y, hv, hD, hx, hy⟩ => ?_
    subst hv
    have evw2 : EvT (tTest (tOp rEq (tVar 5) (tC (.int 4)))) [some (.ref p), some (nV a), some (nV b), some (nV nw), some (nV m), some (nV w), some (.ref D), none] H2 (decide (V.int (w : Int) = V.int 4)) := et_test (ev_op (ta := tVar 5) (tb := tC (.int 4)) (ev_var rfl) ev_c (rv_eq rfl))
    refine sq_when evw2 (fun _ => sq_ret ((eq_rows (C := C) (c := 1) (m := m) (nw := nw) rfl rfl (by omega) (fun _ => rfl) fun i H3 m' e3 hm' => ?_).imp fun v n'' H'' _ h => fin (by omega) h)) fun _ => ?_
    · refine eq_cb1 (P1 := fun v n'' H'' => n'' ≤ m' + 1 ∧ RowV m v H'') ((eq_call (pre := preOo) (cost := fun _ => 1) (post := fun xs v _ => v ∈ xs) (Pq := fun v n'' H'' => n'' ≤ m' + 1 ∧ RowV m v H'') (eqa_of (ea_cons (ev_var rfl) (ea_cons (ev_var rfl) ea_nil))) fun vs n'' H'' e4 ⟨hv, hn'', hH⟩ => ⟨[x, y], ⟨D, hv, e4 _ _ (e3 _ _ hD), by show 1 ≤ 2; decide, by show 2 ≤ 1000; decide⟩, by omega, fun v n5 H5 e5 hn5 hq => ⟨by omega, ?_⟩⟩)) fun v n'' H'' e4 ⟨h1, h2⟩ => (gv_copyR h2).imp fun v2 H5 _ h => ⟨h1, h⟩
      have ee := (e3.trans e4).trans e5
      rcases List.mem_cons.mp hq with hq | hq
      · rw [hq]; exact hx.mono ee
      · rw [List.mem_singleton.mp hq]; exact hy.mono ee
    · refine sq_ret ((eq_rows (C := C) (c := 42) (m := m) (nw := nw) rfl rfl (by omega) (fun _ => rfl) fun i H3 m' e3 hm' => ?_).imp fun v n'' H'' _ h => fin (by omega) h)
      refine eq_if (R := fun _ n'' _ => n'' ≤ m' + 1) (eqt_test (eq_op (P1 := fun v n'' _ => n'' ≤ m' + 1 ∧ ∃ d : Nat, v = nV d) (P2 := fun x y n'' _ => n'' ≤ m' + 1 ∧ (∃ d : Nat, x = nV d) ∧ y = .int 0) ((eq_draw (m := 3) rfl ev_c (by decide) (by decide) (by omega)).imp fun v m' H'' _ ⟨h1, d, h2, _⟩ => ⟨h1, d, h2⟩) (fun x n'' H'' e2 hx => (eq_of (ep_of (ev_c (v := .int 0)))).imp fun v m'' H3 _ ⟨h1, h2⟩ => ⟨by omega, hx.2, h2⟩) fun x y n'' H'' ⟨h1, ⟨d, hd⟩, hy⟩ => ?_)) (fun n'' H'' e4 h1 => ?_) fun n'' H'' e4 h1 => ?_
      · subst hd hy
        exact gv_eq.imp fun v _ _ ⟨b, hb⟩ => ⟨b, hb, h1⟩
      · refine eq_call (pre := preRw) (cost := fun _ => 40) (post := fun q v H => RowV q.1 v H) (P1 := fun vs n5 _ => n5 ≤ n'' + 1 ∧ ∃ d : Nat, vs = [.ref p, nV m, nV d]) (eqa_cons (P1 := fun v n5 _ => n5 = n'' ∧ v = .ref p) ((eq_of (ep_of (ev_var rfl))).imp fun v n' H' _ h => h) fun v n5 H5 e5 hv => eqa_cons (P1 := fun v n5 _ => n5 = n'' ∧ v = nV m) ((eq_of (ep_of (ev_var rfl))).imp fun v n' H' _ h => ⟨by rw [h.1, hv.1], h.2⟩) fun v2 n6 H6 e6 hv2 => eqa_cons (P1 := fun v n5 _ => n5 ≤ n'' + 1 ∧ ∃ d : Nat, v = nV d) ((eq_draw (m := 4) rfl ev_c (by decide) (by decide) (by have := hv2.1; omega)).imp fun v m' H'' _ ⟨h1, d, h2, _⟩ => ⟨by have := hv2.1; omega, d, h2⟩) fun v3 n7 H7 e7 ⟨h3, d, h4⟩ => eqa_nil ⟨h3, d, by rw [hv.2, hv2.2, h4]⟩) fun vs n5 H5 e5 ⟨h2, d, hv⟩ => ⟨(m, d), ⟨hv, by show m ≤ 20; omega⟩, by show n5 + 40 ≤ _; omega, fun v n6 H6 _ hn6 hq => ⟨by have : n6 ≤ n5 + 40 := hn6; omega, hq⟩⟩
      · refine eq_cb1 (P1 := fun v n5 H5 => n5 = n'' ∧ RowV m v H5) ((eq_of (ep_ofP (P := fun v H5 => RowV m v H5) (ev_op (ev_var rfl) ev_c (rv_ixL (i := 0) (sq_of (K := K) (e4 _ _ (e3 _ _ hD))) (atI_nat (j := 0) rfl))) (hx.mono (e3.trans e4)))).imp fun v n5 H5 _ h => h) fun v n5 H5 e5 ⟨h2, h3⟩ => (gv_copyR h3).imp fun v2 H6 _ h => ⟨by omega, h⟩
/-! ### _law_great -/
theorem scGr : FnScope ["_law_purse_here"] ["_law_purse_here"] (defScope (top 40)) := ⟨rfl, rfl, rfl, by decide +kernel, rfl, by decide +kernel, by decide +kernel⟩
def preGr (_ : Unit) (p : Addr) (vs : List V) (_ : Hp) : Prop := vs = [.ref p]
abbrev spGr (C : Addr) : Sp := spQ preGr (fun _ => 600) (fun _ v H => GrV C 8 8 v H)
theorem ok_great (F : FnT K "_law_great" 40 f fd) (KR : Kp P w K mg base CX0 4 "_law_recipe" ["_law_purse_here", "_law_most_new", "_law_most_old"] (spRe C)) : FnOk P w K mg base CX0 5 f fd ["_law_purse_here"] (spGr C) := by
  refine okQ F scGr (fun q p vs H h => by rw [show vs = _ from h]; rfl) (fun cdv A outer s H1 vs E q H p n hr hn h => ?_)
  cases (show vs = [.ref p] from h)
  refine ⟨_, PSs.nox (pss_one (ps_ret (pe_cl KR hr (pa_cons (pv 0) (pa_cons pe_int (pa_cons pe_int pa_nil)))))), sq_ret ?_⟩
  exact eq_call (eqa_of (ea_cons (ev_var rfl) (ea_cons ev_c (ea_cons ev_c ea_nil)))) fun vs n' H' e ⟨hv, hn', hH⟩ => ⟨(8, 8), ⟨hv, by decide, by decide, by decide⟩, by rw [hn']; exact hn, fun v n'' H'' _ hn'' hq => ⟨by rw [hn'] at hn''; exact hn'', hq⟩⟩
end
end G

/-! _law_made, _law_purse, _law_purses. -/
namespace G
open PySem PySem.Spec PyProof.Rows L2 Evl Tp RZ TL L2X StX
section
variable {P : Program} {w : World} {K : PySem.W.Frag} {mg : Str → Option Value} {base : Heap} {f fI C CN : Addr} {fd fdI : FuncData} {H : Hp} {σ : L2.St} {p : Addr} {n : Nat} {ta tb te : TE}
theorem scMd : FnScope ["_law_recipe_here", "_law_row_here"] ["_law_recipe_here"] (defScope (top 35)) := ⟨rfl, rfl, rfl, by decide +kernel, rfl, by decide +kernel, by decide +kernel⟩
def preMd (C : Addr) (q : Addr × Nat × List (List Nat)) (vs : List V) (H : Hp) : Prop := vs = [.ref q.1] ∧ RecL C H q.1 q.2.1 q.2.2 ∧ Pap.okRec q.2.1 q.2.2 = true ∧ q.2.1 ≤ 1000000 ∧ siz (rowsD (natR q.2.2)) ≤ 30000
abbrev spMd (C : Addr) : Sp := spP (preMd C) (fun q v H => ∃ a, v = .ref a ∧ Den C H (rcN a q.2.1 q.2.2) (.ref a))
theorem ok_made (F : FnT K "_law_made" 35 f fd) (FI : FnOk P w K mg base (L2N.CX P w) 3 fI fdI ["self", "many", "needs"] (spIn C CN)) (mk : Mk K C fI) (bI : Binds K fdI ["self", "many", "needs"] []) (fr : Fr mg) (rc : RcT K mg C) : FnOk P w K mg base CX0 5 f fd ["_law_recipe_here"] (spMd C) := by
  refine okP F scMd (fun q vs H h => by rw [h.1]; rfl) (fun cdv A outer s H1 vs E q H hr h => ?_)
  obtain ⟨r, m, rows⟩ := q
  obtain ⟨rfl, hrec, hok, hm, hz⟩ := h
  have hok : Pap.okRec m rows = true := hok
  have hm : m ≤ 1000000 := hm
  have hz : siz (rowsD (natR rows)) ≤ 30000 := hz
  refine ⟨_, PSs.nox (pss_one (ps_ret (pe_makeS (E := fun _ => E0) mk FI hr rfl rc.gC bI (fun σ pins H s e s' I c => passN pins σ H s e s' I c) (pa_cons (pe_ix (r := rIxL K) ix_list (pv 0) pe_int (fun _ _ => rfl)) (pa_cons (pe_lc (own := [("_law_row_here", 1)]) (g := gName 1) (tt := tYes) (te := tListOf K (tVar 1)) rfl scMd.nd (pi_list (pe_ix (r := rIxL K) ix_list (pv 0) pe_int (fun _ _ => rfl))) (blkOk_by (N := ["_law_recipe_here", "_law_row_here"]) (sc := defScope (top 35)) (by decide +kernel)) (fun _ _ _ _ _ => pg_name (i := 1) scMd.nd rfl (Or.inl rfl)) (fun _ _ _ _ _ => pts_nil)
      (fun _ _ _ _ _ => pe_callTy call_list_of rfl fr.list_ bt_list (pa_cons (pv 1) pa_nil))) pa_nil))))), ?_⟩
  obtain ⟨pr, hre, hpr⟩ := hrec
  have hre : H r = some (.lst [nV m, .ref pr]) := hre
  have hrl : rows.length ≤ 30000 := by
    have h1 := sizL_len ((natR rows).map intsD)
    have h2 : siz (rowsD (natR rows)) = sizL ((natR rows).map intsD) + 1 := rfl
    rw [List.length_map, List.length_map] at h1
    omega
  have ev0 : Ev (tOp (rIxL K) (tVar 0) (tC (.int 0))) (L2.start ["_law_recipe_here", "_law_row_here"] [.ref r]) H (nV m) := ev_op (ev_var rfl) ev_c (rv_ixL (i := 0) (sq_of (K := K) hre) (atI_nat (j := 0) rfl))
  have ev1 : ∀ {H' : Hp}, Ex H H' → Ev (tOp (rIxL K) (tVar 0) (tC (.int 1))) (L2.start ["_law_recipe_here", "_law_row_here"] [.ref r]) H' (.ref pr) := fun e => ev_op (ev_var rfl) ev_c (rv_ixL (i := 1) (sq_of (K := K) (e _ _ hre)) (atI_nat (j := 1) rfl))
  refine sv_ret fun H1 e Q q => ?_
  refine epa_cons (P := fun vs H' => ∃ y, vs = [nV m, y] ∧ NewRows C H rows y H') (P1 := Eqv (nV m)) (ep_of ev0) (fun v H' e' hv => epa_cons (ep_copy (C := C) (rows := rows) (ev1 e') (Den.mono e' _ _ hpr.1) (by omega) (by show 1 < 2; decide)) fun y H'' e'' hy => epa_nil ⟨y, by rw [show v = _ from hv], hy.1, by
    obtain ⟨p, k1, k2, k3⟩ := hy.2
    exact ⟨p, k1, fresh_back e' k2, k3⟩⟩) H1 e _ fun vs Ha H2 s hv => ?_
  obtain ⟨y, rfl, hll, p, rfl, hp, ys, hys⟩ := hv
  intro x dx nx nd hxd
  obtain ⟨_, ys', epp, hyp, hpd⟩ := hll
  cases epp
  have ey : ys' = ys := by
    have := rd_inj hyp (.inl hys) sqO_nf (fun _ _ h => by cases h)
    exact (by injection this)
  subst ey
  have eos : (natR rows).map intsD = (rows.map some).map oD := by
    rw [List.map_map, List.map_map]
    exact List.map_congr_left fun r _ => intsD_nat r
  have all1 : Pap.allSome (rows.map some) = some rows := Pap.allSome_map rows
  have inj : ∀ rows', rows.map some = rows'.map some → rows = rows' := fun rows' h => by
    have h2 := Pap.allSome_map rows'
    rw [← h, all1] at h2
    exact Option.some.inj h2
  have eHb : Ex Ha (upd (upd H2 dx (.own x)) x (.ins C dx [])) := s.inn.trans (fun b o h => by rw [upd_ne (ne_of_none h nx), upd_ne (ne_of_none h nd)]; exact h)
  refine ⟨Ha, x, dx, m, p, ys', rows.map some, rfl, eHb, fresh_back s.inn nx, upd_same, hys, by rw [← eos]; exact hpd, by
    rw [← eos]
    have h2 : siz (rowsD (natR rows)) = sizL ((natR rows).map intsD) + 1 := rfl
    omega, ?_, ?_, ?_⟩
  · intro rows' hr' hok' r hr n hn
    have := inj rows' hr'
    subst this
    unfold Pap.okRec at hok
    have h1 := List.all_eq_true.mp (Bool.and_eq_true_iff.mp hok).2 r hr
    have h2 := of_decide_eq_true (List.all_eq_true.mp (Bool.and_eq_true_iff.mp h1).2 n hn)
    omega
  · intro rows' hr' hok' H' H6 fs pr' hmid h6 lo lr hll'
    have := inj rows' hr'
    subst this
    have st := Mid.made s.inn nx nd hxd hmid h6
    refine ⟨rfl, q (.ref x) _ H6 (s.trans st) ⟨x, rfl, rfl, dx, fs, pr', upd_same, lo, lr, Den.mono (Ex.new hmid.out) _ _ hll'⟩⟩
  · intro hno
    unfold okOs at hno
    rw [all1] at hno
    have : Pap.okRec m rows = false := hno
    rw [hok] at this
    cases this
end
end G

/-! _law_purse, _law_purses. -/
namespace G
open PySem PySem.Spec PyProof.Rows L2 Evl Tp RZ TL L2X StX
section
variable {P : Program} {w : World} {K : PySem.W.Frag} {mg : Str → Option Value} {base : Heap} {f C : Addr} {fd : FuncData} {H : Hp} {σ : L2.St} {p : Addr} {n : Nat} {ta tb te : TE}
theorem scPu : FnScope ["_law_script", "_law_at", "_law_seed"] ["_law_script", "_law_at"] (defScope (top 26)) := ⟨rfl, rfl, rfl, by decide +kernel, rfl, by decide +kernel, by decide +kernel⟩
def prePu (K : PySem.W.Frag) (q : Addr × List Int × Nat) (vs : List V) (H : Hp) : Prop := vs = [.ref q.1, nV q.2.2] ∧ SqL K H q.1 (q.2.1.map V.int)
abbrev spPu (K : PySem.W.Frag) : Sp := fun vs H1 Q _ => ∃ (q : Addr × List Int × Nat) (H : Hp), Ex H H1 ∧ prePu K q vs H ∧ ∀ (p : Addr) (H' H2 : Hp) (x y : Int), Step H H1 H' H2 → H p = none → H' p = some (.lst [.int x, .int y, .int 0, nV q.2.2]) → Q (.ref p) H2
theorem cutV_map (ns : List Int) (lo hi : Option Int) : ∃ ms : List Int, cutV (ns.map V.int) lo hi = ms.map V.int := ⟨(ns.drop (HT.sIx (ns.map V.int).length 0 lo)).take (HT.sIx (ns.map V.int).length (ns.map V.int).length hi - HT.sIx (ns.map V.int).length 0 lo), by unfold cutV; rw [List.map_take, List.map_drop]⟩
theorem ep_max2 (ha : EvP ta σ H (IntP tt)) (hb : ∀ H', Ex H H' → EvP tb σ H' (IntP tt)) : EvP (tCB (fun xs H Q => ∃ i j, xs = [.int i, .int j] ∧ Q (.int (if j > i then j else i)) H) (tCons ta (tCons tb tNil))) σ H (IntP tt) :=
  ep_cb (A := fun vs _ => ∃ i j, vs = [.int i, .int j]) (epa_cons ha fun v H' e ⟨i, hi, _⟩ => epa_cons (hb H' e) fun u H'' e2 ⟨j, hj, _⟩ => epa_nil ⟨i, j, by rw [hi, hj]⟩) fun vs H' e ⟨i, j, hv⟩ H1 e1 Q q => ⟨i, j, hv, q _ H' H1 (Step.refl e1) ⟨_, rfl, trivial⟩⟩
theorem ok_purse (F : FnT K "_law_purse" 26 f fd) (fr : Fr mg) : FnOk P w K mg base CX0 1 f fd ["_law_script", "_law_at"] (spPu K) := by
  refine F.ok scPu (fun vs H Q E h => ?_) (fun cdv A outer s H1 vs Q E hr h => ?_)
  · obtain ⟨q, H0, _, h, _⟩ := h
    rw [h.1]; rfl
  · obtain ⟨⟨a, ns, k⟩, H, e, ⟨hv, ha⟩, q⟩ := h
    have ha : SqL K H a (ns.map V.int) := ha
    have hv : vs = [.ref a, nV k] := hv
    subst hv
    refine ⟨_, PSs.nox (pss_cons (ps_set (i := 2) scPu.nd rfl (.inl rfl) (pe_callB (cr_sum rfl) rfl fr.sum_ bt_sum (pa_cons (pe_slice (r := rSlL K) sl_list (pv 0) (po_some (pv 1)) (po_some (pe_op op_add (pv 1) pe_int))) pa_nil)))
      (pss_one (ps_ret (pe_lst (pa_cons (pe_op op_mod (pe_callTy call_int1 rfl fr.int_ bt_int (pa_cons (pe_callB (call_max2 rfl) rfl fr.max_ bt_max (pa_cons (pe_op op_sub (pv 2) (pe_op op_powW pe_int pe_int)) (pa_cons pe_int pa_nil))) pa_nil)) (pe_op op_powW (pe_op op_powW pe_int pe_int) pe_int))
        (pa_cons (pe_op op_mod (pe_callTy call_int1 rfl fr.int_ bt_int (pa_cons (pv 2) pa_nil)) pe_int) (pa_cons pe_int (pa_cons (pv 1) pa_nil)))))))), ?_⟩
    have ev : Sv (tSeq (tAsg (tCB (rSum K) (tCons (tSl (rSlL K) (tVar 0) (tPart (tVar 1)) (tPart (tOp (rI0 fun i j => .int (i + j)) (tVar 1) (tC (.int 1))))) tNil)) (gName 2)) (tRet (tLst (tCons (tOp (rI (fun _ j => 0 < j) fun i j => .int (i % j)) (tInt1 (tCB (fun xs H Q => ∃ i j, xs = [.int i, .int j] ∧ Q (.int (if j > i then j else i)) H) (tCons (tOp (rI0 fun i j => .int (i - j)) (tVar 2) (tOp (rI CPowW fun i j => .int (i ^ j.toNat)) (tC (.int 10)) (tC (.int 18)))) (tCons (tC (.int 0)) tNil)))) (tOp (rI CPowW fun i j => .int (i ^ j.toNat)) (tOp (rI CPowW fun i j => .int (i ^ j.toNat)) (tC (.int 10)) (tC (.int 60))) (tC (.int 8))))
        (tCons (tOp (rI (fun _ j => 0 < j) fun i j => .int (i % j)) (tInt1 (tVar 2)) (tC (.int 2147483629))) (tCons (tC (.int 0)) (tCons (tVar 1) tNil))))))) [some (.ref a), some (nV k), none] H (fun _ _ => False) (fun v H' => ∃ (p : Addr) (x y : Int), v = .ref p ∧ H p = none ∧ H' p = some (.lst [.int x, .int y, .int 0, nV k])) := by
      refine sv_set (P := IntP tt) ?_ fun v H2 e2 hv => sv_ret ?_
      · refine ep_cb1 (P1 := fun v H' => ∃ p ms, v = .ref p ∧ H' p = some (.lst (List.map V.int ms))) ?_ fun v H' e ⟨p, ms, hv, hp⟩ => ?_
        · obtain ⟨ms, hm⟩ := cutV_map ns (some (k : Int)) (some ((k : Int) + 1))
          have := el_sl (K := K) (H := H) (σ := [some (.ref a), some (nV k), none]) (te := tVar 0) (ev_var rfl) (eo_some (ev_var (i := 1) (v := .int (k : Int)) rfl)) (eo_some (ev_op (ta := tVar 1) (tb := tC (.int 1)) (r := rI0 fun i j => .int (i + j)) (z := .int ((k : Int) + 1)) (ev_var rfl) ev_c rv_I0)) ha
          rw [hm] at this
          exact Gv.imp (ep_ofL this) fun v H' e ⟨p, h1, _, h3⟩ => ⟨p, ms, h1, h3⟩
        · subst hv
          exact fun H1 e1 Q q => ⟨p, ms, rfl, sq_of (e1 _ _ hp), q _ H' H1 (Step.refl e1) ⟨_, rfl, trivial⟩⟩
      · obtain ⟨s, rfl, _⟩ := hv
        refine ep_lst (vs := []) (P1 := fun vs H' => Ex H H' ∧ ∃ x y : Int, vs = [.int x, .int y, .int 0, nV k]) ?_ (fun vs H' ⟨_, x, y, hv⟩ => by rw [hv]; show 4 ≤ 100000; decide) fun vs H' p e3 ⟨e4, x, y, hv⟩ hp => ⟨p, x, y, rfl, fresh_back e4 hp, by rw [upd_same, hv]⟩
        refine epa_cons (P1 := IntP tt) ?_ fun v1 H3 e3 ⟨x, hx, _⟩ => epa_cons (P1 := IntP tt) ?_ fun v2 H4 e4 ⟨y, hy, _⟩ => epa_cons (P1 := Eqv (.int 0)) (ep_of ev_c) fun v3 H5 e5 h3 => epa_cons (P1 := Eqv (nV k)) (ep_of (ev_var rfl)) fun v4 H6 e6 h4 => epa_nil ⟨(((e2.trans e3).trans e4).trans e5).trans e6, x, y, by rw [hx, hy, show v3 = _ from h3, show v4 = _ from h4]⟩
        · refine Gv.imp (ep_modc (j := (10 ^ (60 : Int).toNat) ^ (8 : Int).toNat) (ep_int1 (ep_max2 (ep_opI0 (R1 := tt) (R2 := tt) (ep_int (ev_var rfl) trivial) (fun _ _ => ep_opI (R1 := (· = 10)) (R2 := (· = 18)) ep_c (fun _ _ => ep_c) (fun i j hi hj => by rw [hi, hj]; exact ⟨by decide, by decide +kernel⟩) fun _ _ _ _ => trivial) fun _ _ _ _ => trivial) fun _ _ => ep_cR trivial))
            (fun _ _ => ep_opI (R1 := (· = 10 ^ (60 : Int).toNat)) (R2 := (· = 8)) (ep_opI (R1 := (· = 10)) (R2 := (· = 60)) ep_c (fun _ _ => ep_c) (fun i j hi hj => by rw [hi, hj]; exact ⟨by decide, by decide +kernel⟩) fun i j hi hj => by rw [hi, hj]) (fun _ _ => ep_c) (fun i j hi hj => by rw [hi, hj]; exact ⟨by decide, by decide +kernel⟩) fun i j hi hj => by rw [hi, hj]) (Int.pow_pos (Int.pow_pos (by decide)))) fun v H' e ⟨i, h, _⟩ => ⟨i, h, trivial⟩
        · exact Gv.imp (ep_modc (j := 2147483629) (ep_int1 (ep_int (ev_var rfl) trivial)) (fun _ _ => ep_c) (by decide)) fun v H' e ⟨i, h, _⟩ => ⟨i, h, trivial⟩
    exact ev H1 e _ (fun _ _ _ _ z => z.elim) fun v H' H2 s ⟨p, x, y, h1, h2, h3⟩ => by
      subst h1
      exact q p H' H2 x y s h2 h3
/-! ### _law_purses -/
abbrev nPs : List Str := ["_law_script", "_law_few", "_law_at"]
theorem scPs : FnScope nPs ["_law_script", "_law_few"] (defScope (top 29)) := ⟨rfl, rfl, rfl, by decide +kernel, rfl, by decide +kernel, by decide +kernel⟩
def prePs (K : PySem.W.Frag) (q : Addr × List Int) (vs : List V) (H : Hp) : Prop := vs = [.ref q.1, .int 1] ∧ SqL K H q.1 (q.2.map V.int)
abbrev spPs (K : PySem.W.Frag) : Sp := fun vs H1 Q _ => ∃ (q : Addr × List Int) (H : Hp), Ex H H1 ∧ prePs K q vs H ∧ ∀ (l p : Addr) (H' H2 : Hp) (x y : Int), Step H H1 H' H2 → H p = none → H' l = some (.lst [.ref p]) → H' p = some (.lst [.int x, .int y, .int 0, .int 0]) → Q (.ref l) H2
theorem ok_purses (F : FnT K "_law_purses" 29 f fd) (KU : Kp P w K mg base CX0 1 "_law_purse" ["_law_script", "_law_at"] (spPu K)) (fr : Fr mg) : FnOk P w K mg base CX0 2 f fd ["_law_script", "_law_few"] (spPs K) := by
  refine F.ok scPs (fun vs H Q E h => ?_) (fun cdv A outer s H1 vs Q E hr h => ?_)
  · obtain ⟨q, H0, _, h, _⟩ := h
    rw [h.1]; rfl
  · obtain ⟨⟨a, ns⟩, H, e, ⟨hv, ha⟩, q⟩ := h
    have ha : SqL K H a (ns.map V.int) := ha
    have hv : vs = [.ref a, .int 1] := hv
    subst hv
    refine ⟨_, PSs.nox (pss_one (ps_ret (pe_lc (own := [("_law_at", 2)]) (g := gName 2) (tt := tYes) rfl scPs.nd (pi_range1 rfl fr.range_ (pa_cons (pe_callB (call_max2 rfl) rfl fr.max_ bt_max (pa_cons pe_int (pa_cons (pe_callB (call_min2 rfl) rfl fr.min_ bt_min (pa_cons (pv 1) (pa_cons (pe_callB call_len_seq rfl fr.len_ bt_len (pa_cons (pv 0) pa_nil)) pa_nil))) pa_nil))) pa_nil)) (blkOk_by (N := nPs) (sc := defScope (top 29)) (by decide +kernel)) (fun _ _ _ _ _ => pg_name (i := 2) scPs.nd rfl (Or.inl rfl)) (fun _ _ _ _ _ => pts_nil)
      (fun _ _ _ _ _ => pe_cl KU hr (pa_cons (pv 0) (pa_cons (pv 2) pa_nil)))))), ?_⟩
    have evn : EvA (tCons (tCB (fun xs H Q => ∃ i j, xs = [V.int i, V.int j] ∧ Q (V.int (if j > i then j else i)) H) (tCons (tC (.int 1)) (tCons (tCB (fun xs H Q => ∃ i j, xs = [V.int i, V.int j] ∧ Q (V.int (if j < i then j else i)) H) (tCons (tVar 1) (tCons (tCB (rLenS K) (tCons (tVar 0) tNil)) tNil))) tNil))) tNil) (L2.start nPs [.ref a, .int 1]) H [.int ((1 : Nat) : Int)] := by
      refine ea_cons ?_ ea_nil
      have hmin := fun (H1 : Hp) (e1 : Ex H H1) (Q : VK) (q : ∀ H2, Ex H1 H2 → ∀ z : Int, z ≤ 1 → Q (.int z) H2) => ev_lenL (K := K) (σ := L2.start nPs [.ref a, .int 1]) (te := tVar 0) (ev_var rfl) ha H1 e1 (fun v H2 => ∃ i j, [V.int 1, v] = [V.int i, V.int j] ∧ Q (V.int (if j < i then j else i)) H2) fun H2 e2 => ⟨1, _, rfl, q H2 e2 _ (by split <;> omega)⟩
      intro H1 e1 Q q
      refine ⟨.int 1, rfl, hmin H1 e1 (fun v H2 => ∃ i j, [V.int 1, v] = [V.int i, V.int j] ∧ Q (V.int (if j > i then j else i)) H2) fun H2 e2 z hz => ⟨1, z, rfl, ?_⟩⟩
      rw [if_neg (by omega)]
      exact q H2 e2
    have main := ep_lcR (σ := L2.start nPs [.ref a, .int 1]) (te := tCall (spPu K) [] E0 (tCons (tVar 0) (tCons (tVar 2) tNil))) (j := 2) (vs := [2]) (fun i y H' => ∃ (p : Addr) (x z : Int), y = .ref p ∧ H p = none ∧ H' p = some (.lst [.int x, .int z, .int 0, nV i])) (fun i v A B e ⟨p, x, z, h1, h2, h3⟩ => ⟨p, x, z, h1, h2, e _ _ h3⟩) evn (by decide) (by decide) (fun x => rfl) fun i H' e' hi => ep_callA (ea_cons (ev_var rfl) (ea_cons (ev_var rfl) ea_nil)) fun H2 e2 Q q => ⟨(a, ns, i), H', e2, ⟨rfl, ex_l e' ha⟩, fun p H'' H3 x y s hp h3 => q _ H'' H3 s ⟨p, x, y, rfl, fresh_back e' hp, h3⟩⟩
    refine sv_ret (Rt := fun v H' => ∃ (l p : Addr) (x y : Int), v = .ref l ∧ H p = none ∧ H' l = some (.lst [.ref p]) ∧ H' p = some (.lst [.int x, .int y, .int 0, .int 0])) (Nx := fun _ _ => False) (Gv.imp main fun v H' e' ⟨l, ys, h1, h2, h3, h4, h5⟩ => ?_) H1 e _ (fun _ _ _ _ z => z.elim) fun v H' H2 s ⟨l, p, x, y, h1, h2, h3, h4⟩ => by
        subst h1
        exact q l p H' H2 x y s h2 h3 h4
    obtain ⟨y, rfl⟩ : ∃ y, ys = [y] := List.length_eq_one_iff.mp h4
    obtain ⟨p, x, z, k1, k2, k3⟩ := h5 0 y rfl
    exact ⟨l, p, x, z, h1, k2, by rw [h3, k1], k3⟩
end
end G

/-! The plain law of the bent texts. -/
namespace G
open PySem PySem.Spec PyProof.Rows L2 Evl Tp RZ TL L2X StX
open Pap (rk fin isD Tx cut)
theorem rk_shift {k j : Nat} : ∀ {t : Tx} {b : Nat}, rk k b t = true → rk (k + j) (b + j) t = true
  | [], b, h => by
    have h : decide (b ≤ k) = true := h
    show decide (b + j ≤ k + j) = true
    have := of_decide_eq_true h
    exact decide_eq_true (by omega)
  | c :: r, b, h => by
    have h : (decide (b ≤ k) && (if isD c = true then rk k (b + 1) r else rk k 0 r)) = true := h
    obtain ⟨h1, h2⟩ := Bool.and_eq_true_iff.mp h
    have h1 := of_decide_eq_true h1
    show (decide (b + j ≤ k + j) && (if isD c = true then rk (k + j) (b + j + 1) r else rk (k + j) 0 r)) = true
    rw [decide_eq_true (by omega : b + j ≤ k + j), Bool.true_and]
    by_cases hc : isD c = true
    · rw [if_pos hc] at h2 ⊢
      have := rk_shift (j := j) h2
      rw [show b + j + 1 = b + 1 + j by omega]
      exact this
    · rw [if_neg hc] at h2 ⊢
      exact Pap.rk_mono (rk_shift (j := j) h2) (Nat.zero_le _)
theorem rk_wk {k k' : Nat} {t : Tx} {b : Nat} (h : rk k b t = true) (hk : k ≤ k') : rk k' b t = true := by
  have := Pap.rk_mono (rk_shift (j := k' - k) h) (Nat.le_add_right b (k' - k))
  rw [show k + (k' - k) = k' by omega] at this
  exact this
theorem rk_fin {k : Nat} : ∀ {t : Tx} {b : Nat}, rk k b t = true → fin b t ≤ k
  | t, b, h => by
    have : rk k b (t ++ []) = true := by rw [List.append_nil]; exact h
    exact Pap.rk_le (Pap.rk_app this)
/-- two runs with one sign between them -/
def sk (k : Nat) : Nat → Nat → Tx → Bool
  | a, b, [] => decide (a + b ≤ k)
  | a, b, c :: r => decide (a + b ≤ k) && (if isD c = true then sk k a (b + 1) r else sk k b 0 r)
theorem sk_rk {k : Nat} : ∀ {t : Tx} {a b : Nat}, sk k a b t = true → rk k (a + b) t = true
  | [], a, b, h => h
  | c :: r, a, b, h => by
    have h : (decide (a + b ≤ k) && (if isD c = true then sk k a (b + 1) r else sk k b 0 r)) = true := h
    obtain ⟨h1, h2⟩ := Bool.and_eq_true_iff.mp h
    show (decide (a + b ≤ k) && (if isD c = true then rk k (a + b + 1) r else rk k 0 r)) = true
    rw [h1, Bool.true_and]
    by_cases hc : isD c = true
    · rw [if_pos hc] at h2 ⊢
      have := sk_rk h2
      rw [← Nat.add_assoc] at this
      exact this
    · rw [if_neg hc] at h2 ⊢
      exact Pap.rk_mono (sk_rk h2) (Nat.zero_le _)
theorem sk_del {k : Nat} : ∀ {u : Tx} {a b c : Nat} {v : Tx}, sk k a b (u ++ c :: v) = true → rk k b (u ++ v) = true
  | [], a, b, c, v, h => by
    have h : (decide (a + b ≤ k) && (if isD c = true then sk k a (b + 1) v else sk k b 0 v)) = true := h
    obtain ⟨h1, h2⟩ := Bool.and_eq_true_iff.mp h
    by_cases hc : isD c = true
    · rw [if_pos hc] at h2
      exact Pap.rk_mono (sk_rk h2) (by omega)
    · rw [if_neg hc] at h2
      exact sk_rk h2
  | x :: u, a, b, c, v, h => by
    have h : (decide (a + b ≤ k) && (if isD x = true then sk k a (b + 1) (u ++ c :: v) else sk k b 0 (u ++ c :: v))) = true := h
    obtain ⟨h1, h2⟩ := Bool.and_eq_true_iff.mp h
    have h1 := of_decide_eq_true h1
    show (decide (b ≤ k) && (if isD x = true then rk k (b + 1) (u ++ v) else rk k 0 (u ++ v))) = true
    rw [decide_eq_true (by omega : b ≤ k), Bool.true_and]
    by_cases hc : isD x = true
    · rw [if_pos hc] at h2 ⊢
      exact sk_del h2
    · rw [if_neg hc] at h2 ⊢
      exact sk_del h2
/-- short runs, then a text that goes on well -/
theorem sk_app {k : Nat} {B : Tx} (hk : 2 ≤ k) (hB : ∀ a b, a ≤ 1 → b ≤ 1 → sk k a b B = true) : ∀ {A : Tx} {a b : Nat}, a ≤ 1 → rk 1 b A = true → sk k a b (A ++ B) = true
  | [], a, b, ha, h => hB a b ha (Pap.rk_le h)
  | c :: r, a, b, ha, h => by
    have hb := Pap.rk_le h
    have h : (decide (b ≤ 1) && (if isD c = true then rk 1 (b + 1) r else rk 1 0 r)) = true := h
    obtain ⟨_, h2⟩ := Bool.and_eq_true_iff.mp h
    show (decide (a + b ≤ k) && (if isD c = true then sk k a (b + 1) (r ++ B) else sk k b 0 (r ++ B))) = true
    rw [decide_eq_true (by omega : a + b ≤ k), Bool.true_and]
    by_cases hc : isD c = true
    · rw [if_pos hc] at h2 ⊢
      exact sk_app hk hB ha h2
    · rw [if_neg hc] at h2 ⊢
      exact sk_app hk hB hb h2
/-! ### pieces -/
def menu : List Tx := [[], [32], [48], [49], [45], [57], [111, 108, 100], [110, 101, 101, 100, 115], [10], [97], [43], [48, 48], [32, 48], [95]]
structure OkP (p : Tx) : Prop where
  run : ∀ k b, b ≤ k → rk (k + 2) b p = true ∧ fin b p ≤ b + 2
  cnt : p.count 100 ≤ 1
  len : p.length ≤ 5
  asc : ∀ c ∈ p, c < 128
theorem menu_ok : ∀ p ∈ menu, OkP p := by
  intro p hp
  simp only [menu, List.mem_cons, List.not_mem_nil, or_false] at hp
  rcases hp with rfl | rfl | rfl | rfl | rfl | rfl | rfl | rfl | rfl | rfl | rfl | rfl | rfl | rfl <;>
    exact ⟨fun k b hb => ⟨by simp [rk, isD]; try omega, by simp [fin, isD]; try omega⟩, by decide, by decide, by decide⟩
theorem ins_rk {k : Nat} {u v p : Tx} (h : rk k 0 (u ++ v) = true) (hp : OkP p) : rk (k + 2) 0 (u ++ (p ++ v)) = true := by
  have h1 := Pap.rk_fst h
  have h2 := Pap.rk_app h
  have h3 := rk_fin h1
  obtain ⟨q1, q2⟩ := hp.run k (fin 0 u) h3
  exact Pap.app_rk (rk_wk h1 (by omega)) (Pap.app_rk q1 (Pap.rk_mono (rk_shift (j := 2) h2) q2))
/-! ### lines -/
theorem rk_line {k : Nat} {t p : Tx} (h : rk k 0 t = true) (hp : p ∈ cut 10 t) : rk k 0 p = true := by
  obtain ⟨l, r, e⟩ := Pap.part_of (S := [10]) hp
  rw [Pap.join_cut] at e
  rw [e] at h
  exact Pap.rk_mono (Pap.rk_fst (Pap.rk_app h)) (Nat.zero_le _)
theorem rk_join {k : Nat} : ∀ {ps : List Tx}, (∀ p ∈ ps, rk k 0 p = true) → rk k 0 (joinL [10] ps) = true
  | [], _ => by show decide (0 ≤ k) = true; exact decide_eq_true (Nat.zero_le _)
  | [p], h => h p (by simp)
  | p :: q :: r, h => by
    rw [Pap.joinL_cons (by simp)]
    have h1 := h p (by simp)
    have ih := rk_join (ps := q :: r) fun x hx => h x (List.mem_cons_of_mem _ hx)
    refine Pap.app_rk h1 ?_
    show (decide (fin 0 p ≤ k) && rk k 0 (joinL [10] (q :: r))) = true
    rw [ih, decide_eq_true (rk_fin h1)]
    rfl
theorem asc_join {m : Nat} (hm : 10 < m) : ∀ {ps : List Tx}, (∀ p ∈ ps, ∀ c ∈ p, c < m) → ∀ c ∈ joinL [10] ps, c < m
  | [], _ => fun _ h => by cases h
  | [p], h => h p (by simp)
  | p :: q :: r, h => by
    rw [Pap.joinL_cons (by simp)]
    have ih := asc_join hm (ps := q :: r) fun x hx => h x (List.mem_cons_of_mem _ hx)
    intro c hc
    rcases List.mem_append.mp hc with hc | hc
    · exact h p (by simp) c hc
    · rcases List.mem_append.mp hc with hc | hc
      · rw [List.mem_singleton.mp hc]; exact hm
      · exact ih c hc
theorem mem_line {t p : Tx} (hp : p ∈ cut 10 t) : ∀ c ∈ p, c ∈ t := by
  obtain ⟨l, r, e⟩ := Pap.part_of (S := [10]) hp
  rw [Pap.join_cut] at e
  intro c hc
  rw [e]
  simp [hc]
/-! ### not both words -/
theorem no_big {t : Tx} (h : t.count 100 ≤ 1) (h1 : t.take 4 = Pap.cOld ++ [32]) (h2 : ∃ l ∈ (cut 10 t).tail, l.take 6 = Pap.cNeeds ++ [32]) : False := by
  obtain ⟨l, hl, hl6⟩ := h2
  obtain ⟨hd, tl', hc⟩ : ∃ hd tl', cut 10 t = hd :: tl' := by
    cases h : cut 10 t with
    | nil => exact absurd h (Pap.cut_ne 10 _)
    | cons a b => exact ⟨a, b, rfl⟩
  rw [hc, List.tail_cons] at hl
  have hne : tl' ≠ [] := fun z => by rw [z] at hl; cases hl
  have et : t = hd ++ ([10] ++ joinL [10] tl') := by
    have := Pap.join_cut 10 t
    rw [hc, Pap.joinL_cons hne] at this
    exact this.symm
  obtain ⟨a, b, e2⟩ := Pap.part_of (S := [10]) hl
  have hcl : 1 ≤ l.count 100 := by
    have : (100 : Nat) ∈ l := List.mem_of_mem_take (i := 6) (by rw [hl6]; decide)
    exact List.count_pos_iff.mpr this
  have h4 : ∀ i, i < 4 → t[i]? = (Pap.cOld ++ [32])[i]? := fun i hi => by rw [← h1, List.getElem?_take_of_lt hi]
  have hlen : 3 ≤ hd.length := by
    refine Nat.le_of_not_lt fun z => ?_
    have h5 := h4 hd.length (by omega)
    rw [et, List.getElem?_append_right (Nat.le_refl _), Nat.sub_self] at h5
    have h5 : some 10 = (Pap.cOld ++ [32])[hd.length]? := h5
    have h6 : ∀ i, i < 3 → some 10 ≠ (Pap.cOld ++ [32])[i]? := by decide
    exact h6 _ z h5
  have hch : 1 ≤ hd.count 100 := by
    have h5 := h4 2 (by decide)
    rw [et, List.getElem?_append_left (by omega)] at h5
    exact List.count_pos_iff.mpr (List.mem_of_getElem? (i := 2) (h5.trans rfl))
  rw [et, List.count_append, List.count_append, e2, List.count_append, List.count_append] at h
  omega
/-! ### base texts and bent texts -/
structure Bs (t : Tx) : Prop where
  run : ∃ k, sk k 0 0 t = true ∧ (k ≤ 4 ∨ (k ≤ 28 ∧ 100 ∉ t))
  len : t.length ≤ 900
  asc : ∀ c ∈ t, c < 128
theorem run_of {k : Nat} {t : Tx} (h : rk k 0 t = true) : Run k t := fun l p r e hp => Pap.rk_run (b := 0) (l := l) (r := r) (by rw [← e]; exact h) hp
theorem txr_of {k : Nat} {t : Tx} (h : rk (k + 2) 0 t = true) (hk : k ≤ 4 ∨ (k ≤ 28 ∧ t.count 100 ≤ 1)) (hl : t.length ≤ 2000) (ha : ∀ c ∈ t, c < 128) : TxR t := by
  have h30 : rk 30 0 t = true := rk_wk h (by omega)
  refine ⟨⟨hl, run_of h30, fun h1 h2 => ?_⟩, h30, ha⟩
  rcases hk with hk | hk
  · exact run_of (rk_wk h (by omega))
  · exact (no_big hk.2 h1 h2).elim
theorem Bs.txr {t : Tx} (h : Bs t) : TxR t := by
  obtain ⟨k, h1, h2⟩ := h.run
  exact txr_of (k := k) (rk_wk (sk_rk h1) (by omega)) (h2.imp id fun z => ⟨z.1, by rw [List.count_eq_zero_of_not_mem z.2]; omega⟩) (by have := h.len; omega) h.asc
theorem Bs.ins {u v p : Tx} (h : Bs (u ++ v)) (hp : OkP p) : TxR (u ++ (p ++ v)) := by
  obtain ⟨k, h1, h2⟩ := h.run
  have hl := h.len
  have hpl := hp.len
  have hpc := hp.cnt
  rw [List.length_append] at hl
  refine txr_of (k := k) (ins_rk (sk_rk h1) hp) (h2.imp id fun z => ⟨z.1, ?_⟩) (by simp only [List.length_append]; omega) fun c hc => ?_
  · have := List.count_eq_zero_of_not_mem z.2
    rw [List.count_append] at this
    rw [List.count_append, List.count_append]
    omega
  · rcases List.mem_append.mp hc with hc | hc
    · exact h.asc c (by simp [hc])
    · rcases List.mem_append.mp hc with hc | hc
      · exact hp.asc c hc
      · exact h.asc c (by simp [hc])
theorem Bs.rep {u v p : Tx} {c : Nat} (h : Bs (u ++ c :: v)) (hp : OkP p) : TxR (u ++ (p ++ v)) := by
  obtain ⟨k, h1, h2⟩ := h.run
  have hl := h.len
  have hpl := hp.len
  have hpc := hp.cnt
  rw [List.length_append, List.length_cons] at hl
  refine txr_of (k := k) (ins_rk (sk_del h1) hp) (h2.imp id fun z => ⟨z.1, ?_⟩) (by simp only [List.length_append]; omega) fun c hc => ?_
  · have := List.count_eq_zero_of_not_mem z.2
    rw [List.count_append] at this
    have h3 : v.count 100 ≤ (c :: v).count 100 := by rw [List.count_cons]; omega
    rw [List.count_append, List.count_append]
    omega
  · rcases List.mem_append.mp hc with hc | hc
    · exact h.asc c (by simp [hc])
    · rcases List.mem_append.mp hc with hc | hc
      · exact hp.asc c hc
      · exact h.asc c (by simp [hc])
theorem join_len2 : ∀ ps : List Tx, (joinL [10] ps).length ≤ (ps.map List.length).sum + ps.length
  | [] => Nat.le_refl _
  | [p] => by show p.length ≤ [p.length].sum + 1; simp
  | p :: q :: r => by
    have := join_len2 (q :: r)
    rw [Pap.joinL_cons (by simp), List.length_append, List.length_append]
    simp only [List.map_cons, List.sum_cons, List.length_cons] at this ⊢
    simp only [List.length_nil] at this ⊢
    omega
/-- lines of the text, each at most twice -/
theorem Bs.lines {t : Tx} (h : Bs t) {ps : List Tx} (hm : ∀ p ∈ ps, p ∈ cut 10 t) (hl : (ps.map List.length).sum + ps.length ≤ 2000) : TxR (joinL [10] ps) := by
  obtain ⟨k, h1, h2⟩ := h.run
  have hk := sk_rk h1
  refine txr_of (k := k) (rk_wk (rk_join fun p hp => rk_line hk (hm p hp)) (by omega)) (h2.imp id fun z => ⟨z.1, ?_⟩) (Nat.le_trans (join_len2 ps) hl) (asc_join (by decide) fun p hp c hc => h.asc c (mem_line (hm p hp) c hc))
  have : 100 ∉ joinL [10] ps := Pap.joinL_no (by decide) fun p hp hc => z.2 (mem_line (hm p hp) 100 hc)
  rw [List.count_eq_zero_of_not_mem this]
  omega
end G

/-! _law_bent. -/
namespace G
open PySem PySem.Spec PyProof.Rows L2 Evl Tp RZ TL L2X StX
open Pap (Tx cut)
section
variable {P : Program} {w : World} {K : PySem.W.Frag} {mg : Str → Option Value} {base : Heap} {f C : Addr} {fd : FuncData} {H : Hp} {σ : L2.St} {p : Addr} {n : Nat} {ta tb te : TE}
variable {tu tz : TS} {Nx : L2.St → Nat → Hp → Prop} {Rt : V → Nat → Hp → Prop}
theorem eqa_ofP {tr : TA} {P1 : List V → Hp → Prop} (h : EvPA tr σ H P1) : EvQA p tr σ n H (fun vs n' H' => n' = n ∧ P1 vs H') := fun H1 e h0 hp Q q => h H1 e Q fun vs H' H2 s p1 => q vs n H' H2 (StepQ.of s) (hp.ex s.tot) ⟨rfl, p1⟩
theorem sq_par {i j : Nat} {tr : TA} {Pq : List V → Nat → Hp → Prop} (h : EvQA p tr σ n H Pq) (k : ∀ vs n' H', Ex H H' → Pq vs n' H' → ∃ v w, vs = [v, w] ∧ SvQ p tz ((σ.set i (some v)).set j (some w)) n' H' Nx Rt) : SvQ p (tSeq (tPar i j tr) tz) σ n H Nx Rt := fun H1 e h0 hp D dn dr =>
  h H1 e h0 hp _ fun vs n' H' H2 s hp2 p1 => by
    obtain ⟨v, w, hv, k⟩ := k vs n' H' s.loc p1
    exact ⟨v, w, hv, k H2 s.inn (s.out h0 hp) hp2 D (fun σ2 n2 H2' H3 s2 hp3 => dn σ2 n2 H2' H3 (s.trans s2 hp h0 ⟨_, hp2⟩) hp3) fun v n2 H2' H3 s2 hp3 => dr v n2 H2' H3 (s.trans s2 hp h0 ⟨_, hp2⟩) hp3⟩
theorem sq_par3 {i j l : Nat} {tr : TA} {Pq : List V → Nat → Hp → Prop} (h : EvQA p tr σ n H Pq) (k : ∀ vs n' H', Ex H H' → Pq vs n' H' → ∃ u v w, vs = [u, v, w] ∧ SvQ p tz (((σ.set i (some u)).set j (some v)).set l (some w)) n' H' Nx Rt) : SvQ p (tSeq (tPar3 i j l tr) tz) σ n H Nx Rt := fun H1 e h0 hp D dn dr =>
  h H1 e h0 hp _ fun vs n' H' H2 s hp2 p1 => by
    obtain ⟨u, v, w, hv, k⟩ := k vs n' H' s.loc p1
    exact ⟨u, v, w, hv, k H2 s.inn (s.out h0 hp) hp2 D (fun σ2 n2 H2' H3 s2 hp3 => dn σ2 n2 H2' H3 (s.trans s2 hp h0 ⟨_, hp2⟩) hp3) fun v n2 H2' H3 s2 hp3 => dr v n2 H2' H3 (s.trans s2 hp h0 ⟨_, hp2⟩) hp3⟩
theorem sq_next (h : Nx σ n H) : SvQ p tNext σ n H Nx Rt := fun H1 e h0 hp D dn dr => dn σ n H H1 (StepQ.refl e) hp h
theorem sq_set1 {i : Nat} {P1 : V → Nat → Hp → Prop} (h : EvQ p te σ n H P1) (k : ∀ v n' H', Ex H H' → P1 v n' H' → Nx (σ.set i (some v)) n' H') : SvQ p (tAsg te (gName i)) σ n H Nx Rt := fun H1 e h0 hp D dn dr =>
  h H1 e h0 hp _ fun v n' H' H2 s hp2 p1 => dn _ n' H' H2 s hp2 (k v n' H' s.loc p1)
/-- for x in range(N) -/
theorem sq_forR {tr : TA} {N j : Nat} (h : EvA tr σ H [nV N]) (hN : N ≤ 40000) (Pv : Nat → L2.St → Nat → Hp → Prop) (h0 : Pv 0 σ n H)
    (hs : ∀ i σ' n' H', Ex H H' → i < N → Pv i σ' n' H' → SvQ p tu (σ'.set j (some (nV i))) n' H' (fun σ2 n2 H2 => Pv (i + 1) σ2 n2 H2) Rt) (hd : ∀ σ' n' H', Ex H H' → Pv N σ' n' H' → SvQ p tz σ' n' H' Nx Rt) :
    SvQ p (tSeq (tFor (iRng1 tr) (gName j) tu) tz) σ n H Nx Rt := fun H1 e hp0 hp D dn dr =>
  h H1 e _ fun H2 e2 => by
    refine ⟨(N : Int), rfl, by omega, by omega, fun i m σ' Ht => m = N - i ∧ i ≤ N ∧ ∃ n' H', StepQ p H H1 H' Ht ∧ Pu n' p Ht ∧ Pv i σ' n' H', ⟨N, by simp, Nat.zero_le _, n, H, StepQ.of (Step.ex e e2), hp.ex e2, h0⟩, ?_⟩
    have e1 : ((N : Int)).toNat = N := by omega
    rw [e1]
    rintro i m σ' Ht ⟨rfl, hi, n', H', s, hp', hpv⟩
    by_cases hlt : i < N
    · refine .inr ⟨hlt, fun σ2 H3 => ∃ n2 H2', StepQ p H H1 H2' H3 ∧ Pu n2 p H3 ∧ Pv (i + 1) σ2 n2 H2', fun σ2 H3 ⟨n2, H2', q1, q2, q3⟩ => ⟨N - (i + 1), by omega, rfl, hlt, n2, H2', q1, q2, q3⟩, fun x H3 y => ?_⟩
      obtain ⟨e4, rfl⟩ := y
      subst e4
      have e0 : (0 : Int) + (i : Int) = (i : Int) := Int.zero_add _
      rw [e0]
      show tu _ (σ'.set j (some (nV i))) H3
      exact hs i σ' n' H' s.loc hlt hpv H3 s.inn (s.out hp0 hp) hp' _ (fun σ2 n2 H2' H4 s2 hp4 q => ⟨n2, H2', s.trans s2 hp hp0 ⟨_, hp'⟩, hp4, q⟩) fun v n2 H2' H4 s2 hp4 q => dr v n2 H2' H4 (s.trans s2 hp hp0 ⟨_, hp'⟩) hp4 q
    · have ei : i = N := by omega
      subst ei
      exact .inl ⟨Nat.le_refl _, hd σ' n' H' s.loc hpv Ht s.inn (s.out hp0 hp) hp' D (fun σ2 n2 H2' H3 s2 hp3 => dn σ2 n2 H2' H3 (s.trans s2 hp hp0 ⟨_, hp'⟩) hp3) fun v n2 H2' H3 s2 hp3 => dr v n2 H2' H3 (s.trans s2 hp hp0 ⟨_, hp'⟩) hp3⟩
/-! ### lists -/
def IsL (xs : List V) : V → Hp → Prop := fun v H => ∃ q, v = .ref q ∧ H q = some (.lst xs)
theorem IsL.mono {xs : List V} {v : V} {H H' : Hp} (e : Ex H H') (h : IsL xs v H) : IsL xs v H' := by
  obtain ⟨q, h1, h2⟩ := h
  exact ⟨q, h1, e _ _ h2⟩
theorem ep_isl {xs : List V} (h : EvL te σ H xs) : EvP te σ H (IsL xs) := Gv.imp (ep_ofL h) fun v H' e ⟨q, h1, _, h2⟩ => ⟨q, h1, h2⟩
theorem ep_catV {xs ys : List V} (ha : EvP ta σ H (IsL xs)) (hb : ∀ H', Ex H H' → EvP tb σ H' (IsL ys)) (hl : xs.length + ys.length ≤ 100000) : EvP (tOp rCat ta tb) σ H (IsL (xs ++ ys)) :=
  ep_op (P2 := fun x y H' => IsL xs x H' ∧ IsL ys y H') ha (fun x H' e hx => Gv.imp (hb H' e) fun v H'' e2 hv => ⟨hx.mono e2, hv⟩) fun x y H' e ⟨⟨p, hx, h2⟩, q, hy, k2⟩ => by
    subst hx hy
    exact fun H1 e1 Q qq => ⟨p, q, xs, ys, rfl, rfl, e1 _ _ h2, e1 _ _ k2, by rw [sizeLine_eq]; omega, fun r hr => qq _ _ _ (Step.new e1 hr) ⟨r, rfl, upd_same⟩⟩
theorem cutV_take {xs : List V} {k : Nat} (h : k ≤ xs.length) : cutV xs none (some ((k : Nat) : Int)) = xs.take k := by
  unfold cutV
  rw [HT.sIx_none, HT.sIx_nat, Nat.sub_zero, List.drop_zero, Nat.min_eq_left h]
theorem cutV_drop {xs : List V} {k : Nat} (h : k ≤ xs.length) : cutV xs (some ((k : Nat) : Int)) none = xs.drop k := by
  unfold cutV
  rw [HT.sIx_none, HT.sIx_nat, Nat.min_eq_left h, List.take_of_length_le (by rw [List.length_drop]; omega)]
abbrev rCatS2 : R2 := fun x y H Q => ∃ i j : Str, x = .str i ∧ y = .str j ∧ i.length + j.length ≤ sizeLine ∧ Q (.str (i ++ j)) H
theorem ev_addS {x y : Str} (ha : Ev ta σ H (.str x)) (hb : Ev tb σ H (.str y)) (hl : (tl x).length + (tl y).length ≤ 100000) : Ev (tOp rCatS2 ta tb) σ H (.str (x ++ y)) :=
  ev_op ha hb fun H1 e Q q => ⟨_, _, rfl, rfl, by rw [len_tl, len_tl, sizeLine_eq]; omega, q H1 (Ex.refl _)⟩
theorem ev_joinV {sep : Str} {zs : List Str} (hb : EvP tb σ H (IsL (zs.map V.str))) (hl : (joinL (tl sep) (zs.map tl)).length ≤ 1000000) (hs : (tl sep).length ≤ 10) : ∃ z : Str, tl z = joinL (tl sep) (zs.map tl) ∧ Ev (tJoin K (tC (.str sep)) tb) σ H (.str z) :=
  ⟨Txt.join sep zs, by rw [join_eq, tl_join], EvP.ev (ep_join (P1 := IsL (zs.map V.str)) ev_c hb fun v H' e ⟨q, h1, h2⟩ => ⟨q, zs, h1, h2, join_ok hl hs, rfl⟩)⟩
def menuS : List Str := ["", " ", "0", "1", "-", "9", "old", "needs", "\n", "a", "+", "00", " 0", "_"]
theorem menuS_tl : menuS.map tl = menu := by decide +kernel
theorem menuS_ok {z : Str} (h : z ∈ menuS) : OkP (tl z) := menu_ok _ (by rw [← menuS_tl]; exact List.mem_map_of_mem h)
theorem ok_p {p : Tx} (h : p ∈ menu) : OkP p := menu_ok _ h
def Wt (ps : List Tx) : Nat := (ps.map List.length).sum + ps.length
theorem wt_app (a b : List Tx) : Wt (a ++ b) = Wt a + Wt b := by unfold Wt; rw [List.map_append, List.sum_append, List.length_append]; omega
theorem wt_cons (a : Tx) (b : List Tx) : Wt (a :: b) = a.length + 1 + Wt b := by unfold Wt; rw [List.map_cons, List.sum_cons, List.length_cons]; omega
theorem wt_cut (t : Tx) : Wt (cut 10 t) = t.length + 1 := by
  have := joinL_len (S := [10]) (ps := cut 10 t) (Pap.cut_ne 10 t)
  rw [Pap.join_cut, List.length_singleton, Nat.mul_one] at this
  exact this
theorem line_ok {t : Tx} (h : Bs t) {b : Nat} (hb : b < (cut 10 t).length) : TxR (joinL [10] ((cut 10 t).take b ++ (cut 10 t).drop (b + 1))) ∧ TxR (joinL [10] (((cut 10 t).take b ++ [(cut 10 t)[b]]) ++ (cut 10 t).drop b)) := by
  have hw := wt_cut t
  have hl := h.len
  have e1 : Wt ((cut 10 t).take b) + Wt ((cut 10 t).drop b) = Wt (cut 10 t) := by rw [← wt_app, List.take_append_drop]
  have e2 : Wt ((cut 10 t).drop b) = ((cut 10 t)[b]).length + 1 + Wt ((cut 10 t).drop (b + 1)) := by rw [List.drop_eq_getElem_cons hb, wt_cons]
  have e3 : Wt [(cut 10 t)[b]] = ((cut 10 t)[b]).length + 1 := by rw [wt_cons]; rfl
  refine ⟨h.lines (fun q hq => ?_) (show Wt _ ≤ 2000 by rw [wt_app]; omega), h.lines (fun q hq => ?_) (show Wt _ ≤ 2000 by rw [wt_app, wt_app, e3]; omega)⟩
  · rcases List.mem_append.mp hq with hq | hq
    · exact List.mem_of_mem_take hq
    · exact List.mem_of_mem_drop hq
  · rcases List.mem_append.mp hq with hq | hq
    · rcases List.mem_append.mp hq with hq | hq
      · exact List.mem_of_mem_take hq
      · rw [List.mem_singleton.mp hq]; exact List.getElem_mem hb
    · exact List.mem_of_mem_drop hq
theorem spot_ok {t q : Tx} (h : Bs t) (hq : OkP q) {a : Nat} (ha : a ≤ t.length) : TxR ((t.take a ++ q) ++ t.drop a) ∧ TxR (t.take a ++ t.drop (a + 1)) ∧ TxR ((t.take a ++ q) ++ t.drop (a + 1)) := by
  have e0 : t = t.take a ++ t.drop a := (List.take_append_drop a t).symm
  have h1 : TxR ((t.take a ++ q) ++ t.drop a) := by
    rw [List.append_assoc]
    exact Bs.ins (by rw [← e0]; exact h) hq
  rcases Nat.lt_or_ge a t.length with hlt | hge
  · have e1 : t = t.take a ++ t[a] :: t.drop (a + 1) := by rw [← List.drop_eq_getElem_cons hlt]; exact e0
    have hb : Bs (t.take a ++ t[a] :: t.drop (a + 1)) := by rw [← e1]; exact h
    exact ⟨h1, by have := hb.rep (ok_p (p := []) (by decide)); exact this, by rw [List.append_assoc]; exact hb.rep hq⟩
  · have ea : a = t.length := by omega
    have d1 : t.drop (a + 1) = [] := List.drop_of_length_le (by omega)
    have d0 : t.drop a = [] := List.drop_of_length_le (by omega)
    rw [d0] at h1
    rw [d1]
    exact ⟨by rw [d0]; exact h1, by rw [List.append_nil, List.take_of_length_le (by omega)]; exact h.txr, h1⟩
abbrev nBe : List Str := ["_law_purse_here", "_law_text", "_law_lines", "_law_menu", "_law_found", "_law_turn", "_law_at", "_law_spot", "_law_piece"]
theorem scBe : FnScope nBe ["_law_purse_here", "_law_text"] (defScope (top 50)) := ⟨rfl, rfl, rfl, by decide +kernel, rfl, by decide +kernel, by decide +kernel⟩
def preBe (z : Str) (p : Addr) (vs : List V) (_ : Hp) : Prop := vs = [.ref p, .str z] ∧ Bs (tl z)
def TxL (zs : List Str) : Prop := zs.length ≤ 100 ∧ ∀ z ∈ zs, TxR (tl z)
abbrev spBe : Sp := spQ preBe (fun _ => 24) (fun _ v H => ∃ zs, IsL (zs.map V.str) v H ∧ TxL zs)
theorem ok_bent (F : FnT K "_law_bent" 50 f fd) (KD : Kp P w K mg base CX0 2 "_law_draw" ["_law_purse_here", "_law_many"] spD) (KO : Kp P w K mg base CX0 3 "_law_one_of" ["_law_purse_here", "_law_some"] spOo) (fr : Fr mg) :
    FnOk P w K mg base CX0 4 f fd ["_law_purse_here", "_law_text"] spBe := by
  refine okQ F scBe (fun z p vs H h => by rw [h.1]; rfl) (fun cdv A outer s H1 vs E z H p n hr hn h => ?_)
  obtain ⟨rfl, hb⟩ := h
  have hn : n + 24 ≤ 900000000 := hn
  have h2 := hr.mono (show 2 ≤ 3 by decide)
  refine ⟨_, PSs.nox (pss_cons (ps_par (i := 2) (j := 3) rfl scBe.nd rfl rfl (by decide) rfl rfl (pa_cons (pe_split (pv 1) pe_str) (pa_cons (pe_lst (pa_cons pe_str (pa_cons pe_str (pa_cons pe_str (pa_cons pe_str (pa_cons pe_str (pa_cons pe_str (pa_cons pe_str (pa_cons pe_str (pa_cons pe_str (pa_cons pe_str (pa_cons pe_str (pa_cons pe_str (pa_cons pe_str (pa_cons pe_str pa_nil))))))))))))))) pa_nil)) (by rfl))
    (pss_cons (ps_set (i := 4) scBe.nd rfl (.inl rfl) (pe_lst (pa_cons (pe_op op_add_str (pv 1) pe_str) (pa_cons (pe_op op_add_str pe_str (pv 1)) (pa_cons (pe_op op_add_str (pv 1) pe_str) (pa_cons (pe_op op_add_str pe_str (pv 1)) pa_nil))))))
    (pss_cons (ps_for PassesOwn.never rfl (pi_range1 rfl fr.range_ (pa_cons pe_int pa_nil)) (pg_name (i := 5) scBe.nd rfl (.inl rfl))
      (pss_cons (ps_par3 (i := 6) (j := 7) (l := 8) rfl scBe.nd rfl rfl rfl (by decide) (by decide) (by decide) rfl rfl rfl (pa_cons (pe_cl KD h2 (pa_cons (pv 0) (pa_cons (pe_op op_add (pe_callB call_len_str rfl fr.len_ bt_len (pa_cons (pv 1) pa_nil)) pe_int) pa_nil))) (pa_cons (pe_cl KD h2 (pa_cons (pv 0) (pa_cons (pe_callB call_len_seq rfl fr.len_ bt_len (pa_cons (pv 2) pa_nil)) pa_nil))) (pa_cons (pe_cl KO hr (pa_cons (pv 0) (pa_cons (pv 3) pa_nil))) pa_nil))) (by rfl))
      (pss_cons (ps_set (i := 4) scBe.nd rfl (.inl rfl) (pe_op op_cat (pv 4) (pe_lst (pa_cons (pe_op op_add_str (pe_op op_add_str (pe_slice sl_str (pv 1) po_none (po_some (pv 6))) (pv 8)) (pe_slice sl_str (pv 1) (po_some (pv 6)) po_none))
          (pa_cons (pe_op op_add_str (pe_slice sl_str (pv 1) po_none (po_some (pv 6))) (pe_slice sl_str (pv 1) (po_some (pe_op op_add (pv 6) pe_int)) po_none))
          (pa_cons (pe_op op_add_str (pe_op op_add_str (pe_slice sl_str (pv 1) po_none (po_some (pv 6))) (pv 8)) (pe_slice sl_str (pv 1) (po_some (pe_op op_add (pv 6) pe_int)) po_none)) pa_nil))))))
      (pss_one (ps_set (i := 4) scBe.nd rfl (.inl rfl) (pe_op op_cat (pv 4) (pe_lst (pa_cons (pe_join pe_str (pe_op op_cat (pe_slice (r := rSlL K) sl_list (pv 2) po_none (po_some (pv 7))) (pe_slice (r := rSlL K) sl_list (pv 2) (po_some (pe_op op_add (pv 7) pe_int)) po_none)))
          (pa_cons (pe_join pe_str (pe_op op_cat (pe_op op_cat (pe_slice (r := rSlL K) sl_list (pv 2) po_none (po_some (pv 7))) (pe_lst (pa_cons (pe_ix (r := rIxL K) ix_list (pv 2) (pv 7) (fun _ _ => rfl)) pa_nil))) (pe_slice (r := rSlL K) sl_list (pv 2) (po_some (pv 7)) po_none))) pa_nil)))))))))
    (pss_one (ps_ret (pv 4)))))), ?_⟩
  have hzl := hb.len
  have hls : (Txt.split z ("\n" : Str)).map tl = cut 10 (tl z) := split_cut tNl (by decide +kernel)
  have st0 : L2.start nBe [.ref p, .str z] = [some (.ref p), some (.str z), none, none, none, none, none, none, none] := rfl
  rw [st0]
  generalize hlz : Txt.split z ("\n" : Str) = ls at hls
  have hlen : ls.length = (cut 10 (tl z)).length := by rw [← hls, List.length_map]
  have hlen2 : ls.length ≤ 901 := by
    have h1 := wt_cut (tl z)
    unfold Wt at h1
    omega
  have hlen1 : 1 ≤ ls.length := by
    rw [hlen]
    exact List.length_pos_iff.mpr (Pap.cut_ne 10 _)
  refine sq_par (Pq := fun vs n' H' => n' = n ∧ ∃ a b, vs = [.ref a, .ref b] ∧ H' a = some (.lst (ls.map V.str)) ∧ H' b = some (.lst (menuS.map V.str))) (eqa_ofP (epa_cons (P1 := IsL (ls.map V.str)) (by rw [← hlz]; exact ep_isl (el_split (ev_var rfl) ev_c rfl (by omega))) fun v H' e ⟨a, h1, h3⟩ => epa_cons (P1 := IsL (menuS.map V.str)) (ep_isl (el_lst (ea_cons ev_c (ea_cons ev_c (ea_cons ev_c (ea_cons ev_c (ea_cons ev_c (ea_cons ev_c (ea_cons ev_c (ea_cons ev_c (ea_cons ev_c (ea_cons ev_c (ea_cons ev_c (ea_cons ev_c (ea_cons ev_c (ea_cons ev_c ea_nil)))))))))))))) (by show 14 ≤ 100000; decide))) fun w H'' e2 ⟨b, k1, k3⟩ => epa_nil ⟨a, b, by rw [h1, k1], e2 _ _ h3, k3⟩)) fun vs n0 Ha ea ⟨hn0, la, ma, hv, hla, hma⟩ => ⟨_, _, hv, ?_⟩
  subst hn0
  have hins : ∀ {q : Tx}, q ∈ menu → TxR (tl z ++ q) ∧ TxR (q ++ tl z) := fun {q} hq => by
    have h1 := Bs.ins (u := tl z) (v := []) (p := q) (by rw [List.append_nil]; exact hb) (ok_p hq)
    rw [List.append_nil] at h1
    exact ⟨h1, Bs.ins (u := []) (v := tl z) (p := q) hb (ok_p hq)⟩
  refine sq_set (P1 := fun v n' H' => n' = n0 ∧ IsL ([z ++ ("\n" : Str), ("\n" : Str) ++ z, z ++ (" " : Str), (" " : Str) ++ z].map V.str) v H') (eq_of (ep_isl (el_lst (ea_cons (ev_addS (ev_var rfl) ev_c (by rw [tNl, List.length_singleton]; omega)) (ea_cons (ev_addS ev_c (ev_var rfl) (by rw [tNl, List.length_singleton]; omega)) (ea_cons (ev_addS (ev_var rfl) ev_c (by rw [tSp, List.length_singleton]; omega)) (ea_cons (ev_addS ev_c (ev_var rfl) (by rw [tSp, List.length_singleton]; omega)) ea_nil)))) (by show 4 ≤ 100000; decide)))) fun fv n1 Hb eb ⟨hn1, hfv⟩ => ?_
  subst hn1
  refine sq_forR (N := 8) (ea_cons ev_c ea_nil) (by decide) (fun i σ' n' H' => n' ≤ n1 + 3 * i ∧ ∃ (fv : V) (zs : List Str) (y5 y6 y7 y8 : Option V), σ' = [some (.ref p), some (.str z), some (.ref la), some (.ref ma), some fv, y5, y6, y7, y8] ∧ IsL (zs.map V.str) fv H' ∧ zs.length ≤ 4 + 5 * i ∧ ∀ x ∈ zs, TxR (tl x)) ⟨by omega, fv, _, none, none, none, none, rfl, hfv, by show 4 ≤ 4; decide, fun x hx => ?_⟩
    (fun i σ' n' H' e' hi ⟨hn', fv, zs, y5, y6, y7, y8, hσ, hfl, hzs, htx⟩ => ?_) (fun σ' n' H' e' ⟨hn', fv, zs, y5, y6, y7, y8, hσ, hfl, hzs, htx⟩ => ?_)
  · simp only [List.mem_cons, List.not_mem_nil, or_false] at hx
    rcases hx with rfl | rfl | rfl | rfl
    · rw [tl_append, tNl]; exact (hins (by decide)).1
    · rw [tl_append, tNl]; exact (hins (by decide)).2
    · rw [tl_append, tSp]; exact (hins (by decide)).1
    · rw [tl_append, tSp]; exact (hins (by decide)).2
  · subst hσ
    have eaH : Ex Ha H' := eb.trans e'
    have evl : ∀ {H2 : Hp} {σ2 : L2.St}, σ2[1]? = some (some (.str z)) → Ev (tCB (fun xs H Q => ∃ z : Str, xs = [V.str z] ∧ z.length ≤ sizeLine ∧ Q (V.int z.length) H) (tCons (tVar 1) tNil)) σ2 H2 (.int ((tl z).length : Int)) := fun {H2 σ2} h => fun H3 e3 Q q => ⟨.str z, h, z, rfl, by rw [len_tl, sizeLine_eq]; omega, by rw [len_tl]; exact q H3 (Ex.refl _)⟩
    refine sq_par3 (Pq := fun vs m _ => m ≤ n' + 3 ∧ ∃ (a b : Nat) (pc : Str), vs = [nV a, nV b, .str pc] ∧ a ≤ (tl z).length ∧ b < ls.length ∧ pc ∈ menuS)
      (eqa_cons (eq_draw (m := ((tl z).length : Int) + 1) rfl (ev_op (evl rfl) ev_c rv_I0) (by omega) (by omega) (by omega)) fun v1 m1 H1' e1 ⟨q1, a, q2, q3⟩ => eqa_cons (eq_draw (m := (ls.length : Int)) rfl (by
          have := ev_lenL (K := K) (σ := [some (.ref p), some (.str z), some (.ref la), some (.ref ma), some fv, some (nV i), y6, y7, y8]) (te := tVar 2) (ev_var rfl) (sq_of (K := K) (e1 _ _ (eaH _ _ hla)))
          rw [List.length_map] at this
          exact this) (by omega) (by omega) (by omega)) fun v2 m2 H2' e2 ⟨r1, b, r2, r3⟩ => eqa_cons (P1 := fun v m _ => m ≤ m2 + 1 ∧ ∃ pc : Str, v = .str pc ∧ pc ∈ menuS) (eq_call (pre := preOo) (cost := fun _ => 1) (post := fun xs v _ => v ∈ xs) (eqa_of (ea_cons (ev_var rfl) (ea_cons (ev_var rfl) ea_nil))) fun vs m3 H3' e3 ⟨hv, hm3, hH⟩ => ⟨menuS.map V.str, ⟨ma, hv, e3 _ _ (e2 _ _ (e1 _ _ (eaH _ _ hma))), by show 1 ≤ 14; decide, by show 14 ≤ 1000; decide⟩, by omega, fun v m4 H4' e4 hm4 hq => ⟨by omega, by
            obtain ⟨pc, hpc, rfl⟩ := List.mem_map.mp hq
            exact ⟨pc, rfl, hpc⟩⟩⟩) fun v3 m3 H3' e3 ⟨u1, pc, u2, u3⟩ => eqa_nil ⟨by omega, a, b, pc, by rw [q2, r2, u2], by omega, by omega, u3⟩) fun vs m Hc ec ⟨hm, a, b, pc, hv, ha, hb1, hpc⟩ => ⟨_, _, _, hv, ?_⟩
    have hop := menuS_ok hpc
    have hpl := hop.len
    obtain ⟨g1, g2, g3⟩ := spot_ok hb hop ha
    have k1 : tl (cutS z none (some ((a : Nat) : Int))) = (tl z).take a := cut_take z a
    have k2 : tl (cutS z (some ((a : Nat) : Int)) none) = (tl z).drop a := cut_drop z a
    have k3 : tl (cutS z (some ((a : Int) + 1)) none) = (tl z).drop (a + 1) := cut_drop z (a + 1)
    have l1 : ((tl z).take a).length ≤ 900 := by rw [List.length_take]; omega
    have l2 : ((tl z).drop a).length ≤ 900 := by rw [List.length_drop]; omega
    have l3 : ((tl z).drop (a + 1)).length ≤ 900 := by rw [List.length_drop]; omega
    refine sq_set (P1 := fun v n5 H5 => n5 = m ∧ IsL ((zs ++ [(cutS z none (some ((a : Nat) : Int)) ++ pc) ++ cutS z (some ((a : Nat) : Int)) none, cutS z none (some ((a : Nat) : Int)) ++ cutS z (some ((a : Int) + 1)) none, (cutS z none (some ((a : Nat) : Int)) ++ pc) ++ cutS z (some ((a : Int) + 1)) none]).map V.str) v H5)
      (eq_of (by
        rw [List.map_append]
        refine ep_catV (ep_var rfl (hfl.mono ec)) (fun H5 e5 => ep_isl (el_lst (ea_cons (ev_addS (ev_addS (ev_slS (ev_var rfl) eo_none (eo_some (ev_var rfl)) (by omega)) (ev_var rfl) (by rw [k1]; omega)) (ev_slS (ev_var rfl) (eo_some (ev_var rfl)) eo_none (by omega)) (by rw [tl_append, k1, k2, List.length_append]; omega))
          (ea_cons (ev_addS (ev_slS (ev_var rfl) eo_none (eo_some (ev_var rfl)) (by omega)) (ev_slS (ev_var rfl) (eo_some (ev_op (ev_var rfl) ev_c rv_I0)) eo_none (by omega)) (by rw [k1, k3]; omega))
          (ea_cons (ev_addS (ev_addS (ev_slS (ev_var rfl) eo_none (eo_some (ev_var rfl)) (by omega)) (ev_var rfl) (by rw [k1]; omega)) (ev_slS (ev_var rfl) (eo_some (ev_op (ev_var rfl) ev_c rv_I0)) eo_none (by omega)) (by rw [tl_append, k1, k3, List.length_append]; omega)) ea_nil))) (by show 3 ≤ 100000; decide))) (by rw [List.length_map, List.length_map]; show zs.length + 3 ≤ 100000; omega))) fun fv2 n5 Hd ed ⟨hn5, hfv2⟩ => ?_
    subst hn5
    have hlaD : Hd la = some (.lst (ls.map V.str)) := ed _ _ (ec _ _ (eaH _ _ hla))
    have hbc : b < (cut 10 (tl z)).length := by rw [← hlen]; exact hb1
    obtain ⟨j1, j2⟩ := line_ok hb hbc
    have et1 : (ls.take b ++ ls.drop (b + 1)).map tl = (cut 10 (tl z)).take b ++ (cut 10 (tl z)).drop (b + 1) := by rw [List.map_append, List.map_take, List.map_drop, hls]
    have et2 : ((ls.take b ++ [ls[b]]) ++ ls.drop b).map tl = ((cut 10 (tl z)).take b ++ [(cut 10 (tl z))[b]]) ++ (cut 10 (tl z)).drop b := by
      rw [List.map_append, List.map_append, List.map_take, List.map_drop, List.map_cons, List.map_nil, hls]
      congr 3
      have : (ls.map tl)[b]? = (cut 10 (tl z))[b]? := by rw [hls]
      rw [List.getElem?_map, List.getElem?_eq_getElem hb1, List.getElem?_eq_getElem hbc] at this
      exact Option.some.inj this
    have cutA : ∀ {H5 : Hp}, Ex Hd H5 → EvP (tSl (rSlL K) (tVar 2) tNoPart (tPart (tVar 7))) [some (.ref p), some (.str z), some (.ref la), some (.ref ma), some fv2, some (nV i), some (nV a), some (nV b), some (.str pc)] H5 (IsL ((ls.take b).map V.str)) := fun {H5} e5 => by
      have := ep_isl (el_sl (K := K) (H := H5) (σ := [some (.ref p), some (.str z), some (.ref la), some (.ref ma), some fv2, some (nV i), some (nV a), some (nV b), some (.str pc)]) (te := tVar 2) (ev_var rfl) eo_none (eo_some (ev_var (i := 7) (v := .int (b : Int)) rfl)) (sq_of (e5 _ _ hlaD)))
      rw [cutV_take (by rw [List.length_map]; omega), ← List.map_take] at this
      exact this
    have cutB : ∀ {H5 : Hp}, Ex Hd H5 → EvP (tSl (rSlL K) (tVar 2) (tPart (tVar 7)) tNoPart) [some (.ref p), some (.str z), some (.ref la), some (.ref ma), some fv2, some (nV i), some (nV a), some (nV b), some (.str pc)] H5 (IsL ((ls.drop b).map V.str)) := fun {H5} e5 => by
      have := ep_isl (el_sl (K := K) (H := H5) (σ := [some (.ref p), some (.str z), some (.ref la), some (.ref ma), some fv2, some (nV i), some (nV a), some (nV b), some (.str pc)]) (te := tVar 2) (ev_var rfl) (eo_some (ev_var (i := 7) (v := .int (b : Int)) rfl)) eo_none (sq_of (e5 _ _ hlaD)))
      rw [cutV_drop (by rw [List.length_map]; omega), ← List.map_drop] at this
      exact this
    have cutC : ∀ {H5 : Hp}, Ex Hd H5 → EvP (tSl (rSlL K) (tVar 2) (tPart (tOp (rI0 fun i j => .int (i + j)) (tVar 7) (tC (.int 1)))) tNoPart) [some (.ref p), some (.str z), some (.ref la), some (.ref ma), some fv2, some (nV i), some (nV a), some (nV b), some (.str pc)] H5 (IsL ((ls.drop (b + 1)).map V.str)) := fun {H5} e5 => by
      have := ep_isl (el_sl (K := K) (H := H5) (σ := [some (.ref p), some (.str z), some (.ref la), some (.ref ma), some fv2, some (nV i), some (nV a), some (nV b), some (.str pc)]) (te := tVar 2) (ev_var rfl) (eo_some (ev_op (ta := tVar 7) (tb := tC (.int 1)) (z := .int (((b + 1 : Nat) : Nat) : Int)) (ev_var rfl) ev_c (rv_I0 (g := fun i j => .int (i + j))))) eo_none (sq_of (e5 _ _ hlaD)))
      rw [cutV_drop (by rw [List.length_map]; omega), ← List.map_drop] at this
      exact this
    have hjl : ∀ {t : Tx}, TxR t → t.length ≤ 1000000 := fun h => by have := h.g.len; omega
    have ll1 : (ls.take b).length ≤ 901 := by rw [List.length_take]; omega
    have ll2 : (ls.drop b).length ≤ 901 := by rw [List.length_drop]; omega
    have ll3 : (ls.drop (b + 1)).length ≤ 901 := by rw [List.length_drop]; omega
    have evJ1 : ∀ {H5 : Hp}, Ex Hd H5 → EvP (tOp rCat (tSl (rSlL K) (tVar 2) tNoPart (tPart (tVar 7))) (tSl (rSlL K) (tVar 2) (tPart (tOp (rI0 fun i j => .int (i + j)) (tVar 7) (tC (.int 1)))) tNoPart)) [some (.ref p), some (.str z), some (.ref la), some (.ref ma), some fv2, some (nV i), some (nV a), some (nV b), some (.str pc)] H5 (IsL ((ls.take b ++ ls.drop (b + 1)).map V.str)) := fun {H5} e5 => by
      rw [List.map_append]
      exact ep_catV (cutA e5) (fun H6 e6 => cutC (e5.trans e6)) (by rw [List.length_map, List.length_map]; omega)
    have evJ2 : ∀ {H5 : Hp}, Ex Hd H5 → EvP (tOp rCat (tOp rCat (tSl (rSlL K) (tVar 2) tNoPart (tPart (tVar 7))) (tLst (tCons (tOp (rIxL K) (tVar 2) (tVar 7)) tNil))) (tSl (rSlL K) (tVar 2) (tPart (tVar 7)) tNoPart)) [some (.ref p), some (.str z), some (.ref la), some (.ref ma), some fv2, some (nV i), some (nV a), some (nV b), some (.str pc)] H5 (IsL (((ls.take b ++ [ls[b]]) ++ ls.drop b).map V.str)) := fun {H5} e5 => by
      rw [List.map_append, List.map_append]
      refine ep_catV (ep_catV (cutA e5) (fun H6 e6 => ep_isl (el_lst (ea_cons (ev_op (ev_var rfl) (ev_var rfl) (rv_ixL (i := (b : Int)) (sq_of (K := K) ((e5.trans e6) _ _ hlaD)) (atI_nat (j := b) (by rw [List.getElem?_map, List.getElem?_eq_getElem hb1]; rfl)))) ea_nil) (by show 1 ≤ 100000; decide))) (by rw [List.length_map]; show _ + 1 ≤ 100000; omega)) (fun H6 e6 => cutB (e5.trans e6)) (by rw [List.length_append, List.length_map, List.length_map, List.length_map]; show _ + 1 + _ ≤ 100000; omega)
    have txJ1 : TxR (joinL (tl ("\n" : Str)) ((ls.take b ++ ls.drop (b + 1)).map tl)) := by rw [tNl, et1]; exact j1
    have txJ2 : TxR (joinL (tl ("\n" : Str)) (((ls.take b ++ [ls[b]]) ++ ls.drop b).map tl)) := by rw [tNl, et2]; exact j2
    obtain ⟨s1, hs1, ev1⟩ := ev_joinV (evJ1 (Ex.refl Hd)) (hjl txJ1) (by rw [tNl]; decide)
    obtain ⟨s2, hs2, ev2⟩ := ev_joinV (evJ2 (Ex.refl Hd)) (hjl txJ2) (by rw [tNl]; decide)
    refine sq_set1 (P1 := fun v n6 H6 => n6 = n5 ∧ IsL (((zs ++ [(cutS z none (some ((a : Nat) : Int)) ++ pc) ++ cutS z (some ((a : Nat) : Int)) none, cutS z none (some ((a : Nat) : Int)) ++ cutS z (some ((a : Int) + 1)) none, (cutS z none (some ((a : Nat) : Int)) ++ pc) ++ cutS z (some ((a : Int) + 1)) none]) ++ [s1, s2]).map V.str) v H6)
      (eq_of (by
        rw [List.map_append]
        exact ep_catV (ep_var rfl hfv2) (fun H5 e5 => ep_isl (el_lst (ea_cons (ev1.mono e5) (ea_cons (ev2.mono e5) ea_nil)) (by show 2 ≤ 100000; decide))) (by rw [List.length_map, List.length_append]; show zs.length + 3 + 2 ≤ 100000; omega))) fun fv3 n6 He ee ⟨hn6, hfv3⟩ => ?_
    subst hn6
    refine ⟨by omega, fv3, _, _, _, _, _, rfl, hfv3, by rw [List.length_append, List.length_append]; show zs.length + 3 + 2 ≤ _; omega, fun x hx => ?_⟩
    rcases List.mem_append.mp hx with hx | hx
    · rcases List.mem_append.mp hx with hx | hx
      · exact htx x hx
      · simp only [List.mem_cons, List.not_mem_nil, or_false] at hx
        rcases hx with rfl | rfl | rfl
        · rw [tl_append, tl_append, k1, k2]; exact g1
        · rw [tl_append, k1, k3]; exact g2
        · rw [tl_append, tl_append, k1, k3]; exact g3
    · simp only [List.mem_cons, List.not_mem_nil, or_false] at hx
      rcases hx with rfl | rfl
      · rw [hs1]; exact txJ1
      · rw [hs2]; exact txJ2
  · subst hσ
    exact sq_ret ((eq_of (ep_var (P := fun v H => IsL (zs.map V.str) v H) rfl hfl)).imp fun v n7 H7 _ ⟨h1, h2⟩ => ⟨by rw [h1]; omega, zs, h2, by omega, htx⟩)
end
end G

/-! Plain facts of the law's recipes and lots. -/
namespace G
open PySem PySem.Spec PyProof.Rows L2 Evl Tp RZ TL L2X StX
open Pap (rk fin isD Tx cut)
theorem rising_len : ∀ (ns : List Nat) (a m : Nat), Pap.rising ns = true → (∀ x ∈ ns, a ≤ x ∧ x < m) → ns.length ≤ m - a
  | [], _, _, _, _ => Nat.zero_le _
  | x :: r, a, m, h, k => by
    have h1 := k x (by simp)
    have h2 := rising_len r (x + 1) m (Pap.rising_tail h) fun y hy => ⟨Pap.rising_lt h y hy, (k y (List.mem_cons_of_mem _ hy)).2⟩
    rw [List.length_cons]
    omega
theorem rk_sep {k s : Nat} (hs : isD s = false) : ∀ {ps : List Tx}, (∀ p ∈ ps, rk k 0 p = true) → rk k 0 (joinL [s] ps) = true
  | [], _ => by show decide (0 ≤ k) = true; exact decide_eq_true (Nat.zero_le _)
  | [p], h => h p (by simp)
  | p :: q :: r, h => by
    rw [Pap.joinL_cons (by simp)]
    have h1 := h p (by simp)
    have ih := rk_sep hs (ps := q :: r) fun x hx => h x (List.mem_cons_of_mem _ hx)
    refine Pap.app_rk h1 ?_
    show (decide (fin 0 p ≤ k) && (if isD s = true then rk k (fin 0 p + 1) (joinL [s] (q :: r)) else rk k 0 (joinL [s] (q :: r)))) = true
    rw [hs, if_neg (by decide), ih, decide_eq_true (rk_fin h1)]
    rfl
theorem all_sep {s : Nat} {R : Nat → Prop} (hs : R s) : ∀ {ps : List Tx}, (∀ p ∈ ps, ∀ c ∈ p, R c) → ∀ c ∈ joinL [s] ps, R c
  | [], _ => fun _ h => by cases h
  | [p], h => h p (by simp)
  | p :: q :: r, h => by
    rw [Pap.joinL_cons (by simp)]
    have ih := all_sep hs (ps := q :: r) fun x hx => h x (List.mem_cons_of_mem _ hx)
    intro c hc
    rcases List.mem_append.mp hc with hc | hc
    · exact h p (by simp) c hc
    · rcases List.mem_append.mp hc with hc | hc
      · rw [List.mem_singleton.mp hc]; exact hs
      · exact ih c hc
theorem len_sep {s : Nat} {k : Nat} : ∀ {ps : List Tx}, (∀ p ∈ ps, p.length ≤ k) → (joinL [s] ps).length ≤ ps.length * (k + 1)
  | [], _ => Nat.zero_le _
  | [p], h => by have := h p (by simp); show p.length ≤ 1 * (k + 1); omega
  | p :: q :: r, h => by
    rw [Pap.joinL_cons (by simp)]
    have h1 := h p (by simp)
    have ih := len_sep (s := s) (ps := q :: r) fun x hx => h x (List.mem_cons_of_mem _ hx)
    rw [List.length_append, List.length_append, List.length_singleton, List.length_cons (as := q :: r), Nat.succ_mul]
    omega
theorem num_one {n : Nat} (h : n < 10) : rk 1 0 (numL n) = true ∧ (numL n).length = 1 ∧ (∀ c ∈ numL n, 48 ≤ c ∧ c ≤ 57) := by
  rw [numL_lt h]
  refine ⟨?_, rfl, fun c hc => by rw [List.mem_singleton.mp hc]; omega⟩
  show (decide (0 ≤ 1) && (if isD (48 + n) = true then rk 1 1 [] else rk 1 0 [])) = true
  split <;> rfl
theorem bs_one {t : Tx} (h : rk 1 0 t = true) (hl : t.length ≤ 900) (ha : ∀ c ∈ t, c < 128) : Bs t := by
  have := sk_app (k := 2) (B := []) (by decide) (fun a b ha hb => decide_eq_true (by omega)) (A := t) (a := 0) (by decide) h
  rw [List.append_nil] at this
  exact ⟨⟨2, this, .inl (by decide)⟩, hl, ha⟩
/-- a small recipe: at most 8 and 8 -/
structure SmR (m : Nat) (rows : List (List Nat)) : Prop where
  m8 : m ≤ 8
  l1 : 1 ≤ rows.length
  l8 : rows.length ≤ 8
  row : ∀ r ∈ rows, Pap.rising r = true ∧ ∀ x ∈ r, x < m
theorem SmR.len {m : Nat} {rows : List (List Nat)} (h : SmR m rows) : ∀ r ∈ rows, r.length ≤ 8 := fun r hr => by
  have := rising_len r 0 m (h.row r hr).1 fun x hx => ⟨Nat.zero_le _, (h.row r hr).2 x hx⟩
  have := h.m8
  omega
theorem SmR.ok {m : Nat} {rows : List (List Nat)} (h : SmR m rows) : Pap.okRec m rows = true := by
  unfold Pap.okRec
  have h1 := h.l1
  cases rows with
  | nil => cases h1
  | cons a r =>
    refine Bool.and_eq_true_iff.mpr ⟨rfl, List.all_eq_true.mpr fun x hx => Bool.and_eq_true_iff.mpr ⟨(h.row x hx).1, List.all_eq_true.mpr fun y hy => decide_eq_true ((h.row x hx).2 y hy)⟩⟩
theorem nums_one {m : Nat} {r : List Nat} (hr : ∀ x ∈ r, x < 10) : rk 1 0 (joinL [32] (r.map numL)) = true ∧ (∀ c ∈ joinL [32] (r.map numL), 32 ≤ c ∧ c ≤ 57) ∧ (joinL [32] (r.map numL)).length ≤ r.length * 2 := by
  have hp : ∀ p ∈ r.map numL, rk 1 0 p = true ∧ p.length = 1 ∧ (∀ c ∈ p, 48 ≤ c ∧ c ≤ 57) := fun p hp => by
    obtain ⟨n, hn, rfl⟩ := List.mem_map.mp hp
    exact num_one (hr n hn)
  refine ⟨rk_sep (by decide) fun p h => (hp p h).1, all_sep (R := fun c => 32 ≤ c ∧ c ≤ 57) (by decide) fun p h c hc => by have := (hp p h).2.2 c hc; omega, ?_⟩
  have := len_sep (s := 32) (k := 1) (ps := r.map numL) fun p h => by rw [(hp p h).2.1]; exact Nat.le_refl _
  rw [List.length_map] at this
  exact this
theorem need_one {r : List Nat} (hr : ∀ x ∈ r, x < 10) : rk 1 0 (Pap.needLine r) = true ∧ (∀ c ∈ Pap.needLine r, c < 128) ∧ (Pap.needLine r).length ≤ (r.length + 1) * 6 := by
  have hp : ∀ p ∈ Pap.cNeeds :: r.map numL, rk 1 0 p = true ∧ p.length ≤ 5 ∧ (∀ c ∈ p, c < 128) := fun p hp => by
    rcases List.mem_cons.mp hp with rfl | hp
    · exact ⟨by decide, by decide, by decide⟩
    · obtain ⟨n, hn, rfl⟩ := List.mem_map.mp hp
      obtain ⟨h1, h2, h3⟩ := num_one (hr n hn)
      exact ⟨h1, by omega, fun c hc => by have := h3 c hc; omega⟩
  refine ⟨rk_sep (by decide) fun p h => (hp p h).1, all_sep (R := (· < 128)) (by decide) fun p h => (hp p h).2.2, ?_⟩
  have := len_sep (s := 32) (k := 5) (ps := Pap.cNeeds :: r.map numL) fun p h => (hp p h).2.1
  rw [List.length_cons, List.length_map] at this
  exact this
theorem SmR.bs {m : Nat} {rows : List (List Nat)} (h : SmR m rows) : Bs (Pap.recText m rows) := by
  have hm := h.m8
  have hp : ∀ p ∈ Pap.recLines m rows, rk 1 0 p = true ∧ p.length ≤ 54 ∧ (∀ c ∈ p, c < 128) := fun p hp => by
    rcases List.mem_cons.mp hp with rfl | hp
    · obtain ⟨h1, h2, h3⟩ := num_one (n := m) (by omega)
      refine ⟨?_, by rw [List.length_append, List.length_cons, h2]; decide, fun c hc => ?_⟩
      · refine Pap.app_rk (by decide) ?_
        show (decide (_ ≤ 1) && (if isD 32 = true then _ else rk 1 0 (numL m))) = true
        rw [if_neg (by decide), h1]
        rfl
      · rcases List.mem_append.mp hc with hc | hc
        · exact (by decide : ∀ c ∈ Pap.cOld, c < 128) c hc
        · rcases List.mem_cons.mp hc with rfl | hc
          · decide
          · have := h3 c hc; omega
    · obtain ⟨r, hr, rfl⟩ := List.mem_map.mp hp
      obtain ⟨h1, h2, h3⟩ := need_one (r := r) fun x hx => by have := (h.row r hr).2 x hx; omega
      have := h.len r hr
      have h4 : (r.length + 1) * 6 ≤ (8 + 1) * 6 := Nat.mul_le_mul_right 6 (by omega)
      exact ⟨h1, by omega, h2⟩
  refine bs_one (rk_sep (by decide) fun p h => (hp p h).1) ?_ (all_sep (R := (· < 128)) (by decide) fun p h => (hp p h).2.2)
  have := len_sep (s := 10) (k := 54) (ps := Pap.recLines m rows) fun p h => (hp p h).2.1
  have e : (Pap.recLines m rows).length = rows.length + 1 := by unfold Pap.recLines; rw [List.length_cons, List.length_map]
  have h8 := h.l8
  show (joinL [10] (Pap.recLines m rows)).length ≤ 900
  rw [e] at this
  have h9 : (rows.length + 1) * (54 + 1) ≤ 9 * 55 := Nat.mul_le_mul_right 55 (by omega)
  omega
theorem SmR.okN {m : Nat} {rows : List (List Nat)} (h : SmR m rows) : okN m rows := by
  have hm := h.m8
  have p10 : 10 ≤ 2 ^ 1000 := by decide +kernel
  exact ⟨by omega, fun r hr => ⟨by have := h.len r hr; omega, fun n hn => by have := (h.row r hr).2 n hn; omega⟩, by have := h.l8; omega, by have := h.bs.len; omega⟩
theorem siz_rowsD {rows : List (List Nat)} {a b : Nat} (h1 : rows.length ≤ a) (h2 : ∀ r ∈ rows, r.length ≤ b) : siz (rowsD (natR rows)) ≤ a * (b + 1) + 1 := by
  have h := siz_rows rows b h2
  have e : siz (rowsD (natR rows)) = sizL (rows.map fun r => D.seq false (r.map fun n => .flat (nV n))) + 1 := by
    show sizL ((natR rows).map intsD) + 1 = _
    rw [List.map_map]
    congr 2
    exact List.map_congr_left fun r _ => intsD_nat r
  rw [e]
  have := Nat.mul_le_mul_right (b + 1) h1
  omega
/-! ### the lots -/
def bigs : List (List Nat) := [[9, 10, 10 ^ 24], [12, 345]]
structure SmL (rs : List (List Nat)) : Prop where
  ex : ∃ as k, rs = as ++ bigs.take k ∧ as.length ≤ 4 ∧ ∀ r ∈ as, Pap.rising r = true ∧ ∀ x ∈ r, x < 8
theorem SmL.row {rs : List (List Nat)} (h : SmL rs) : ∀ r ∈ rs, Pap.rising r = true ∧ r.length ≤ 8 ∧ ∀ x ∈ r, x < 2 ^ 1000 := by
  obtain ⟨as, k, rfl, h1, h2⟩ := h.ex
  have p8 : 8 ≤ 2 ^ 1000 := by decide +kernel
  have hb : ∀ r ∈ bigs, Pap.rising r = true ∧ r.length ≤ 8 ∧ ∀ x ∈ r, x < 2 ^ 1000 := by decide +kernel
  intro r hr
  rcases List.mem_append.mp hr with hr | hr
  · obtain ⟨q1, q2⟩ := h2 r hr
    have := rising_len r 0 8 q1 fun x hx => ⟨Nat.zero_le _, q2 x hx⟩
    exact ⟨q1, by omega, fun x hx => by have := q2 x hx; omega⟩
  · exact hb r (List.mem_of_mem_take hr)
theorem SmL.len {rs : List (List Nat)} (h : SmL rs) : rs.length ≤ 6 := by
  obtain ⟨as, k, rfl, h1, h2⟩ := h.ex
  rw [List.length_append, List.length_take]
  have : bigs.length = 2 := rfl
  omega
theorem line_one {r : List Nat} (hr : Pap.rising r = true ∧ ∀ x ∈ r, x < 8) : rk 1 0 (Pap.lineOf r) = true ∧ (∀ c ∈ Pap.lineOf r, 10 ≤ c ∧ c ≤ 57) ∧ (Pap.lineOf r).length ≤ 16 := by
  unfold Pap.lineOf
  split
  · exact ⟨by decide, by decide, by decide⟩
  · obtain ⟨h1, h2, h3⟩ := nums_one (m := 0) (r := r) fun x hx => by have := hr.2 x hx; omega
    have := rising_len r 0 8 hr.1 fun x hx => ⟨Nat.zero_le _, hr.2 x hx⟩
    exact ⟨h1, fun c hc => by have := h2 c hc; omega, by omega⟩
theorem joinL_app {s : Nat} : ∀ (as bs : List Tx), as ≠ [] → bs ≠ [] → joinL [s] (as ++ bs) = joinL [s] as ++ (s :: joinL [s] bs)
  | [a], b :: bs, _, _ => by
    show joinL [s] (a :: (b :: bs)) = a ++ (s :: joinL [s] (b :: bs))
    rw [Pap.joinL_cons (by simp)]
    rfl
  | a :: a2 :: as, bs, _, hb => by
    show joinL [s] (a :: ((a2 :: as) ++ bs)) = _
    have ih := joinL_app (s := s) (a2 :: as) bs (by simp) hb
    have e1 : joinL [s] (a :: ((a2 :: as) ++ bs)) = a ++ ([s] ++ joinL [s] ((a2 :: as) ++ bs)) := Pap.joinL_cons (by simp)
    have e2 : joinL [s] (a :: a2 :: as) = a ++ ([s] ++ joinL [s] (a2 :: as)) := Pap.joinL_cons (by simp)
    rw [e1, ih, e2, List.append_assoc, List.append_assoc]
theorem SmL.bs {rs : List (List Nat)} (h : SmL rs) : Bs (Pap.lotsText rs) := by
  obtain ⟨as, k, rfl, h1, h2⟩ := h.ex
  have hA : ∀ p ∈ as.map Pap.lineOf, rk 1 0 p = true ∧ (∀ c ∈ p, 10 ≤ c ∧ c ≤ 57) ∧ p.length ≤ 16 := fun p hp => by
    obtain ⟨r, hr, rfl⟩ := List.mem_map.mp hp
    exact line_one (h2 r hr)
  have hr : rk 1 0 (joinL [10] (as.map Pap.lineOf)) = true := rk_sep (by decide) fun p hp => (hA p hp).1
  have hc : ∀ c ∈ joinL [10] (as.map Pap.lineOf), 10 ≤ c ∧ c ≤ 57 := all_sep (R := fun c => 10 ≤ c ∧ c ≤ 57) (by decide) fun p hp => (hA p hp).2.1
  have hl : (joinL [10] (as.map Pap.lineOf)).length ≤ 68 := by
    have := len_sep (s := 10) (k := 16) (ps := as.map Pap.lineOf) fun p hp => (hA p hp).2.2
    rw [List.length_map] at this
    omega
  obtain ⟨B, hB, hb⟩ : ∃ B, bigs.take k = B ∧ (B = [] ∨ B = [[9, 10, 10 ^ 24]] ∨ B = [[9, 10, 10 ^ 24], [12, 345]]) := ⟨_, rfl, by
    match k with
    | 0 => exact .inl rfl
    | 1 => exact .inr (.inl rfl)
    | k + 2 => exact .inr (.inr (by show _ :: _ :: List.take k [] = _; rw [List.take_nil]))⟩
  rw [hB]
  unfold Pap.lotsText
  rw [List.map_append]
  have conc : ∀ B, (B = [[9, 10, 10 ^ 24]] ∨ B = [[9, 10, 10 ^ 24], [12, 345]]) → sk 28 0 0 (joinL [10] (B.map Pap.lineOf)) = true ∧ (∀ a, a < 2 → ∀ b, b < 2 → sk 28 a b (10 :: joinL [10] (B.map Pap.lineOf)) = true) ∧ (joinL [10] (B.map Pap.lineOf)).length ≤ 60 ∧ (∀ c ∈ joinL [10] (B.map Pap.lineOf), 10 ≤ c ∧ c ≤ 57) ∧ B.map Pap.lineOf ≠ [] := fun B hB => by
    rcases hB with rfl | rfl
    · decide +kernel
    · decide +kernel
  rcases hb with rfl | hb
  · rw [List.map_nil, List.append_nil]
    exact bs_one hr (by omega) fun c h => by have := hc c h; omega
  · obtain ⟨c1, c2, c3, c4, c5⟩ := conc B hb
    by_cases ha : as = []
    · subst ha
      rw [List.map_nil, List.nil_append]
      exact ⟨⟨28, c1, .inr ⟨by decide, fun z => by have := c4 100 z; omega⟩⟩, by omega, fun c h => by have := c4 c h; omega⟩
    · rw [joinL_app _ _ (by simpa using ha) c5]
      refine ⟨⟨28, sk_app (by decide) (fun a b ha hb => c2 a (by omega) b (by omega)) (by decide) hr, .inr ⟨by decide, fun z => ?_⟩⟩, by rw [List.length_append, List.length_cons]; omega, fun c h => ?_⟩
      · rcases List.mem_append.mp z with z | z
        · have := hc 100 z; omega
        · rcases List.mem_cons.mp z with z | z
          · cases z
          · have := c4 100 z; omega
      · rcases List.mem_append.mp h with z | z
        · have := hc c z; omega
        · rcases List.mem_cons.mp z with z | z
          · omega
          · have := c4 c z; omega
theorem SmL.okL {rs : List (List Nat)} (h : SmL rs) : okL rs := ⟨fun r hr => ⟨by have := (h.row r hr).2.1; omega, (h.row r hr).2.2⟩, by have := h.len; omega, by have := h.bs.len; omega⟩
theorem SmL.rise {rs : List (List Nat)} (h : SmL rs) : rs.all Pap.rising = true := List.all_eq_true.mpr fun r hr => (h.row r hr).1
end G

/-! The law. -/
namespace G
open PySem PySem.Spec PyProof.Rows L2 Evl Tp RZ TL L2X StX
open Pap (Tx cut)
section
variable {P : Program} {w : World} {K : PySem.W.Frag} {mg : Str → Option Value} {base : Heap} {f C CL CT CR fE : Addr} {fd fdE : FuncData} {H : Hp} {σ : L2.St} {p : Addr} {n : Nat} {ta tb te : TE}
variable {tu tz : TS} {Nx : L2.St → Nat → Hp → Prop} {Rt : V → Nat → Hp → Prop}
theorem sq_if1 {tt : TT} (h : EvT tt σ H false) (hn : ∀ H', Ex H H' → Nx σ n H') : SvQ p (tIfS tt tu tNext) σ n H Nx Rt := fun H1 e h0 hp D dn dr =>
  h H1 e _ fun H2 e2 => dn σ n H H2 (StepQ.of (Step.ex e e2)) (hp.ex e2) (hn H (Ex.refl H))
theorem sq_ifQ {tt : TT} {R : Bool → Nat → Hp → Prop} (h : EvQT p tt σ n H (fun b n' H' => b = false ∧ R b n' H')) (hn : ∀ n' H', Ex H H' → R false n' H' → Nx σ n' H') : SvQ p (tIfS tt tu tNext) σ n H Nx Rt := fun H1 e h0 hp D dn dr =>
  h H1 e h0 hp _ fun b n' H' H2 s hp2 ⟨hb, r⟩ => by
    subst hb
    exact dn σ n' H' H2 s hp2 (hn n' H' s.loc r)
theorem eqt_notB {R : Bool → Nat → Hp → Prop} (h : EvQ p te σ n H (fun v n' H' => v = .bl true ∧ R false n' H')) : EvQT p (tNot (tB te)) σ n H (fun b n' H' => b = false ∧ R b n' H') := fun H1 e h0 hp Q q =>
  h H1 e h0 hp _ fun v n' H' H2 s hp2 ⟨hv, r⟩ => ⟨true, hv, q false n' H' H2 s hp2 ⟨rfl, r⟩⟩
theorem eqt_orF {t1 t2 : TT} {Pq : Bool → Nat → Hp → Prop} (h1 : EvT t1 σ H false) (h2 : EvQT p t2 σ n H Pq) : EvQT p (tOr t1 t2) σ n H Pq := fun H1 e h0 hp Q q => h1 H1 e _ fun H2 e2 => by
  have s0 : StepQ p H H1 H H2 := StepQ.of (Step.ex e e2)
  show t2 σ H2 Q
  exact h2 H2 (e.trans e2) h0 (hp.ex e2) Q fun b n' H' H3 s hp3 r => q b n' H' H3 (s0.trans s hp h0 ⟨_, hp.ex e2⟩) hp3 r
/-- a loop over a new list -/
theorem sq_forL {tl' : TE} {xs : List V} {j : Nat} (h : EvP tl' σ H (IsL xs)) (Pv : Nat → L2.St → Nat → Hp → Prop) (h0 : ∀ H', Ex H H' → Pv 0 σ n H')
    (hs : ∀ i x σ' n' H', Ex H H' → xs[i]? = some x → Pv i σ' n' H' → SvQ p tu (σ'.set j (some x)) n' H' (fun σ2 n2 H2 => Pv (i + 1) σ2 n2 H2) Rt) (hd : ∀ σ' n' H', Ex H H' → Pv xs.length σ' n' H' → SvQ p tz σ' n' H' Nx Rt) :
    SvQ p (tSeq (tFor (iList K tl') (gName j) tu) tz) σ n H Nx Rt := fun H1 e hp0 hp D dn dr =>
  h H1 e _ fun v Ha H2 s ⟨a, hv, hxs⟩ => by
    subst hv
    have sq := StepQ.of (p := p) s
    have hpa := sq.out hp0 hp
    have hp2 := hp.ex s.tot
    refine ⟨a, rfl, ⟨xs, sq_of (s.inn _ _ hxs)⟩, for_list (fun i σ' Ht => ∃ n' H', StepQ p Ha H2 H' Ht ∧ Pu n' p Ht ∧ Pv i σ' n' H') ⟨n, Ha, StepQ.refl s.inn, hp2, h0 Ha s.loc⟩ (fun i σ' Ht _ ⟨n', H', st, hpt, _⟩ => sq_of (st.inn _ _ (st.loc _ _ hxs))) (fun i x σ' Ht hi ⟨n', H', st, hpt, pv⟩ => ?_) (fun σ' Ht ⟨n', H', st, hpt, pv⟩ => ?_)⟩
    · exact hs i x σ' n' H' (s.loc.trans st.loc) hi pv Ht st.inn (st.out hpa hp2) hpt _ (fun σ2 n2 H2' H4 s2 hp4 q => ⟨n2, H2', st.trans s2 hp2 hpa ⟨_, hpt⟩, hp4, q⟩) fun v n2 H2' H4 s2 hp4 q => dr v n2 H2' H4 (sq.trans (st.trans s2 hp2 hpa ⟨_, hpt⟩) hp hp0 ⟨_, hp2⟩) hp4 q
    · exact hd σ' n' H' (s.loc.trans st.loc) pv Ht st.inn (st.out hpa hp2) hpt D (fun σ2 n2 H2' H4 s2 hp4 q => dn σ2 n2 H2' H4 (sq.trans (st.trans s2 hp2 hpa ⟨_, hpt⟩) hp hp0 ⟨_, hp2⟩) hp4 q) fun v n2 H2' H4 s2 hp4 q => dr v n2 H2' H4 (sq.trans (st.trans s2 hp2 hpa ⟨_, hpt⟩) hp hp0 ⟨_, hp2⟩) hp4 q
theorem eq_slT {r : V → Option Int → Option Int → Hp → VK → Prop} {P1 P3 : V → Nat → Hp → Prop} {P2 : V → Int → Nat → Hp → Prop} (h : EvQ p te σ n H P1) (k : ∀ x n' H', Ex H H' → P1 x n' H' → EvQ p ta σ n' H' (fun v n'' H'' => ∃ i, v = .int i ∧ P2 x i n'' H'')) (hr : ∀ x i n' H', Ex H H' → P2 x i n' H' → Gv (r x none (some i)) H' (fun v H'' => P3 v n' H'')) : EvQ p (tSl r te tNoPart (tPart ta)) σ n H P3 := fun H1 e h0 hp Q q =>
  h H1 e h0 hp _ fun x n' H' H2 s hp2 p1 => k x n' H' s.loc p1 H2 s.inn (s.out h0 hp) hp2 _ fun v n'' H'' H3 s2 hp3 ⟨i, hv, p2⟩ => ⟨i, hv, hr x i n'' H'' (s.loc.trans s2.loc) p2 H3 s2.inn Q fun w H4 H5 s3 p3 => q w n'' H4 H5 ((s.trans s2 hp h0 ⟨_, hp2⟩).trans (StepQ.of s3) hp h0 ⟨_, hp3⟩) (hp3.ex s3.tot) p3⟩
theorem TrL.take {ds : List D} {vs : List V} (k : Nat) (h : TrL C ds vs H) : TrL C (ds.take k) (vs.take k) H := ⟨by rw [List.length_take, List.length_take, h.1], fun i d v hd hv => by
  rw [List.getElem?_take] at hd hv
  split at hd
  · rename_i hi
    rw [if_pos hi] at hv
    exact h.2 i d v hd hv
  · cases hd⟩
theorem svq_run {ts1 ts2 : TS} {D : Ends} {H1 : Hp} (h : SvQ p (tSeq ts1 ts2) σ n H Nx Rt) (e : Ex H H1) (h0 : H p = none) (hp : Pu n p H1) (dn : ∀ σ' n' H' H2, StepQ p H H1 H' H2 → Pu n' p H2 → Nx σ' n' H' → D.nx σ' H2) (dr : ∀ v n' H' H2, StepQ p H H1 H' H2 → Pu n' p H2 → Rt v n' H' → D.rt v H2) : tSeq ts1 ts2 D σ H1 := h H1 e h0 hp D dn dr
theorem okD_rows (rows : List (List Nat)) : okD (rowsD (natR rows)) := by
  rw [rowsD_nat]
  exact okDL_of fun d hd => by
    obtain ⟨r, _, rfl⟩ := List.mem_map.mp hd
    exact okDL_of fun d hd => by
      obtain ⟨n, _, rfl⟩ := List.mem_map.mp hd
      exact trivial
theorem lotsD_rows {rs : List (List Nat)} (h : rs.all Pap.rising = true) : lotsD (rowsD (natR rs)) = some rs := by
  rw [rowsD_nat]
  have e1 : ∀ r : List Nat, rowD (D.seq false (r.map fun n => .flat (nV n))) = some r := fun r => rowD_ns r
  show (if (rs.map fun r => D.seq false (r.map fun n => .flat (nV n))).all isRl = true then Pap.allSome ((rs.map fun r => D.seq false (r.map fun n => .flat (nV n))).map rowD) else none) = some rs
  have h2 : (rs.map fun r => D.seq false (r.map fun n => .flat (nV n))).all isRl = true := by
    rw [List.all_map]
    refine List.all_eq_true.mpr fun r hr => ?_
    show isRl (D.seq false (r.map fun n => .flat (nV n))) = true
    unfold isRl
    rw [e1]
    exact List.all_eq_true.mp h r hr
  rw [if_pos h2, List.map_map]
  have : (rs.map (rowD ∘ fun r => D.seq false (r.map fun n => .flat (nV n)))) = rs.map some := List.map_congr_left fun r _ => e1 r
  rw [this]
  exact Pap.allSome_map rs
def mkT (t : Tx) : Str := ⟨t.toArray⟩
theorem tl_mkT (t : Tx) : tl (mkT t) = t := tl_mk t
theorem isStr_mk {t : Tx} {v : V} (h : isStr t v H) : v = .str (mkT t) := by
  obtain ⟨x, h1, h2⟩ := h
  rw [h1]
  congr 1
  exact ext_tl (h2.trans (tl_mkT t).symm)
/-- the purse's three readings of the law's lots -/
theorem eq_lots {m : Nat} {rows : List (List Nat)} {r : Addr} {x3 x4 x5 x6 x7 x8 x9 : Option V} {a : Addr} (hrec : RecL C H r m rows) (hl : rows.length ≤ 8) (hn : n + 300 ≤ 900000000) :
    EvQ p (tOp rCat (tLc (iRng1 (tCons (tCall spD [] E0 (tCons (tVar 1) (tCons (tC (.int 5)) tNil))) tNil)) (gName 8) tYes (tCall (spDl C) [] E0 (tCons (tVar 1) (tCons (tVar 2) tNil))) [8])
      (tSl (rSlL K) (tLst (tCons (tLst (tCons (tC (.int 9)) (tCons (tC (.int 10)) (tCons (tOp (rI CPowW fun i j => .int (i ^ j.toNat)) (tC (.int 10)) (tC (.int 24))) tNil)))) (tCons (tLst (tCons (tC (.int 12)) (tCons (tC (.int 345)) tNil))) tNil))) tNoPart (tPart (tCall spD [] E0 (tCons (tVar 1) (tCons (tC (.int 3)) tNil))))))
      [some (.ref a), some (.ref p), some (.ref r), x3, x4, x5, x6, x7, x8, x9] n H (fun v n' H' => n' ≤ n + 300 ∧ ∃ rs, SmL rs ∧ LLx C H' rs v) := by
  refine eq_op (P1 := fun v n' H' => n' ≤ n + 161 ∧ ∃ as : List (List Nat), as.length ≤ 4 ∧ (∀ r ∈ as, Pap.rising r = true ∧ ∀ x ∈ r, x < 8) ∧ NewT C ((natR as).map intsD) v H')
    (P2 := fun x y n' H' => n' ≤ n + 162 ∧ ∃ (as : List (List Nat)) (k : Nat), as.length ≤ 4 ∧ (∀ r ∈ as, Pap.rising r = true ∧ ∀ x ∈ r, x < 8) ∧ NewT C ((natR as).map intsD) x H' ∧ NewT C ((natR (bigs.take k)).map intsD) y H') ?_ (fun x n' H' e ⟨hn', as, q1, q2, q3⟩ => ?_) fun x y n' H' ⟨hn', as, k, q1, q2, ⟨p1, vs, h1, h2, h3⟩, p2, ws, k1, k2, k3⟩ => ?_
  · have main := eq_lcR (p := p) (n := n) (te := tCall (spDl C) [] E0 (tCons (tVar 1) (tCons (tVar 2) tNil))) (tt := tYes) (j := 8) (vs := [8]) (c := 40) (B := 4) (σ := [some (.ref a), some (.ref p), some (.ref r), x3, x4, x5, x6, x7, x8, x9]) (H := H) (RwI rows.length) (fun i ys A B e h => ⟨h.1, fun y hy => (h.2 y hy).mono e⟩)
      (eqa_cons (P1 := fun v n' _ => n' ≤ n + 1 ∧ ∃ N : Nat, v = nV N ∧ N ≤ 4) ((eq_draw (i := 1) (m := 5) rfl ev_c (by decide) (by decide) (by omega)).imp fun v m' _ _ ⟨h1, d, h2, h3⟩ => ⟨h1, d, h2, by omega⟩) fun v n' H' _ ⟨h1, N, h2, h3⟩ => eqa_nil ⟨h1, N, by rw [h2], h3⟩) (by decide) (fun _ _ => ⟨rfl, fun _ h => by cases h⟩) (fun _ => rfl) (fun i' H'' m' ys n' e2 hi' hn' hm hinv => turn_yes ((eq_call (pre := preDl C) (cost := fun _ => 40) (post := fun q v H => RowV q.2.length v H) (Pq := fun v n'' H'' => n'' ≤ m' + 40 ∧ RowV rows.length v H'') (eqa_of (ea_cons (ev_var rfl) (ea_cons (ev_var rfl) ea_nil))) fun vs n5 H5 e5 ⟨hv, hn5, _⟩ => ⟨(m, rows), ⟨r, hv, hrec.mono (e2.trans e5), by show rows.length ≤ 20; omega⟩, by show n5 + 40 ≤ _; omega, fun v n6 H6 _ hn6 hq => ⟨by have : n6 ≤ n5 + 40 := hn6; omega, hq⟩⟩).imp fun v n'' H3 e3 ⟨k1, k2⟩ => ⟨by rw [Nat.mul_succ]; omega, hinv.snoc e3 k2⟩))
    refine main.imp fun v n' H' e ⟨N, m', H'', hN, hm', e2, D, ys, hv, _, hD, _, hinv, hn'⟩ => ?_
    obtain ⟨as, g1, g2, g3⟩ := rows_of (C := C) ys hinv.2
    exact ⟨by omega, as, by rw [g1, hinv.1]; exact hN, fun r hr => ⟨(g3 r hr).1, fun x hx => by have := (g3 r hr).2 x hx; omega⟩, D, ys, hv, hD, g2⟩
  · refine eq_slT (P1 := fun v n2 H2 => n2 = n' ∧ NewT C ((natR bigs).map intsD) v H2) (P2 := fun v i n2 H2 => n2 ≤ n' + 1 ∧ NewT C ((natR as).map intsD) x H2 ∧ ∃ k : Nat, i = (k : Int) ∧ k ≤ 2 ∧ NewT C ((natR bigs).map intsD) v H2) ?_ (fun v n2 H2 e2 ⟨hn2, hv⟩ => ?_) fun v i n2 H2 e2 ⟨hn2, hx, k, hi, hk, pv, vs, h1, h2, h3⟩ => ?_
    · have e24 : ((10 : Int) ^ (24 : Int).toNat) = ((10 ^ 24 : Nat) : Int) := by decide +kernel
      have evp : ∀ {H2 : Hp} {σ2 : L2.St}, EvP (tOp (rI CPowW fun i j => .int (i ^ j.toNat)) (tC (.int 10)) (tC (.int 24))) σ2 H2 (Tr C (.flat (.int ((10 ^ 24 : Nat) : Int)))) := fun {H2 σ2} => ep_ofP (ev_op ev_c ev_c fun H1 e Q q => ⟨10, 24, rfl, rfl, ⟨by decide, by decide +kernel⟩, by
        have := q H1 (Ex.refl _)
        rw [← e24] at this
        exact this⟩) (tr_flat rfl)
      have evb := ep_new (C := C) (H := H') (σ := [some (.ref a), some (.ref p), some (.ref r), x3, x4, x5, x6, x7, x8, x9]) (epa_tcons (ep_tlst (epa_tcons (ep_tflat (v := .int 9) rfl) fun _ _ => epa_tcons (ep_tflat (v := .int 10) rfl) fun _ _ => epa_tcons evp fun _ _ => epa_tnil) (by show 3 ≤ 1000; decide)) fun _ _ => epa_tcons (ep_tlst (epa_tcons (ep_tflat (v := .int 12) rfl) fun _ _ => epa_tcons (ep_tflat (v := .int 345) rfl) fun _ _ => epa_tnil) (by show 2 ≤ 1000; decide)) fun _ _ => epa_tnil) (by show 2 ≤ 1000; decide)
      exact (eq_of evb).imp fun v n2 H2 _ h => h
    · exact (eq_draw (i := 1) (m := 3) rfl ev_c (by decide) (by decide) (by omega)).imp fun w n3 H3 e3 ⟨k1, d, k2, k3⟩ => ⟨(d : Int), k2, by omega, by
        obtain ⟨p1, vs, h1, h2, h3⟩ := q3
        exact ⟨p1, vs, h1, e3 _ _ (e2 _ _ h2), h3.mono (e2.trans e3)⟩, d, rfl, by omega, by
        obtain ⟨p1, vs, h1, h2, h3⟩ := hv
        exact ⟨p1, vs, h1, e3 _ _ h2, h3.mono e3⟩⟩
    · subst h1 hi
      have hvl : vs.length = 2 := h3.1
      refine fun Ht et Q q => ⟨pv, vs, rfl, sq_of (et _ _ h2), fun t ht => q _ _ _ (Step.new et ht) ⟨by omega, as, k, q1, q2, ?_, t, vs.take k, rfl, ?_, ?_⟩⟩
      · obtain ⟨p1, us, g1, g2, g3⟩ := hx
        exact ⟨p1, us, g1, Ex.new (fresh_back et ht) _ _ g2, g3.mono (Ex.new (fresh_back et ht))⟩
      · rw [upd_same, cutV_take (by omega)]
      · have := (h3.mono (Ex.new (o := .lst (cutV vs none (some ((k : Nat) : Int)))) (fresh_back et ht))).take k
        rw [← List.map_take] at this
        unfold natR
        unfold natR at this
        rw [← List.map_take] at this
        exact this
  · subst h1 k1
    have l1 : vs.length ≤ 4 := by rw [h3.1, List.length_map, List.length_map]; exact q1
    have l2 : ws.length ≤ 2 := by
      rw [k3.1, List.length_map, List.length_map, List.length_take]
      have : bigs.length = 2 := rfl
      omega
    refine fun Ht et Q q => ⟨p1, p2, vs, ws, rfl, rfl, et _ _ h2, et _ _ k2, by rw [sizeLine_eq]; omega, fun t ht => q _ _ _ (Step.new et ht) ⟨by omega, as ++ bigs.take k, ⟨as, k, rfl, q1, q2⟩, ?_⟩⟩
    have hT := TrL.mono (Ex.new (o := .lst (vs ++ ws)) (fresh_back et ht)) (TrL.app h3 k3)
    have e1 : (natR (as ++ bigs.take k)).map intsD = (natR as).map intsD ++ (natR (bigs.take k)).map intsD := by unfold natR; rw [List.map_append, List.map_append]
    show Den C _ (.seq false ((natR (as ++ bigs.take k)).map intsD)) (.ref t)
    rw [e1]
    exact ⟨t, vs ++ ws, rfl, .inl upd_same, hT.den⟩
abbrev nLw : List Str := ["_law_script", "_law_purse_here", "_law_recipe_here", "_law_made_here", "_law_lots", "_law_handed", "_law_more", "_law_text", "_law_turn", "_law_late"]
theorem scLw : FnScope nLw ["_law_script"] (defScope (top 52)) := ⟨rfl, rfl, rfl, by decide +kernel, rfl, by decide +kernel, by decide +kernel⟩
def spLw (K : PySem.W.Frag) : Sp := fun vs H1 Q _ => ∃ (a : Addr) (ns : List Int), vs = [.ref a] ∧ SqL K H1 a (ns.map V.int) ∧ ∀ H', Q (.bl true) H'
theorem ok_law (F : FnT K "law" 52 f fd) (KPs : Kp P w K mg base CX0 2 "_law_purses" ["_law_script", "_law_few"] (spPs K)) (KG : Kp P w K mg base CX0 5 "_law_great" ["_law_purse_here"] (spGr C)) (KM : Kp P w K mg base CX0 5 "_law_made" ["_law_recipe_here"] (spMd C))
    (KDl : Kp P w K mg base CX0 3 "_law_drawn_lot" ["_law_purse_here", "_law_recipe_here"] (spDl C)) (KD : Kp P w K mg base CX0 2 "_law_draw" ["_law_purse_here", "_law_many"] spD) (KS : Kp P w K mg base CX0 7 "_law_same" ["_law_thing"] (spSm C 6)) (KE : Kp P w K mg base CX0 8 "_law_exact" ["_law_mine", "_law_theirs"] (spEx C 6))
    (KRt : Kp P w K mg base (L2.CX P w) 3 "recipe_text" ["recipe"] (spRt C CR)) (KLt : Kp P w K mg base (L2.CX P w) 3 "lots_text" ["lots"] (spLt C CL)) (KRn : Kp P w K mg base CX0 1 "_law_recipe_line" ["_law_recipe_here"] (spRn C)) (KLn : Kp P w K mg base CX0 1 "_law_lots_line" ["_law_lots"] (spLn C))
    (KRd : Kp P w K mg base (L2.CX P w) 5 "read_recipe" ["text"] (spRd C CT)) (KRl : Kp P w K mg base (L2.CX P w) 3 "read_lots" ["text"] (spRl C CT)) (KRR : Kp P w K mg base CX0 9 "_law_read_right" ["_law_text"] spRR) (KBe : Kp P w K mg base CX0 4 "_law_bent" ["_law_purse_here", "_law_text"] spBe)
    (KRr : Kp P w K mg base CX0 11 "_law_refused_right" ["_law_recipe_here", "_law_made_here"] (spRr C))
    (FE : FnOk P w K mg base CX0 1 fE fdE ["self", "other"] (spEq (REq C))) (hne : PySem.W.findIn K (.ref C) "__ne__" = some (some (.builtin "object.__ne__"))) (hse : PySem.W.findIn K (.ref C) "__eq__" = some (some (.ref fE))) (hfe : PySem.W.isFn K (.ref fE) = true) (hbe : Binds K fdE ["self", "other"] [])
    (hso : PySem.W.subIn K (.ref C) (.type "object") = some true) (fr : Fr mg) : FnOk P w K mg base CX0 12 f fd ["_law_script"] (spLw K) := by
  refine F.ok scLw (fun vs H Q E h => ?_) (fun cdv A outer s H1 vs Q E hr h => ?_)
  · obtain ⟨a, ns, rfl, _⟩ := h
    rfl
  · obtain ⟨a, ns, rfl, ha, q⟩ := h
    refine ⟨_, PSs.nox (pss_cons (ps_for PassesOwn.never rfl (pi_list (pe_cl KPs (hr.mono (by decide)) (pa_cons (pv 0) (pa_cons pe_int pa_nil)))) (pg_name (i := 1) scLw.nd rfl (.inr rfl))
      (pss_cons (ps_set (i := 2) scLw.nd rfl (.inr rfl) (pe_cl KG (hr.mono (by decide)) (pa_cons (pv 1) pa_nil)))
      (pss_cons (ps_set (i := 3) scLw.nd rfl (.inl rfl) (pe_cl KM (hr.mono (by decide)) (pa_cons (pv 2) pa_nil)))
      (pss_cons (ps_set (i := 4) scLw.nd rfl (.inl rfl) (pe_op op_cat (pe_lc (own := [("_law_turn", 8)]) (g := gName 8) (tt := tYes) rfl scLw.nd (pi_range1 rfl fr.range_ (pa_cons (pe_cl KD (hr.mono (by decide)) (pa_cons (pv 1) (pa_cons pe_int pa_nil))) pa_nil)) (blkOk_by (N := nLw) (sc := defScope (top 52)) (by decide +kernel)) (fun _ _ _ _ _ => pg_name (i := 8) scLw.nd rfl (Or.inl rfl)) (fun _ _ _ _ _ => pts_nil)
            (fun _ _ _ _ _ => pe_cl KDl (hr.mono (by decide)) (pa_cons (pv 1) (pa_cons (pv 2) pa_nil))))
          (pe_slice (r := rSlL K) sl_list (pe_lst (pa_cons (pe_lst (pa_cons pe_int (pa_cons pe_int (pa_cons (pe_op op_powW pe_int pe_int) pa_nil)))) (pa_cons (pe_lst (pa_cons pe_int (pa_cons pe_int pa_nil))) pa_nil))) po_none (po_some (pe_cl KD (hr.mono (by decide)) (pa_cons (pv 1) (pa_cons pe_int pa_nil)))))))
      (pss_cons (ps_set (i := 5) scLw.nd rfl (.inl rfl) (pe_cl KS (hr.mono (by decide)) (pa_cons (pv 4) pa_nil)))
      (pss_cons (ps_if (pt_not (pt_val (pe_cl KE (hr.mono (by decide)) (pa_cons (pe_lst (pa_cons (pe_clX KRt (hr.mono (by decide)) (pa_cons (pv 3) pa_nil)) (pa_cons (pe_clX KLt (hr.mono (by decide)) (pa_cons (pv 5) pa_nil)) (pa_cons (pv 5) pa_nil)))) (pa_cons (pe_lst (pa_cons (pe_cl KRn (hr.mono (by decide)) (pa_cons (pv 2) pa_nil)) (pa_cons (pe_cl KLn (hr.mono (by decide)) (pa_cons (pv 4) pa_nil)) (pa_cons (pv 4) pa_nil)))) pa_nil))))) (pss_one (ps_ret pe_bl)) pss_nil)
      (pss_cons (ps_if (PW.pt (pw_or (pt_cmpR (op_neR FE (hr.mono (by decide)) hne hse hfe hbe hso) (pe_clX KRd (hr.mono (by decide)) (pa_cons (pe_cl KRn (hr.mono (by decide)) (pa_cons (pv 2) pa_nil)) pa_nil)) (pv 3) (nomark _)) (pw_or1 (pt_not (pt_val (pe_cl KE (hr.mono (by decide)) (pa_cons (pe_clX KRl (hr.mono (by decide)) (pa_cons (pe_cl KLn (hr.mono (by decide)) (pa_cons (pv 4) pa_nil)) pa_nil)) (pa_cons (pv 4) pa_nil)))))))) (pss_one (ps_ret pe_bl)) pss_nil)
      (pss_cons (ps_set (i := 6) scLw.nd rfl (.inl rfl) (pe_lst (pa_cons pe_str (pa_cons pe_str (pa_cons pe_str (pa_cons pe_str (pa_cons pe_str (pa_cons pe_str (pa_cons pe_str pa_nil)))))))))
      (pss_cons (ps_for PassesOwn.never rfl (pi_list (pe_op op_cat (pv 6) (pe_lst (pa_cons (pe_cl KRn (hr.mono (by decide)) (pa_cons (pv 2) pa_nil)) (pa_cons (pe_cl KLn (hr.mono (by decide)) (pa_cons (pv 4) pa_nil)) (pa_cons pe_str (pa_cons pe_str (pa_cons pe_str (pa_cons pe_str (pa_cons pe_str (pa_cons pe_str (pa_cons pe_str pa_nil)))))))))))) (pg_name (i := 7) scLw.nd rfl (.inl rfl))
        (pss_one (ps_if (PW.pt (pw_or (pt_not (pt_val (pe_cl KRR (hr.mono (by decide)) (pa_cons (pv 7) pa_nil)))) (pw_or1 (pt_not (pt_val (pe_callB (cr_all rfl) rfl fr.all_ bt_all (pa_cons (pe_lc (own := [("_law_late", 9)]) (g := gName 9) (tt := tYes) rfl scLw.nd (pi_list (pe_cl KBe (hr.mono (by decide)) (pa_cons (pv 1) (pa_cons (pv 7) pa_nil)))) (blkOk_by (N := nLw) (sc := defScope (top 52)) (by decide +kernel)) (fun _ _ _ _ _ => pg_name (i := 9) scLw.nd rfl (Or.inl rfl)) (fun _ _ _ _ _ => pts_nil)
            (fun _ _ _ _ _ => pe_cl KRR (hr.mono (by decide)) (pa_cons (pv 9) pa_nil))) pa_nil))))))) (pss_one (ps_ret pe_bl)) pss_nil)))
      (pss_one (ps_if (pt_not (pt_val (pe_cl KRr hr (pa_cons (pv 2) (pa_cons (pv 3) pa_nil))))) (pss_one (ps_ret pe_bl)) pss_nil)))))))))))
      (pss_one (ps_ret pe_bl))), ?_⟩
    have st0 : L2.start nLw [.ref a] = [some (.ref a), none, none, none, none, none, none, none, none, none] := rfl
    rw [st0]
    refine ⟨.ref a, rfl, (a, ns), H1, Ex.refl _, ⟨rfl, ha⟩, fun l p H' H2 x y s hp hl hpp => ⟨l, rfl, ⟨[.ref p], sq_of (s.inn _ _ hl)⟩, for_list (xs := [.ref p]) (fun i σ' Ht => if i = 0 then σ' = [some (.ref a), none, none, none, none, none, none, none, none, none] ∧ Ht = H2 else SqL K Ht l [.ref p]) ⟨rfl, rfl⟩ (fun i σ' Ht _ hpv => ?_) (fun i z σ' Ht hi hpv => ?_) (fun σ' Ht _ => q Ht)⟩⟩
    · by_cases hi : i = 0
      · rw [if_pos hi] at hpv
        rw [hpv.2]
        exact sq_of (s.inn _ _ hl)
      · rw [if_neg hi] at hpv
        exact hpv
    have hlp : l ≠ p := fun z => by rw [z, hpp] at hl; injection hl with hl; injection hl with hl; cases hl
    cases i with
    | succ i => cases hi
    | zero =>
    cases hi
    rw [if_pos rfl] at hpv
    obtain ⟨rfl, rfl⟩ := hpv
    show tSeq _ _ _ [some (.ref a), some (.ref p), none, none, none, none, none, none, none, none] Ht
    refine svq_run (p := p) (n := 0) (H := H1) (Nx := fun _ _ _ => True) (Rt := fun _ _ _ => False) ?_ s.tot hp ⟨x, y, 0, 0, s.inn _ _ hpp, by decide, by decide⟩ (fun σ2 n' H'' H3 st hp3 _ => ?_) (fun _ _ _ _ _ _ z => z.elim)
    rotate_left
    · show SqL K H3 l [.ref p]
      exact sq_of (st.tot l _ hlp (s.inn _ _ hl))
    refine sq_set (P1 := fun v n' H' => n' ≤ 600 ∧ GrV C 8 8 v H') (eq_call (eqa_of (ea_cons (ev_var rfl) ea_nil)) fun vs n' H' e ⟨hv, hn', _⟩ => ⟨(), hv, by rw [hn']; decide, fun v n'' H'' _ hn'' hq => ⟨by rw [hn'] at hn''; exact Nat.le_trans hn'' (by decide), hq⟩⟩) fun v n1 Ha ea ⟨hn1, hgr⟩ => ?_
    obtain ⟨r, m, rows, rfl, hrec, hm8, hl1, hl8, hrow⟩ := hgr
    have sm : SmR m rows := ⟨hm8, hl1, hl8, hrow⟩
    have hsz := siz_rowsD hl8 sm.len
    have hsz2 : siz (rowsD (natR rows)) ≤ 73 := hsz
    refine sq_set (P1 := fun v n' H' => n' = n1 ∧ ∃ b, v = .ref b ∧ Den C H' (rcN b m rows) (.ref b)) (eq_of (ep_callA (ea_cons (ev_var rfl) ea_nil) (gv_spP (r, m, rows) ⟨rfl, hrec, sm.ok, by show m ≤ 1000000; omega, by show siz (rowsD (natR rows)) ≤ 30000; omega⟩ fun v H' e hv => hv))) fun v n2 Hb eb ⟨hn2, b, hv, hmd⟩ => ?_
    subst hv hn2
    refine sq_set (eq_lots (K := K) (m := m) (rows := rows) (r := r) (hrec.mono eb) hl8 (by omega)) fun lv n3 Hc ec ⟨hn3, rs, smL, hll⟩ => ?_
    have hszL : siz (rowsD (natR rs)) ≤ 55 := siz_rowsD smL.len fun r hr => (smL.row r hr).2.1
    have hdpL := dep_rows rs
    refine sq_set (P1 := fun v n' H' => n' = n3 ∧ Den C H' (rowsD (natR rs)) v) (eq_of (ep_callA (ea_cons (ev_var rfl) ea_nil) (gv_spP (rowsD (natR rs)) ⟨lv, rfl, hll, by omega, by omega⟩ fun v H' e hv => hv))) fun hv' n4 Hd ed ⟨hn4, hhd⟩ => ?_
    subst hn4
    have bsR := sm.bs
    have bsL := smL.bs
    have okRn : ∀ {L : Hp} {σ' : L2.St}, RecL C L r m rows → σ'[2]? = some (some (.ref r)) → Ev (tCall (spRn C) [] E0 (tCons (tVar 2) tNil)) σ' L (.str (mkT (Pap.recText m rows))) := fun hr h => EvP.ev (ep_callA (ea_cons (ev_var h) ea_nil) (gv_spP (r, m, rows) ⟨rfl, hr, sm.okN⟩ fun v H' e hv => isStr_mk hv))
    have okLn : ∀ {L : Hp} {σ' : L2.St} {i : Nat} {u : V}, LLx C L rs u → σ'[i]? = some (some u) → Ev (tCall (spLn C) [] E0 (tCons (tVar i) tNil)) σ' L (.str (mkT (Pap.lotsText rs))) := fun hu h => EvP.ev (ep_callA (ea_cons (ev_var h) ea_nil) (gv_spP rs ⟨_, rfl, hu, smL.okL⟩ fun v H' e hv => isStr_mk hv))
    have hllD : LLx C Hd rs lv := Den.mono ed _ _ hll
    have hrecD : RecL C Hd r m rows := ((hrec.mono eb).mono ec).mono ed
    have hmdD : Den C Hd (rcN b m rows) (.ref b) := Den.mono (ec.trans ed) _ _ hmd
    -- the texts and the lots
    have evE1 : Ev (tCall (spEx C 6) [] E0 (tCons (tLst (tCons (tCall (spRt C CR) [] E0 (tCons (tVar 3) tNil)) (tCons (tCall (spLt C CL) [] E0 (tCons (tVar 5) tNil)) (tCons (tVar 5) tNil)))) (tCons (tLst (tCons (tCall (spRn C) [] E0 (tCons (tVar 2) tNil)) (tCons (tCall (spLn C) [] E0 (tCons (tVar 4) tNil)) (tCons (tVar 4) tNil)))) tNil)))
        [some (.ref a), some (.ref p), some (.ref r), some (.ref b), some lv, some hv', none, none, none, none] Hd (.bl true) := by
      refine EvP.ev (ep_call2 (P1 := fun v H' => Den C H' (.seq false [.flat (.str (mkT (Pap.recText m rows))), .flat (.str (mkT (Pap.lotsText rs))), rowsD (natR rs)]) v) (P2 := fun x y H' => Den C H' (.seq false [.flat (.str (mkT (Pap.recText m rows))), .flat (.str (mkT (Pap.lotsText rs))), rowsD (natR rs)]) x ∧ Den C H' (.seq false [.flat (.str (mkT (Pap.recText m rows))), .flat (.str (mkT (Pap.lotsText rs))), rowsD (natR rs)]) y) ?_ (fun x H' e hx => ?_) fun x y H' e ⟨hx, hy⟩ => gv_spP _ ⟨x, y, rfl, hx, hy, ?_, ⟨trivial, trivial, okD_rows rs, trivial⟩, ?_⟩ fun v H'' e2 hv => hv)
      · have evRt : Ev (tCall (spRt C CR) [] E0 (tCons (tVar 3) tNil)) [some (.ref a), some (.ref p), some (.ref r), some (.ref b), some lv, some hv', none, none, none, none] Hd (.str (mkT (Pap.recText m rows))) := fun Ht et Q q => ⟨.ref b, rfl, Hd, rcN b m rows, .ref b, rfl, et, hmdD, fun _ => ⟨b, m, rows, rfl, sm.okN, fun v H2 e2 hv => by rw [isStr_mk hv]; exact q H2 e2⟩, fun z => nomatch z⟩
        have evLt : ∀ {L : Hp}, Ex Hd L → Ev (tCall (spLt C CL) [] E0 (tCons (tVar 5) tNil)) [some (.ref a), some (.ref p), some (.ref r), some (.ref b), some lv, some hv', none, none, none, none] L (.str (mkT (Pap.lotsText rs))) := fun {L} e Ht et Q q => ⟨hv', rfl, L, rowsD (natR rs), hv', rfl, et, Den.mono e _ _ hhd, by omega, fun rs' h' => by
          rw [lotsD_rows smL.rise] at h'
          cases h'
          exact ⟨smL.okL, fun v H2 e2 hv => by rw [isStr_mk hv]; exact q H2 e2⟩, fun z => by rw [lotsD_rows smL.rise] at z; cases z⟩
        refine Gv.imp (ep_ofL (el_lst (ea_cons evRt (ea_cons (evLt (Ex.refl _)) (ea_cons (ev_var rfl) ea_nil))) (by show 3 ≤ 100000; decide))) fun v H' e ⟨t, h1, _, h3⟩ => ⟨t, _, h1, .inl h3, _, _, rfl, ⟨rfl, rfl⟩, _, _, rfl, ⟨rfl, rfl⟩, _, _, rfl, Den.mono e _ _ hhd, rfl⟩
      · refine Gv.imp (ep_ofL (el_lst (ea_cons (okRn (hrecD.mono e) rfl) (ea_cons (okLn (i := 4) (Den.mono e _ _ hllD) rfl) (ea_cons (ev_var rfl) ea_nil))) (by show 3 ≤ 100000; decide))) fun v H'' e2 ⟨t, h1, _, h3⟩ => ⟨Den.mono e2 _ _ hx, t, _, h1, .inl h3, _, _, rfl, ⟨rfl, rfl⟩, _, _, rfl, ⟨rfl, rfl⟩, _, _, rfl, Den.mono (e.trans e2) _ _ hllD, rfl⟩
      · show max 0 (max 0 (max (dep (rowsD (natR rs))) 0)) + 1 ≤ 6
        omega
      · show 1 + (1 + (siz (rowsD (natR rs)) + 0)) + 1 ≤ 30000
        omega
    refine sq_when (b := false) (et_not (et_B evE1)) (fun z => nomatch z) fun _ => ?_
    -- read back
    have evNe : Ev (tOp (fun x y H Q => ∃ a b, x = .ref a ∧ y = .ref b ∧ REq C a b H ∧ ∀ H', Ex H H' → Q (.bl false) H') (tCall (spRd C CT) [] E0 (tCons (tCall (spRn C) [] E0 (tCons (tVar 2) tNil)) tNil)) (tVar 3)) [some (.ref a), some (.ref p), some (.ref r), some (.ref b), some lv, some hv', none, none, none, none] Hd (.bl false) := by
      refine EvP.ev (ep_op (P1 := fun v H' => ∃ c, v = .ref c ∧ Den C H' (rcN c m rows) (.ref c)) (P2 := fun x y H' => (∃ c, x = .ref c ∧ Den C H' (rcN c m rows) (.ref c)) ∧ y = .ref b ∧ Ex Hd H') ?_ (fun x H' e hx => ep_var rfl ⟨hx, rfl, e⟩) fun x y H' e ⟨⟨c, hx, hc⟩, hy, e'⟩ => ?_)
      · refine ep_callA (ea_cons (okRn hrecD rfl) ea_nil) fun Ht et Q q => ⟨Hd, .flat (.str (mkT (Pap.recText m rows))), .str (mkT (Pap.recText m rows)), rfl, et, ⟨rfl, rfl⟩, fun s hs => by injection hs with hs; subst hs; rw [tl_mkT]; exact bsR.txr.g, fun s m' rows' hs hq v H' H2 st hv => by
          injection hs with hs
          subst hs
          rw [tl_mkT, Pap.pRecipe_rec sm.ok] at hq
          cases hq
          exact q v H' H2 st hv, fun hn => by have := hn _ rfl; rw [tl_mkT, Pap.pRecipe_rec sm.ok] at this; cases this⟩
      · subst hx hy
        exact fun Ht et Q q => ⟨c, b, rfl, rfl, ⟨(m : Int), natR rows, Den.mono et _ _ hc, Den.mono (e'.trans et) _ _ hmdD⟩, fun H2 e2 => q _ H' H2 (Step.ex et e2) rfl⟩
    have evE2 : Ev (tCall (spEx C 6) [] E0 (tCons (tCall (spRl C CT) [] E0 (tCons (tCall (spLn C) [] E0 (tCons (tVar 4) tNil)) tNil)) (tCons (tVar 4) tNil))) [some (.ref a), some (.ref p), some (.ref r), some (.ref b), some lv, some hv', none, none, none, none] Hd (.bl true) := by
      refine EvP.ev (ep_call2 (P1 := fun v H' => LLx C H' rs v) (P2 := fun x y H' => LLx C H' rs x ∧ LLx C H' rs y) ?_ (fun x H' e hx => ep_var rfl ⟨hx, Den.mono e _ _ hllD⟩) fun x y H' e ⟨hx, hy⟩ => gv_spP (rowsD (natR rs)) ⟨x, y, rfl, hx, hy, by omega, okD_rows rs, by omega⟩ fun v H'' e2 hv => hv)
      refine ep_callA (ea_cons (okLn (i := 4) hllD rfl) ea_nil) fun Ht et Q q => ⟨Hd, .flat (.str (mkT (Pap.lotsText rs))), .str (mkT (Pap.lotsText rs)), rfl, et, ⟨rfl, rfl⟩, fun s hs => by injection hs with hs; subst hs; rw [tl_mkT]; exact ⟨bsL.txr.g.len, bsL.txr.g.run⟩, fun s rs' hs hq v H' H2 st hv => by
          injection hs with hs
          subst hs
          rw [tl_mkT, Pap.pLots_lots smL.rise] at hq
          cases hq
          exact q v H' H2 st hv.1, fun hn => by have := hn _ rfl; rw [tl_mkT, Pap.pLots_lots smL.rise] at this; cases this⟩
    refine sq_when (b := false) (et_or (et_test evNe) fun _ => et_not (et_B evE2)) (fun z => nomatch z) fun _ => ?_
    -- the texts
    refine sq_set (P1 := fun v n' H' => n' = n4 ∧ IsL ((["9 10", "10 9", "0 2 1", "0 1 1", "0\t1", "old 2\nneeds 1 0", "old 2\nneeds\t0"] : List Str).map V.str) v H') (eq_of (ep_isl (el_lst (ea_cons ev_c (ea_cons ev_c (ea_cons ev_c (ea_cons ev_c (ea_cons ev_c (ea_cons ev_c (ea_cons ev_c ea_nil))))))) (by show 7 ≤ 100000; decide)))) fun mv n5 He ee ⟨hn5, hmv⟩ => ?_
    subst hn5
    have hllE := Den.mono ee _ _ hllD
    have hrecE := hrecD.mono ee
    refine sq_forL (K := K) (xs := (["9 10", "10 9", "0 2 1", "0 1 1", "0\t1", "old 2\nneeds 1 0", "old 2\nneeds\t0"] : List Str).map V.str ++ ([mkT (Pap.recText m rows), mkT (Pap.lotsText rs), "", "-", "old 0\nneeds", "old 0", "0", "old 1\nneeds 0", "old 01\nneeds 0"] : List Str).map V.str)
      (ep_catV (ep_var rfl hmv) (fun H' e => ep_isl (el_lst (ea_cons (okRn (hrecE.mono e) rfl) (ea_cons (okLn (i := 4) (Den.mono e _ _ hllE) rfl) (ea_cons ev_c (ea_cons ev_c (ea_cons ev_c (ea_cons ev_c (ea_cons ev_c (ea_cons ev_c (ea_cons ev_c ea_nil))))))))) (by show 9 ≤ 100000; decide))) (by show 7 + 9 ≤ 100000; decide))
      (fun i σ' n' H' => n' ≤ n5 + 24 * i ∧ ∃ y7, σ' = [some (.ref a), some (.ref p), some (.ref r), some (.ref b), some lv, some hv', some mv, y7, none, none]) (fun H' _ => ⟨by omega, none, rfl⟩) (fun i x' σ' n' H' e hi ⟨hn', y7, hσ⟩ => ?_) (fun σ' n' H' e ⟨hn', y7, hσ⟩ => ?_)
    · subst hσ
      have hi16 : i < 16 := (List.getElem?_eq_some_iff.mp hi).1
      obtain ⟨z, rfl, hz⟩ : ∃ z : Str, x' = .str z ∧ Bs (tl z) := by
        have hmem := List.mem_of_getElem? hi
        rw [← List.map_append] at hmem
        obtain ⟨z, hz, rfl⟩ := List.mem_map.mp hmem
        refine ⟨z, rfl, ?_⟩
        have small : ∀ z ∈ (["9 10", "10 9", "0 2 1", "0 1 1", "0\t1", "old 2\nneeds 1 0", "old 2\nneeds\t0"] : List Str) ++ (["", "-", "old 0\nneeds", "old 0", "0", "old 1\nneeds 0", "old 01\nneeds 0"] : List Str), sk 4 0 0 (tl z) = true ∧ (tl z).length ≤ 900 ∧ ∀ c ∈ tl z, c < 128 := by decide +kernel
        have fromS : z ∈ (["9 10", "10 9", "0 2 1", "0 1 1", "0\t1", "old 2\nneeds 1 0", "old 2\nneeds\t0"] : List Str) ++ (["", "-", "old 0\nneeds", "old 0", "0", "old 1\nneeds 0", "old 01\nneeds 0"] : List Str) → Bs (tl z) := fun h => ⟨⟨4, (small z h).1, .inl (by decide)⟩, (small z h).2.1, (small z h).2.2⟩
        rcases List.mem_append.mp hz with hz | hz
        · exact fromS (List.mem_append_left _ hz)
        · rcases List.mem_cons.mp hz with rfl | hz
          · rw [tl_mkT]; exact bsR
          · rcases List.mem_cons.mp hz with rfl | hz
            · rw [tl_mkT]; exact bsL
            · exact fromS (List.mem_append_right _ hz)
      have evRR : ∀ {L : Hp} {σ' : L2.St} {i : Nat} {z : Str}, TxR (tl z) → σ'[i]? = some (some (.str z)) → Ev (tCall spRR [] E0 (tCons (tVar i) tNil)) σ' L (.bl true) := fun hz h => EvP.ev (ep_callA (ea_cons (ev_var h) ea_nil) (gv_spP _ ⟨rfl, hz⟩ fun v H' e hv => hv))
      refine sq_ifQ (R := fun _ n'' _ => n'' ≤ n' + 24) (eqt_orF (et_not (et_B (evRR hz.txr rfl))) (eqt_notB (eq_cb1 (P1 := fun v n'' H'' => n'' ≤ n' + 24 ∧ ∃ (q : Addr) (k : Nat), v = .ref q ∧ H'' q = some (.lst ((List.replicate k true).map V.bl))) ?_ fun v n'' H'' e2 ⟨h1, q, k, hv, hq⟩ => ?_))) fun n'' H'' e2 h1 => ⟨by omega, some (.str z), rfl⟩
      · have hb := eq_call (n := n') (p := p) (H := H') (σ := [some (.ref a), some (.ref p), some (.ref r), some (.ref b), some lv, some hv', some mv, some (.str z), none, none]) (E := E0) (tr := tCons (tVar 1) (tCons (tVar 7) tNil)) (pre := preBe) (cost := fun _ => 24) (post := fun _ v H => ∃ zs, IsL (zs.map V.str) v H ∧ TxL zs) (Pq := fun v n'' H'' => n'' ≤ n' + 24 ∧ ∃ zs, IsL (zs.map V.str) v H'' ∧ TxL zs) (eqa_of (ea_cons (ev_var rfl) (ea_cons (ev_var rfl) ea_nil))) fun vs n'' H'' e2 ⟨hv, hn'', _⟩ => ⟨z, ⟨hv, hz⟩, by omega, fun v n6 H6 _ hn6 hq => ⟨by omega, hq⟩⟩
        intro Ht et h0 hp' Q q
        refine hb Ht et h0 hp' _ fun v n6 H6 H7 s6 hp6 ⟨hn6, zs, ⟨l6, hv, hl6⟩, htx⟩ => ?_
        subst hv
        have hzl : zs.length ≤ 100 := htx.1
        have lc := ep_lcL (K := K) (H := H6) (σ := [some (.ref a), some (.ref p), some (.ref r), some (.ref b), some lv, some hv', some mv, some (.str z), none, none]) (tl := tC (.ref l6)) (a := l6) (xs := zs.map V.str) (te := tCall spRR [] E0 (tCons (tVar 9) tNil)) (j := 9) (vs := [9]) (fun _ y _ => y = .bl true) (fun _ _ _ _ _ h => h) ev_c (sq_of hl6) (by rw [List.length_map]; omega) (fun _ => rfl) fun i6 x6 H8 e8 hx6 => by
          obtain ⟨z6, hz6, rfl⟩ := List.mem_map.mp (List.mem_of_getElem? hx6)
          exact ep_of (evRR (htx.2 z6 hz6) rfl)
        refine lc H7 s6.inn Q fun w H8 H9 s8 ⟨p8, ys, h1, _, h3, h4, h5⟩ => q w n6 H8 H9 (s6.trans (StepQ.of s8) hp' h0 ⟨_, hp6⟩) (hp6.ex s8.tot) ⟨hn6, p8, ys.length, h1, ?_⟩
        rw [h3]
        congr 2
        refine List.ext_getElem? fun j => ?_
        rw [List.map_replicate, List.getElem?_replicate]
        split
        · rename_i hj
          rw [List.getElem?_eq_getElem hj, h5 j ys[j] (List.getElem?_eq_getElem hj)]
        · rename_i hj
          exact List.getElem?_eq_none (by omega)
      · subst hv
        refine gv_all (ys := []) _ hq ⟨?_, h1⟩
        congr 1
        exact List.all_eq_true.mpr fun b hb => by rw [List.eq_of_mem_replicate hb]; rfl
    · subst hσ
      refine sq_if1 (et_not (et_B (b := true) (EvP.ev (ep_callA (ea_cons (ev_var rfl) (ea_cons (ev_var rfl) ea_nil)) (gv_spP (⟨b, r, m, rows⟩ : RIn) ⟨rfl, Den.mono (ee.trans e) _ _ hmdD, hrecE.mono e, by show rows.length ≤ 1000; omega, by show siz (rowsD (natR rows)) ≤ 10000; omega⟩ fun v H'' e2 hv => hv))))) fun _ _ => trivial
end
end G


/-! Every def keeps its promise, from what the head tells. -/
namespace G
open PySem PySem.Spec PyProof.Rows L2 Evl Tp RZ TL L2X StX
open PySem.ExX (ExT PrOk)
def GotT (K : PySem.W.Frag) (mg : Str → Option Value) (x : Str) (i : Nat) : Prop := ∃ f fd, FnT K x i f fd ∧ mg x = some (.ref f)
theorem binds1K {K : PySem.W.Frag} {x : Str} {i : Nat} {f : Addr} {fd : FuncData} {kn : Str} (F : FnT K x i f fd) (h : ∀ (kV doc pm : Value) (an : Option Addr) (cdv ct v : Value), bindArgs (PySem.W.fnOf x x (defArgs (top i)) (defBody (top i)) (defScope (top i)) .none kV doc pm an cdv ct) ⟨[], [(kn, v)]⟩ = pure [(kn, v)]) :
    ∀ (s : Shared) (v : Value), BindsTo s fd ⟨[], [(kn, v)]⟩ [(kn, v)] := fun s v => by
  obtain ⟨oc, od, dV, kV, doc, pm, an, cdv, ct, osl, rfl, lk, hcd, hD, hK⟩ := F.ex
  rcases hD with ⟨_, rfl⟩ | ⟨e, _⟩
  · exact .of_eq (h kV doc pm an cdv ct v)
  · exact absurd rfl e
theorem chain {P : Program} {w : World} {K : PySem.W.Frag} {mg : Str → Option Value} {base : Heap} {C CR CL CT CN CC CS fR fL fT fN fI fE fM fNe : Addr} {fdI fde fdM fdN : FuncData} {fl : Addr} {fdl : FuncData}
    (t_is_count : GotT K mg "is_count" 9)
    (t_is_rising : GotT K mg "is_rising" 10)
    (t_is_rising_list : GotT K mg "is_rising_list" 21)
    (t_numbers_in : GotT K mg "numbers_in" 12)
    (t_row_in : GotT K mg "row_in" 19)
    (t_bits_of : GotT K mg "bits_of" 11)
    (t_line_of : GotT K mg "line_of" 22)
    (t_lines_of : GotT K mg "lines_of" 17)
    (t_check_recipe : GotT K mg "check_recipe" 15)
    (t_recipe_text : GotT K mg "recipe_text" 18)
    (t_read_recipe : GotT K mg "read_recipe" 20)
    (t_lots_text : GotT K mg "lots_text" 23)
    (t_read_lots : GotT K mg "read_lots" 24)
    (t__law_called : GotT K mg "_law_called" 41)
    (t__law_told : GotT K mg "_law_told" 42)
    (t__law_same : GotT K mg "_law_same" 31)
    (t__law_exact : GotT K mg "_law_exact" 32)
    (t__law_is_told_thing : GotT K mg "_law_is_told_thing" 36)
    (t__law_is_told : GotT K mg "_law_is_told" 38)
    (t__law_odd_recipes : GotT K mg "_law_odd_recipes" 37)
    (t__law_refused_right : GotT K mg "_law_refused_right" 51)
    (t__law_recipe_line : GotT K mg "_law_recipe_line" 43)
    (t__law_lots_line : GotT K mg "_law_lots_line" 44)
    (t__law_number : GotT K mg "_law_number" 45)
    (t__law_numbers : GotT K mg "_law_numbers" 46)
    (t__law_lots_in : GotT K mg "_law_lots_in" 48)
    (t__law_recipe_in : GotT K mg "_law_recipe_in" 47)
    (t__law_read_right : GotT K mg "_law_read_right" 49)
    (t__law_mixed : GotT K mg "_law_mixed" 27)
    (t__law_draw : GotT K mg "_law_draw" 28)
    (t__law_one_of : GotT K mg "_law_one_of" 30)
    (t__law_row : GotT K mg "_law_row" 33)
    (t__law_drawn_lot : GotT K mg "_law_drawn_lot" 39)
    (t__law_recipe : GotT K mg "_law_recipe" 34)
    (t__law_great : GotT K mg "_law_great" 40)
    (t__law_made : GotT K mg "_law_made" 35)
    (t__law_purse : GotT K mg "_law_purse" 26)
    (t__law_purses : GotT K mg "_law_purses" 29)
    (t__law_bent : GotT K mg "_law_bent" 50)
    (FL : FnT K "law" 52 fl fdl) (FI : FnM K "__init__" "Recipe.__init__" 0 fI fdI) (mk : Mk K C fI) (FM : FnM K "many" "Recipe.many" 1 fM fdM) (hmM : Meth K C "many" fM) (FN : FnM K "needs" "Recipe.needs" 2 fNe fdN) (hmN : Meth K C "needs" fNe) (Fe : FnM K "__eq__" "Recipe.__eq__" 4 fE fde)
    (hse : PySem.W.findIn K (.ref C) "__eq__" = some (some (.ref fE))) (hfe : PySem.W.isFn K (.ref fE) = true) (hne : PySem.W.findIn K (.ref C) "__ne__" = some (some (.builtin "object.__ne__"))) (hso : PySem.W.subIn K (.ref C) (.type "object") = some true)
    (TN : ExT K mg "InvalidNeeds" CN fN) (TR : ExT K mg "InvalidRecipe" CR fR) (TL : ExT K mg "InvalidLots" CL fL) (TT : ExT K mg "InvalidText" CT fT) (PO : PrOk P) (gCC : mg "InvalidCount" = some (.ref CC)) (gCS : mg "CellsError" = some (.ref CS))
    (hxm : PySem.W.exmAny K (.ref CN) [.ref CC, .ref CN] = some true) (eR : ErrT K CS CR CL CT CR 0) (eL : ErrT K CS CR CL CT CL 1) (eT : ErrT K CS CR CL CT CT 2) (ds : Dst CR CL CT) (fr : Fr mg) (rc : RcT K mg C) :
    FnOk P w K mg base CX0 12 fl fdl ["_law_script"] (spLw K) := by
  have OM := ok_many (P := P) (w := w) (mg := mg) (base := base) FM rc
  have bM : Binds K fdM ["self"] [] := FM.bindsN fun _ _ _ _ _ _ us hl => match us, hl with | [_], _ => rfl
  have ON := ok_needs (P := P) (w := w) (mg := mg) (base := base) FN fr rc
  have bN : Binds K fdN ["self"] [] := FN.bindsN fun _ _ _ _ _ _ us hl => match us, hl with | [_], _ => rfl
  have OE := ok_eq (P := P) (w := w) (mg := mg) (base := base) Fe fr rc
  have bE : Binds K fde ["self", "other"] [] := Fe.bindsN fun _ _ _ _ _ _ us hl => match us, hl with | [_, _], _ => rfl
  have k_is_count : Kp P w K mg base CX0 1 "is_count" ["value"] (spCt C) := by
    obtain ⟨f, fd, F, g⟩ := t_is_count
    exact ⟨f, fd, ok_count F fr rc, g, F.kp, F.bindsN fun _ _ _ _ _ _ us hl => match us, hl with | [_], _ => rfl⟩
  have k_is_rising : Kp P w K mg base CX0 2 "is_rising" ["value", "many"] (spIr C) := by
    obtain ⟨f, fd, F, g⟩ := t_is_rising
    exact ⟨f, fd, ok_rising F k_is_count fr rc, g, F.kp, F.bindsN fun _ _ _ _ _ _ us hl => match us, hl with | [_, _], _ => rfl⟩
  have k_is_rising_list : Kp P w K mg base CX0 2 "is_rising_list" ["value"] (spIl C) := by
    obtain ⟨f, fd, F, g⟩ := t_is_rising_list
    exact ⟨f, fd, ok_rising_list F k_is_count fr rc, g, F.kp, F.bindsN fun _ _ _ _ _ _ us hl => match us, hl with | [_], _ => rfl⟩
  have k_numbers_in : Kp P w K mg base CX0 1 "numbers_in" ["line"] spNi := by
    obtain ⟨f, fd, F, g⟩ := t_numbers_in
    exact ⟨f, fd, ok_numbers F fr, g, F.kp, F.bindsN fun _ _ _ _ _ _ us hl => match us, hl with | [_], _ => rfl⟩
  have k_row_in : Kp P w K mg base CX0 2 "row_in" ["line"] spRi := by
    obtain ⟨f, fd, F, g⟩ := t_row_in
    exact ⟨f, fd, ok_row_in F k_numbers_in, g, F.kp, F.bindsN fun _ _ _ _ _ _ us hl => match us, hl with | [_], _ => rfl⟩
  have k_bits_of : Kp P w K mg base CX0 1 "bits_of" ["blocks"] (spBo K) := by
    obtain ⟨f, fd, F, g⟩ := t_bits_of
    exact ⟨f, fd, ok_bits F, g, F.kp, F.bindsN fun _ _ _ _ _ _ us hl => match us, hl with | [_], _ => rfl⟩
  have k_line_of : Kp P w K mg base CX0 1 "line_of" ["lot"] (spLo K) := by
    obtain ⟨f, fd, F, g⟩ := t_line_of
    exact ⟨f, fd, ok_line_of F fr, g, F.kp, F.bindsN fun _ _ _ _ _ _ us hl => match us, hl with | [_], _ => rfl⟩
  have k_lines_of : Kp P w K mg base CX0 1 "lines_of" ["recipe"] (spLi C) := by
    obtain ⟨f, fd, F, g⟩ := t_lines_of
    exact ⟨f, fd, ok_lines_of F fr rc, g, F.kp, F.bindsN fun _ _ _ _ _ _ us hl => match us, hl with | [_], _ => rfl⟩
  have OI : FnOk P w K mg base (L2N.CX P w) 3 fI fdI ["self", "many", "needs"] (spIn C CN) := ok_init FI TN PO k_is_count k_is_rising k_bits_of fr rc
  have bI : Binds K fdI ["self", "many", "needs"] [] := FI.bindsN fun _ _ _ _ _ _ us hl => match us, hl with | [_, _, _], _ => rfl
  have k_check_recipe : Kp P w K mg base (L2.CX P w) 2 "check_recipe" ["value"] (spCk C CR) := by
    obtain ⟨f, fd, F, g⟩ := t_check_recipe
    exact ⟨f, fd, ok_check F TR PO fr rc, g, F.kp, F.bindsN fun _ _ _ _ _ _ us hl => match us, hl with | [_], _ => rfl⟩
  have k_recipe_text : Kp P w K mg base (L2.CX P w) 3 "recipe_text" ["recipe"] (spRt C CR) := by
    obtain ⟨f, fd, F, g⟩ := t_recipe_text
    exact ⟨f, fd, ok_recipe_text F k_check_recipe k_lines_of, g, F.kp, F.bindsN fun _ _ _ _ _ _ us hl => match us, hl with | [_], _ => rfl⟩
  have kk_recipe_text : KpK P w K mg base (L2.CX P w) 3 "recipe_text" "recipe" (spRt C CR) := by
    obtain ⟨f, fd, F, g⟩ := t_recipe_text
    exact ⟨f, fd, ok_recipe_text F k_check_recipe k_lines_of, g, F.kp, binds1K F fun _ _ _ _ _ _ _ => rfl⟩
  have k_read_recipe : Kp P w K mg base (L2.CX P w) 5 "read_recipe" ["text"] (spRd C CT) := by
    obtain ⟨f, fd, F, g⟩ := t_read_recipe
    exact ⟨f, fd, ok_read_recipe F TT PO k_numbers_in k_row_in OI mk bI k_lines_of gCC TN.gC hxm fr rc, g, F.kp, F.bindsN fun _ _ _ _ _ _ us hl => match us, hl with | [_], _ => rfl⟩
  have kk_read_recipe : KpK P w K mg base (L2.CX P w) 5 "read_recipe" "text" (spRd C CT) := by
    obtain ⟨f, fd, F, g⟩ := t_read_recipe
    exact ⟨f, fd, ok_read_recipe F TT PO k_numbers_in k_row_in OI mk bI k_lines_of gCC TN.gC hxm fr rc, g, F.kp, binds1K F fun _ _ _ _ _ _ _ => rfl⟩
  have k_lots_text : Kp P w K mg base (L2.CX P w) 3 "lots_text" ["lots"] (spLt C CL) := by
    obtain ⟨f, fd, F, g⟩ := t_lots_text
    exact ⟨f, fd, ok_lots_text F TL PO k_is_rising_list k_line_of fr rc, g, F.kp, F.bindsN fun _ _ _ _ _ _ us hl => match us, hl with | [_], _ => rfl⟩
  have kk_lots_text : KpK P w K mg base (L2.CX P w) 3 "lots_text" "lots" (spLt C CL) := by
    obtain ⟨f, fd, F, g⟩ := t_lots_text
    exact ⟨f, fd, ok_lots_text F TL PO k_is_rising_list k_line_of fr rc, g, F.kp, binds1K F fun _ _ _ _ _ _ _ => rfl⟩
  have k_read_lots : Kp P w K mg base (L2.CX P w) 3 "read_lots" ["text"] (spRl C CT) := by
    obtain ⟨f, fd, F, g⟩ := t_read_lots
    exact ⟨f, fd, ok_read_lots F TT PO k_numbers_in k_is_rising_list k_line_of fr rc, g, F.kp, F.bindsN fun _ _ _ _ _ _ us hl => match us, hl with | [_], _ => rfl⟩
  have kk_read_lots : KpK P w K mg base (L2.CX P w) 3 "read_lots" "text" (spRl C CT) := by
    obtain ⟨f, fd, F, g⟩ := t_read_lots
    exact ⟨f, fd, ok_read_lots F TT PO k_numbers_in k_is_rising_list k_line_of fr rc, g, F.kp, binds1K F fun _ _ _ _ _ _ _ => rfl⟩
  have k__law_called : Kp P w K mg base (L2.CX P w) 6 "_law_called" ["_law_door", "_law_g"] (spCa C CR CL CT) := by
    obtain ⟨f, fd, F, g⟩ := t__law_called
    exact ⟨f, fd, ok_called F kk_recipe_text kk_read_recipe kk_lots_text kk_read_lots, g, F.kp, F.bindsN fun _ _ _ _ _ _ us hl => match us, hl with | [_, _], _ => rfl⟩
  have k__law_told : Kp P w K mg base CX0 7 "_law_told" ["_law_door", "_law_given"] (spTo C CR CL CT) := by
    obtain ⟨f, fd, F, g⟩ := t__law_told
    exact ⟨f, fd, ok_told F k__law_called gCS TR.gC TL.gC TT.gC eR eL eT fr, g, F.kp, F.bindsN fun _ _ _ _ _ _ us hl => match us, hl with | [_, _], _ => rfl⟩
  have k__law_same : Kp P w K mg base CX0 7 "_law_same" ["_law_thing"] (spSm C 6) := by
    obtain ⟨f, fd, F, g⟩ := t__law_same
    exact ⟨f, fd, ok_same F g fr rc 6, g, F.kp, F.bindsN fun _ _ _ _ _ _ us hl => match us, hl with | [_], _ => rfl⟩
  have k__law_exact : Kp P w K mg base CX0 8 "_law_exact" ["_law_mine", "_law_theirs"] (spEx C 6) := by
    obtain ⟨f, fd, F, g⟩ := t__law_exact
    exact ⟨f, fd, ok_exact F g Fe hse hfe fr rc 6, g, F.kp, F.bindsN fun _ _ _ _ _ _ us hl => match us, hl with | [_, _], _ => rfl⟩
  have k__law_is_told_thing : Kp P w K mg base CX0 9 "_law_is_told_thing" ["_law_told_here", "_law_odd"] (spTt C) := by
    obtain ⟨f, fd, F, g⟩ := t__law_is_told_thing
    exact ⟨f, fd, ok_told_thing F k__law_exact fr rc, g, F.kp, F.bindsN fun _ _ _ _ _ _ us hl => match us, hl with | [_, _], _ => rfl⟩
  have k__law_is_told : Kp P w K mg base CX0 10 "_law_is_told" ["_law_door", "_law_given", "_law_word", "_law_odd"] (spIt C CR CL CT) := by
    obtain ⟨f, fd, F, g⟩ := t__law_is_told
    exact ⟨f, fd, ok_is_told F k__law_same k__law_told k__law_exact k__law_is_told_thing, g, F.kp, F.bindsN fun _ _ _ _ _ _ us hl => match us, hl with | [_, _, _, _], _ => rfl⟩
  have k__law_odd_recipes : Kp P w K mg base CX0 2 "_law_odd_recipes" ["_law_made_here", "_law_recipe_here"] (spOr C) := by
    obtain ⟨f, fd, F, g⟩ := t__law_odd_recipes
    exact ⟨f, fd, ok_odd_recipes F hmN ON bN rc, g, F.kp, F.bindsN fun _ _ _ _ _ _ us hl => match us, hl with | [_, _], _ => rfl⟩
  have k__law_refused_right : Kp P w K mg base CX0 11 "_law_refused_right" ["_law_recipe_here", "_law_made_here"] (spRr C) := by
    obtain ⟨f, fd, F, g⟩ := t__law_refused_right
    exact ⟨f, fd, ok_refused F k__law_odd_recipes k__law_is_told fr ds, g, F.kp, F.bindsN fun _ _ _ _ _ _ us hl => match us, hl with | [_, _], _ => rfl⟩
  have k__law_recipe_line : Kp P w K mg base CX0 1 "_law_recipe_line" ["_law_recipe_here"] (spRn C) := by
    obtain ⟨f, fd, F, g⟩ := t__law_recipe_line
    exact ⟨f, fd, ok_recipe_line F fr, g, F.kp, F.bindsN fun _ _ _ _ _ _ us hl => match us, hl with | [_], _ => rfl⟩
  have k__law_lots_line : Kp P w K mg base CX0 1 "_law_lots_line" ["_law_lots"] (spLn C) := by
    obtain ⟨f, fd, F, g⟩ := t__law_lots_line
    exact ⟨f, fd, ok_lots_line F fr, g, F.kp, F.bindsN fun _ _ _ _ _ _ us hl => match us, hl with | [_], _ => rfl⟩
  have k__law_number : Kp P w K mg base CX0 1 "_law_number" ["_law_piece"] spNu := by
    obtain ⟨f, fd, F, g⟩ := t__law_number
    exact ⟨f, fd, ok_number F fr, g, F.kp, F.bindsN fun _ _ _ _ _ _ us hl => match us, hl with | [_], _ => rfl⟩
  have k__law_numbers : Kp P w K mg base CX0 2 "_law_numbers" ["_law_pieces"] (spNs K) := by
    obtain ⟨f, fd, F, g⟩ := t__law_numbers
    exact ⟨f, fd, ok_law_numbers F k__law_number fr, g, F.kp, F.bindsN fun _ _ _ _ _ _ us hl => match us, hl with | [_], _ => rfl⟩
  have k__law_lots_in : Kp P w K mg base CX0 3 "_law_lots_in" ["_law_text"] (spLi2 C) := by
    obtain ⟨f, fd, F, g⟩ := t__law_lots_in
    exact ⟨f, fd, ok_lots_in F k__law_numbers fr, g, F.kp, F.bindsN fun _ _ _ _ _ _ us hl => match us, hl with | [_], _ => rfl⟩
  have k__law_recipe_in : Kp P w K mg base CX0 3 "_law_recipe_in" ["_law_text"] (spRi2 C) := by
    obtain ⟨f, fd, F, g⟩ := t__law_recipe_in
    exact ⟨f, fd, ok_recipe_in F k__law_number k__law_numbers fr, g, F.kp, F.bindsN fun _ _ _ _ _ _ us hl => match us, hl with | [_], _ => rfl⟩
  have k__law_read_right : Kp P w K mg base CX0 9 "_law_read_right" ["_law_text"] spRR := by
    obtain ⟨f, fd, F, g⟩ := t__law_read_right
    exact ⟨f, fd, ok_read_right F k__law_recipe_in k__law_told k_read_recipe k__law_exact k__law_lots_in k_read_lots hmM OM bM hmN ON bN fr rc ds, g, F.kp, F.bindsN fun _ _ _ _ _ _ us hl => match us, hl with | [_], _ => rfl⟩
  have k__law_mixed : Kp P w K mg base CX0 1 "_law_mixed" ["_law_seed", "_law_spin", "_law_at"] spMi := by
    obtain ⟨f, fd, F, g⟩ := t__law_mixed
    exact ⟨f, fd, ok_mixed F fr, g, F.kp, F.bindsN fun _ _ _ _ _ _ us hl => match us, hl with | [_, _, _], _ => rfl⟩
  have k__law_draw : Kp P w K mg base CX0 2 "_law_draw" ["_law_purse_here", "_law_many"] spD := by
    obtain ⟨f, fd, F, g⟩ := t__law_draw
    exact ⟨f, fd, (ok_draw F k__law_mixed fr).imp draw_imp, g, F.kp, F.bindsN fun _ _ _ _ _ _ us hl => match us, hl with | [_, _], _ => rfl⟩
  have k__law_one_of : Kp P w K mg base CX0 3 "_law_one_of" ["_law_purse_here", "_law_some"] spOo := by
    obtain ⟨f, fd, F, g⟩ := t__law_one_of
    exact ⟨f, fd, ok_one_of F k__law_draw fr, g, F.kp, F.bindsN fun _ _ _ _ _ _ us hl => match us, hl with | [_, _], _ => rfl⟩
  have k__law_row : Kp P w K mg base CX0 3 "_law_row" ["_law_purse_here", "_law_old", "_law_way"] spRw := by
    obtain ⟨f, fd, F, g⟩ := t__law_row
    exact ⟨f, fd, ok_row F k__law_draw fr, g, F.kp, F.bindsN fun _ _ _ _ _ _ us hl => match us, hl with | [_, _, _], _ => rfl⟩
  have k__law_drawn_lot : Kp P w K mg base CX0 3 "_law_drawn_lot" ["_law_purse_here", "_law_recipe_here"] (spDl C) := by
    obtain ⟨f, fd, F, g⟩ := t__law_drawn_lot
    exact ⟨f, fd, ok_drawn_lot F k__law_draw fr, g, F.kp, F.bindsN fun _ _ _ _ _ _ us hl => match us, hl with | [_, _], _ => rfl⟩
  have k__law_recipe : Kp P w K mg base CX0 4 "_law_recipe" ["_law_purse_here", "_law_most_new", "_law_most_old"] (spRe C) := by
    obtain ⟨f, fd, F, g⟩ := t__law_recipe
    exact ⟨f, fd, ok_recipe F k__law_draw k__law_row k__law_one_of fr, g, F.kp, F.bindsN fun _ _ _ _ _ _ us hl => match us, hl with | [_, _, _], _ => rfl⟩
  have k__law_great : Kp P w K mg base CX0 5 "_law_great" ["_law_purse_here"] (spGr C) := by
    obtain ⟨f, fd, F, g⟩ := t__law_great
    exact ⟨f, fd, ok_great F k__law_recipe, g, F.kp, F.bindsN fun _ _ _ _ _ _ us hl => match us, hl with | [_], _ => rfl⟩
  have k__law_made : Kp P w K mg base CX0 5 "_law_made" ["_law_recipe_here"] (spMd C) := by
    obtain ⟨f, fd, F, g⟩ := t__law_made
    exact ⟨f, fd, ok_made F OI mk bI fr rc, g, F.kp, F.bindsN fun _ _ _ _ _ _ us hl => match us, hl with | [_], _ => rfl⟩
  have k__law_purse : Kp P w K mg base CX0 1 "_law_purse" ["_law_script", "_law_at"] (spPu K) := by
    obtain ⟨f, fd, F, g⟩ := t__law_purse
    exact ⟨f, fd, ok_purse F fr, g, F.kp, F.bindsN fun _ _ _ _ _ _ us hl => match us, hl with | [_, _], _ => rfl⟩
  have k__law_purses : Kp P w K mg base CX0 2 "_law_purses" ["_law_script", "_law_few"] (spPs K) := by
    obtain ⟨f, fd, F, g⟩ := t__law_purses
    exact ⟨f, fd, ok_purses F k__law_purse fr, g, F.kp, F.bindsN fun _ _ _ _ _ _ us hl => match us, hl with | [_, _], _ => rfl⟩
  have k__law_bent : Kp P w K mg base CX0 4 "_law_bent" ["_law_purse_here", "_law_text"] spBe := by
    obtain ⟨f, fd, F, g⟩ := t__law_bent
    exact ⟨f, fd, ok_bent F k__law_draw k__law_one_of fr, g, F.kp, F.bindsN fun _ _ _ _ _ _ us hl => match us, hl with | [_, _], _ => rfl⟩
  exact ok_law FL k__law_purses k__law_great k__law_made k__law_drawn_lot k__law_draw k__law_same k__law_exact k_recipe_text k_lots_text k__law_recipe_line k__law_lots_line k_read_recipe k_read_lots k__law_read_right k__law_bent k__law_refused_right OE hne hse hfe bE hso fr
end G

set_option maxHeartbeats 0
/-! The head: what the top leaves, as facts read by a Hook of our own. -/
namespace Hd
open PySem PySem.Spec PyProof.Rows L2
abbrev R : PySem.W.OpenRow := PySem.W.OpenLaw.row PySem.Challenge.rw_sparecells_k43_whole_papers
def top (i : Nat) : Stmt := PySem.Challenge.pw_sparecells_k43_whole_papers.main.body.getD i (.Pass ⟨0, 0, 0, 0⟩)
/-- a def of the top: its name and its place -/
def dT (x : Str) (i : Nat) : He.DefD := ⟨(x, none), x, x, defArgs (top i), defBody (top i), defScope (top i), [], []⟩
/-- a method of Recipe -/
def dM (m q : Str) (j : Nat) : He.DefD := ⟨("Recipe", some m), m, q, defArgs (inClass (top 14) j), defBody (inClass (top 14) j), defScope (inClass (top 14) j), [], []⟩
def fn : List He.DefD := [dT "is_count" 9, dT "is_rising" 10, dT "bits_of" 11, dT "numbers_in" 12, dM "__init__" "Recipe.__init__" 0, dM "many" "Recipe.many" 1, dM "needs" "Recipe.needs" 2, dM "__eq__" "Recipe.__eq__" 4,
  dT "check_recipe" 15, dT "lines_of" 17, dT "recipe_text" 18, dT "row_in" 19, dT "read_recipe" 20, dT "is_rising_list" 21, dT "line_of" 22, dT "lots_text" 23, dT "read_lots" 24]
def fn2 : List He.DefD := [dT "_law_purse" 26, dT "_law_mixed" 27, dT "_law_draw" 28, dT "_law_purses" 29, dT "_law_one_of" 30, dT "_law_same" 31, dT "_law_exact" 32, dT "_law_row" 33, dT "_law_recipe" 34, dT "_law_made" 35,
  dT "_law_is_told_thing" 36, dT "_law_odd_recipes" 37, dT "_law_is_told" 38, dT "_law_drawn_lot" 39, dT "_law_great" 40, dT "_law_called" 41, dT "_law_told" 42, dT "_law_recipe_line" 43, dT "_law_lots_line" 44,
  dT "_law_number" 45, dT "_law_numbers" 46, dT "_law_recipe_in" 47, dT "_law_lots_in" 48, dT "_law_read_right" 49, dT "_law_bent" 50, dT "_law_refused_right" 51, dT "law" 52]
/-! ### the plain facts -/
def fa : List He.Fa := [.glo "CellsError", .glo "Recipe", .cls "Recipe", .mkr "Recipe", .noat "Recipe" "old", .noat "Recipe" "rows", .noat "Recipe" "bits", .noat "Recipe" "known", .meth "Recipe" "many", .meth "Recipe" "needs", .meth "Recipe" "__eq__",
  .free "isinstance", .free "int", .free "bool", .free "list", .free "all", .free "range", .free "len", .free "str", .free "ValueError", .free "super"]
def fa2 : List He.Fa := [.free "sum", .free "max", .free "min", .free "dict", .free "tuple", .free "zip", .free "sorted", .free "any"]
def fa3 : List He.Fa := [.glo "is_count", .glo "is_rising", .glo "bits_of", .glo "numbers_in", .glo "check_recipe", .glo "lines_of", .glo "recipe_text", .glo "row_in", .glo "read_recipe", .glo "is_rising_list", .glo "line_of", .glo "lots_text", .glo "read_lots",
  .glo "_law_purse", .glo "_law_mixed", .glo "_law_draw", .glo "_law_purses", .glo "_law_one_of", .glo "_law_same", .glo "_law_exact", .glo "_law_row", .glo "_law_recipe", .glo "_law_made", .glo "_law_is_told_thing", .glo "_law_odd_recipes", .glo "_law_is_told", .glo "_law_drawn_lot",
  .glo "_law_great", .glo "_law_called", .glo "_law_told", .glo "_law_recipe_line", .glo "_law_lots_line", .glo "_law_number", .glo "_law_numbers", .glo "_law_recipe_in", .glo "_law_lots_in", .glo "_law_read_right", .glo "_law_bent", .glo "_law_refused_right", .glo "law"]
/-! ### the errors -/
def excNames : List Str := ["InvalidCount", "InvalidNeeds", "InvalidRecipe", "InvalidLots", "InvalidText"]
def eqV (a b : Option (Option Value)) : Bool := decide (a = b)
/-- the class at C, as its own objects are made -/
def clsB (K : PySem.W.Frag) (C : Addr) : Bool := match K.lookup C with
  | some ⟨.type "type", _, .cls cd, sl⟩ => (match cd.mro, sl.toList with
    | .ref C' :: bm, [_, _, _, _, some (.builtin n), _] => decide (C' = C) && (decide (n = "ValueError.__new__") && (!cd.hasDel && (cd.hasDict && PySem.HandSPX.refsVE bm)))
    | _, _ => false)
  | _ => false
def cellOf (K : PySem.W.Frag) (f : Addr) : Addr := match K.lookup f with
  | some ⟨_, _, .func fd, _⟩ => (match fd.closure with
    | [(_, c)] => c
    | _ => 0)
  | _ => 0
/-- the __init__ at f: its cell holds the class, its code names the file -/
def iniB (K : PySem.W.Frag) (f C : Addr) (q file : Str) : Bool := match K.lookup f with
  | some ⟨_, _, .func fd, _⟩ => (match fd.closure, fd.code with
    | [(_, c)], .ref cda => (match K.lookup c, K.lookup cda with
      | some ⟨_, _, .cell (some (.ref D)), _⟩, some ⟨_, _, .fields vs, _⟩ => decide (D = C) && (PySem.W.codeIn K fd.code q && (match vs.toList with
        | _ :: _ :: .str n _ :: _ => decide (n = file)
        | _ => false))
      | _, _ => false)
    | _, _ => false)
  | _ => false
/-- its one default is None -/
def dflB (K : PySem.W.Frag) (f : Addr) : Bool := match K.lookup f with
  | some ⟨_, _, .func fd, _⟩ => (match fd.defaults with
    | .ref T => (match K.lookup T with
      | some ⟨_, _, .seq its _, _⟩ => (match its.toList with
        | [.none] => true
        | _ => false)
      | _ => false)
    | _ => false)
  | _ => false
def excB (K : PySem.W.Frag) (x : Str) : Bool :=
  let C := He.ga K x
  let f := He.ma K C "__init__"
  [He.eqO (PySem.W.nsIn K mainGlobals x) (some (some (.ref C))), clsB K C,
   He.eqO (PySem.W.findIn K (.ref C) "__setattr__") (some (some (.builtin "object.__setattr__"))),
   He.eqO (PySem.W.findIn K (.ref C) "__getattribute__") (some (some (.builtin "BaseException.__getattribute__"))),
   He.eqO (PySem.W.findIn K (.ref C) "__getattr__") (some none),
   He.eqO (PySem.W.findIn K (.ref C) "value") (some none),
   He.eqO (PySem.W.findIn K (.ref C) "__class__") (some (some (.builtin "object.__class__"))),
   He.eqO (PySem.W.findIn K (.ref C) "__init__") (some (some (.ref f))),
   decide (PySem.W.typeIn K (.ref f) = some (.type "function")), PySem.W.keepIn K (.ref C), decide (PySem.W.subIn K (.ref C) (.type "BaseException") = some true),
   decide (PySem.W.subIn K (.ref C) (.type "ValueError") = some true), decide (PySem.W.typeIn K (.ref C) = some (.type "type")), PySem.W.hasDictIn K C,
   decide (PySem.W.mroIn K C (.type "object") = some true), decide (PySem.W.mroIn K C (.ref C) = some true),
   He.eqO (PySem.W.ks_superIn K C C "__init__") (some (some (.builtin "ValueError.__init__"))), iniB K f C (x ++ ".__init__") "/claim/cut.py",
   decide (PySem.W.kitOne K (.ref C) (.ref (He.ga K "InvalidRecipe")) = some (decide (x = "InvalidRecipe"))),
   decide (PySem.W.kitOne K (.ref C) (.ref (He.ga K "InvalidLots")) = some (decide (x = "InvalidLots"))),
   decide (PySem.W.kitOne K (.ref C) (.ref (He.ga K "InvalidText")) = some (decide (x = "InvalidText"))),
   decide (PySem.W.kitOne K (.ref C) (.type "ValueError") = some true),
   decide (PySem.W.exmOne K (.ref C) (.ref (He.ga K "CellsError")) = some true), dflB K f,
   decide (PySem.W.exmAny K (.ref C) [.ref (He.ga K "InvalidCount"), .ref (He.ga K "InvalidNeeds")] = some (decide (x = "InvalidCount") || decide (x = "InvalidNeeds")))].all id
/-- of all -/
def restB (K : PySem.W.Frag) : Bool := [He.eqO (PySem.W.specialIn K (.builtin "object.__class__") "__get__") (some (some (.builtin "getset_descriptor.__get__"))),
  decide (PySem.W.takesIn K (.builtin "object.__class__") = some true), He.eqO (PySem.W.nsIn K cStatics "thirdparty.any") (some none),
  decide (PySem.W.mroIn K (He.ga K "Recipe") (.type "object") = some true),
  decide (PySem.W.kitOne K (.ref (He.ga K "Recipe")) (.ref (He.ga K "Recipe")) = some true), decide (PySem.W.kitOne K (.ref (He.ga K "Recipe")) (.type "list") = some false),
  decide (PySem.W.kitOne K (.ref (He.ga K "Recipe")) (.type "tuple") = some false), decide (PySem.W.kitOne K (.ref (He.ga K "Recipe")) (.type "dict") = some false),
  decide (PySem.W.kitOne K (.ref (He.ga K "Recipe")) (.type "int") = some false), decide (PySem.W.kitOne K (.ref (He.ga K "Recipe")) (.type "bool") = some false),
  decide (PySem.W.kitOne K (.ref (He.ga K "Recipe")) (.type "str") = some false),
  decide (PySem.W.kitOne K (.type "NoneType") (.ref (He.ga K "Recipe")) = some false), decide (PySem.W.kitOne K (.type "int") (.ref (He.ga K "Recipe")) = some false), decide (PySem.W.kitOne K (.type "bool") (.ref (He.ga K "Recipe")) = some false),
  decide (PySem.W.kitOne K (.type "list") (.ref (He.ga K "Recipe")) = some false), decide (PySem.W.kitOne K (.type "tuple") (.ref (He.ga K "Recipe")) = some false), decide (PySem.W.kitOne K (.type "dict") (.ref (He.ga K "Recipe")) = some false),
  decide (PySem.W.kitOne K (.type "str") (.ref (He.ga K "Recipe")) = some false), decide (PySem.W.subIn K (.ref (He.ga K "Recipe")) (.type "object") = some true), decide (He.ga K "InvalidRecipe" ≠ He.ga K "InvalidLots"), decide (He.ga K "InvalidRecipe" ≠ He.ga K "InvalidText"), decide (He.ga K "InvalidLots" ≠ He.ga K "InvalidText"),
  He.eqO (PySem.W.findIn K (.ref (He.ga K "Recipe")) "__class__") (some (some (.builtin "object.__class__"))),
  He.eqO (PySem.W.findIn K (.ref (He.ga K "Recipe")) "__ne__") (some (some (.builtin "object.__ne__")))].all id
/-- the function objects of the errors' __init__ -/
abbrev FnC : Type := Option (Str × Str × Arguments × FuncBody × Scope × Addr × List Str × Addr)
def fnC (K : PySem.W.Frag) (x : Str) : FnC := match K.lookup (He.ma K (He.ga K x) "__init__") with
  | some ⟨_, _, .func fd, _⟩ => some (fd.name, fd.qualname, fd.params, fd.body, fd.scope, fd.globals, fd.closure.map (·.1), fd.builtins)
  | _ => none
def excI : List (Str × Nat) := [("InvalidCount", 3), ("InvalidNeeds", 4), ("InvalidRecipe", 5), ("InvalidLots", 6), ("InvalidText", 7)]
def valC (p : Str × Nat) : FnC := some ("__init__", p.1 ++ ".__init__", defArgs (inClass (top p.2) 0), .stmts (defBody (inClass (top p.2) 0)), defScope (inClass (top p.2) 0), mainGlobals, ["__class__"], builtinsNs)
/-! ### the Hook -/
abbrev Al : Type := (He.AlD × He.AlD) × (List Bool × Bool) × List FnC × He.AlD
def obsF (K : PySem.W.Frag) : Al := ((He.obsD fa fn K, He.obsD fa2 fn2 K), (excNames.map (excB K), restB K), excI.map (fun p => fnC K p.1), He.obsD fa3 [] K)
def valF : Al := ((He.valD fn, He.valD fn2), ([true, true, true, true, true], true), excI.map valC, He.valD [])
def Says (K : PySem.W.Frag) : Prop := obsF K = valF
def asF (g : Addr → Option Obj) : List Addr := cStatics :: He.asD g 5
def obsS (g : Addr → Option Obj) : Al := obsF (He.frG g (asF g))
def hk : PySem.W.Hook where
  α := Al
  obs := fun s => obsS s.heap.get?
  val := fun _ => valF
  says := fun _ h => ∃ K : PySem.W.Frag, K.In h ∧ Says K
  of := fun _ _ e => ⟨_, He.frG_in, e⟩
  keeps := fun _ _ _ ⟨K, hK, c⟩ k => ⟨K, PySem.W.Frag.In.keeps hK k, c⟩
def ob (s : PySem.W.SharedT) : Al := obsS (HandSHeadRun.getT s)
theorem ob_eq (s : PySem.W.SharedT) : ob s = hk.obs s.abs := by
  have e : HandSHeadRun.getT s = s.abs.heap.get? := funext (HandSHeadRun.getT_eq s)
  unfold ob
  rw [e]
  rfl
def n1 : List Str := ["_wall", "CellsError", "InvalidCount", "InvalidNeeds", "InvalidRecipe", "InvalidLots", "InvalidText", "is_count", "is_rising", "bits_of", "numbers_in", "Recipe", "check_recipe", "lines_of", "recipe_text", "row_in", "read_recipe", "is_rising_list", "line_of", "lots_text", "read_lots"]
def n2 : List Str := ["_law_purse", "_law_mixed", "_law_draw", "_law_purses", "_law_one_of", "_law_same", "_law_exact", "_law_row", "_law_recipe", "_law_made", "_law_is_told_thing", "_law_odd_recipes", "_law_is_told", "_law_drawn_lot", "_law_great", "_law_called", "_law_told", "_law_recipe_line", "_law_lots_line",
  "_law_number", "_law_numbers", "_law_recipe_in", "_law_lots_in", "_law_read_right", "_law_bent", "_law_refused_right"]
def names : List Str := n1 ++ n2
theorem run (w : World) : HandSHeadRun.RunEq R (PySem.W.view R.prog [52]) hk ob 4000 names w := by
  intro os
  kernel_rfl
end Hd


/-! What the head tells, as the walk takes it. -/
namespace G
open PySem PySem.Spec PyProof.Rows L2 Evl Tp RZ TL L2X StX
open PySem.ExX (ExT PrOk iA iB iS McEq)
theorem allAt {l : List Bool} (h : l.all id = true) (i : Nat) {b : Bool} (e : l[i]? = some b) : b = true := List.all_eq_true.mp h b (List.mem_of_getElem? e)
section
variable {K : PySem.W.Frag} {mg : Str → Option Value} {h : Heap}
def PosOk (i : Nat) : Prop := ∃ (p1 p2 p3 a1 a2 a3 a4 a5 b1 b2 b3 b4 : Pos), defArgs (inClass (Hd.top i) 0) = iA p1 p2 p3 ∧ defBody (inClass (Hd.top i) 0) = iB a1 a2 a3 a4 a5 b1 b2 b3 b4 ∧ defScope (inClass (Hd.top i) 0) = iS ∧ McEq a1 a2 a3 a4
theorem pos4 : PosOk 4 := ⟨_, _, _, _, _, _, _, _, _, _, _, _, rfl, rfl, rfl, fun env => ⟨_, rfl⟩⟩
theorem pos5 : PosOk 5 := ⟨_, _, _, _, _, _, _, _, _, _, _, _, rfl, rfl, rfl, fun env => ⟨_, rfl⟩⟩
theorem pos6 : PosOk 6 := ⟨_, _, _, _, _, _, _, _, _, _, _, _, rfl, rfl, rfl, fun env => ⟨_, rfl⟩⟩
theorem pos7 : PosOk 7 := ⟨_, _, _, _, _, _, _, _, _, _, _, _, rfl, rfl, rfl, fun env => ⟨_, rfl⟩⟩
theorem cls_of {C : Addr} (h : Hd.clsB K C = true) : ∃ nm q N bs bm sn sub ab col dd k0 k1 k2 k3 k5, K.lookup C = some (excClassObj nm q C N bs bm true sn sub ab col dd k0 k1 k2 k3 k5 "ValueError.__new__") ∧ PySem.HandSPX.refsVE bm = true := by
  unfold Hd.clsB at h
  split at h
  · rename_i dd cd sl hl
    split at h
    · rename_i C' bm k0 k1 k2 k3 n k5 hm hs
      obtain ⟨h1, h⟩ := Bool.and_eq_true_iff.mp h
      obtain ⟨h2, h⟩ := Bool.and_eq_true_iff.mp h
      obtain ⟨h3, h⟩ := Bool.and_eq_true_iff.mp h
      obtain ⟨h4, h5⟩ := Bool.and_eq_true_iff.mp h
      have h1 := of_decide_eq_true h1
      have h2 := of_decide_eq_true h2
      subst h1 h2
      obtain ⟨nm, bs, mro, N, q, hd, sn, sub, ab, col, del⟩ := cd
      have hm : mro = .ref C' :: bm := hm
      have g3 : (!del) = true := h3
      have g4 : hd = true := h4
      have g5 : del = false := by cases del <;> first | rfl | cases g3
      subst hm g5 g4
      have hs2 : sl = #[k0, k1, k2, k3, some (.builtin "ValueError.__new__"), k5] := by
        rw [← Array.toList_inj]
        exact hs
      subst hs2
      exact ⟨nm, q, N, bs, bm, sn, sub, ab, col, dd, k0, k1, k2, k3, k5, hl, h5⟩
    · cases h
  · cases h
theorem fn_of2 {x : Str} {i : Nat} (hf : Hd.fnC K x = Hd.valC (x, i)) (hi : Hd.iniB K (He.ma K (He.ga K x) "__init__") (He.ga K x) (x ++ ".__init__") "/claim/cut.py" = true) (hd : Hd.dflB K (He.ma K (He.ga K x) "__init__") = true) (po : PosOk i) :
    ∃ (oc : Value) (od : Option Addr) (osl : Array (Option Value)) (q : Str) (kV doc pm : Value) (an : Option Addr) (cda : Addr) (ct : Value) (cc T : Addr) (p1 p2 p3 a1 a2 a3 a4 a5 b1 b2 b3 b4 : Pos)
    (o1 o2 : Value) (d1 d2 : Option Addr) (s1 s2 : Array (Option Value)) (vs : Array Value) (tf : Tok) (oT : Obj) (n : Nat),
    K.lookup (He.ma K (He.ga K x) "__init__") = some ⟨oc, od, .func (PySem.W.fnX "__init__" q (iA p1 p2 p3) (iB a1 a2 a3 a4 a5 b1 b2 b3 b4) iS [("__class__", cc)] (.ref T) kV doc pm an (.ref cda) ct), osl⟩ ∧ PySem.W.codeIn K (.ref cda) q = true ∧
    K.lookup cda = some ⟨o1, d1, .fields vs, s1⟩ ∧ vs[2]? = some (.str "/claim/cut.py" tf) ∧ K.lookup cc = some ⟨o2, d2, .cell (some (.ref (He.ga K x))), s2⟩ ∧ K.lookup T = some oT ∧ oT.data = .seq #[.none] n ∧ McEq a1 a2 a3 a4 := by
  obtain ⟨p1, p2, p3, a1, a2, a3, a4, a5, b1, b2, b3, b4, e1, e2, e3, mc⟩ := po
  unfold Hd.fnC at hf
  unfold Hd.iniB at hi
  unfold Hd.dflB at hd
  generalize He.ma K (He.ga K x) "__init__" = f at hf hi hd
  split at hf
  · rename_i oc od fd osl hl
    rw [hl] at hi hd
    obtain ⟨name, qual, params, body, scope, globals, closure, defaults, kV, doc, pm, an, code, ct, bi⟩ := fd
    have hf : some (name, qual, params, body, scope, globals, closure.map (·.1), bi) = some (("__init__" : Str), x ++ (".__init__" : Str), defArgs (inClass (Hd.top i) 0), FuncBody.stmts (defBody (inClass (Hd.top i) 0)), defScope (inClass (Hd.top i) 0), mainGlobals, [("__class__" : Str)], builtinsNs) := hf
    rw [e1, e2, e3] at hf
    injection hf with hf
    injection hf with g1 hf
    injection hf with g2 hf
    injection hf with g3 hf
    injection hf with g4 hf
    injection hf with g5 hf
    injection hf with g6 hf
    injection hf with g7 g8
    subst g1 g2 g3 g4 g5 g6 g8
    dsimp only at hi hd
    split at hi
    · rename_i c0 c cda
      have g7 : c0 = ("__class__" : Str) := by
        have : [c0] = [("__class__" : Str)] := g7
        injection this
      subst g7
      split at hi
      · rename_i o2 d2 D s2 o1 d1 vs s1 hc hcd
        obtain ⟨k1, hi⟩ := Bool.and_eq_true_iff.mp hi
        obtain ⟨k2, k3⟩ := Bool.and_eq_true_iff.mp hi
        have k1 := of_decide_eq_true k1
        subst k1
        split at k3
        · rename_i z1 z2 nn tf rest hvs
          have k3 := of_decide_eq_true k3
          subst k3
          split at hd
          · rename_i T
            split at hd
            · rename_i oc3 od3 its n3 sl3 hT
              split at hd
              · rename_i hits
                refine ⟨oc, od, osl, x ++ ".__init__", kV, doc, pm, an, cda, ct, c, T, p1, p2, p3, a1, a2, a3, a4, a5, b1, b2, b3, b4, o1, o2, d1, d2, s1, s2, vs, tf, _, n3, hl, k2, hcd, ?_, hc, hT, ?_, mc⟩
                · rw [← Array.getElem?_toList, hvs]
                  rfl
                · show Data.seq its n3 = Data.seq #[.none] n3
                  congr 1
                  rw [← Array.toList_inj]
                  exact hits
              · cases hd
            · cases hd
          · cases hd
        · cases k3
      · cases hi
    · cases hi
  · cases hf
theorem ext_of {x : Str} {i : Nat} (X : K.In h) (G : h.Ns mainGlobals mg) (he : Hd.excB K x = true) (hr : Hd.restB K = true) (hs : mg "super" = none) (hf : Hd.fnC K x = Hd.valC (x, i)) (po : PosOk i) : ExT K mg x (He.ga K x) (He.ma K (He.ga K x) "__init__") where
  gC := PySem.W.mg_of X G (He.eqO_ok (allAt he 0 rfl))
  cls := cls_of (allAt he 1 rfl)
  sa := He.eqO_ok (allAt he 2 rfl)
  ga := He.eqO_ok (allAt he 3 rfl)
  gg := He.eqO_ok (allAt he 4 rfl)
  no := He.eqO_ok (allAt he 5 rfl)
  iC := He.eqO_ok (allAt he 7 rfl)
  tC := of_decide_eq_true (allAt he 8 rfl)
  kC := allAt he 9 rfl
  exC := of_decide_eq_true (allAt he 10 rfl)
  veC := of_decide_eq_true (allAt he 11 rfl)
  tyC := of_decide_eq_true (allAt he 12 rfl)
  hdC := allAt he 13 rfl
  mC := of_decide_eq_true (allAt he 15 rfl)
  su := He.eqO_ok (allAt he 16 rfl)
  op := He.eqO_ok (allAt hr 2 rfl)
  msup := hs
  fn := fn_of2 hf (allAt he 17 rfl) (allAt he 23 rfl) po
theorem err_of {x : Str} {j : Nat} (he : Hd.excB K x = true) (hr : Hd.restB K = true) (h0 : decide (x = "InvalidRecipe") = decide (j = 0)) (h1 : decide (x = "InvalidLots") = decide (j = 1)) (h2 : decide (x = "InvalidText") = decide (j = 2)) : ErrT K (He.ga K "CellsError") (He.ga K "InvalidRecipe") (He.ga K "InvalidLots") (He.ga K "InvalidText") (He.ga K x) j where
  exc := ⟨He.eqO_ok (allAt he 3 rfl), He.eqO_ok (allAt he 4 rfl), of_decide_eq_true (allAt he 10 rfl), allAt he 13 rfl, He.eqO_ok (allAt he 6 rfl), He.eqO_ok (allAt hr 0 rfl), of_decide_eq_true (allAt hr 1 rfl), of_decide_eq_true (allAt he 14 rfl)⟩
  xf := ⟨He.eqO_ok (allAt he 3 rfl), He.eqO_ok (allAt he 4 rfl), of_decide_eq_true (allAt he 10 rfl), allAt he 13 rfl⟩
  no := He.eqO_ok (allAt he 5 rfl)
  cells := of_decide_eq_true (allAt he 22 rfl)
  r := by rw [← h0]; exact of_decide_eq_true (allAt he 18 rfl)
  l := by rw [← h1]; exact of_decide_eq_true (allAt he 19 rfl)
  t := by rw [← h2]; exact of_decide_eq_true (allAt he 20 rfl)
  ve := of_decide_eq_true (allAt he 21 rfl)
end
end G



/-! The law holds. -/
namespace G
open PySem PySem.Spec PyProof.Rows L2 Evl Tp RZ TL L2X StX
open PySem.ExX (ExT PrOk)
theorem facts {P : Program} {w : World} {K : PySem.W.Frag} {h : Heap} {mg : Str → Option Value} {f : Addr} (X : K.In h) (G : h.Ns mainGlobals mg) (hfa : mg ("law" : Str) = some (.ref f)) (c : Hd.Says K) (PO : PrOk P) :
    ∃ fd : FuncData, (∀ (s : Shared) (v : Value), BindsTo s fd ⟨[v], []⟩ [("_law_script", v)]) ∧ ∀ base : Heap, K.In base → base.Ns mainGlobals mg → FnOk P w K mg base CX0 12 f fd ["_law_script"] (spLw K) := by
  have c1 : He.SaysD Hd.fa Hd.fn K := show He.obsD Hd.fa Hd.fn K = He.valD Hd.fn from congrArg (fun a : Hd.Al => a.1.1) c
  have c2 : He.SaysD Hd.fa2 Hd.fn2 K := show He.obsD Hd.fa2 Hd.fn2 K = He.valD Hd.fn2 from congrArg (fun a : Hd.Al => a.1.2) c
  have c3 : He.SaysD Hd.fa3 [] K := show He.obsD Hd.fa3 [] K = He.valD [] from congrArg (fun a : Hd.Al => a.2.2.2) c
  have eE : [Hd.excB K "InvalidCount", Hd.excB K "InvalidNeeds", Hd.excB K "InvalidRecipe", Hd.excB K "InvalidLots", Hd.excB K "InvalidText"] = [true, true, true, true, true] := congrArg (fun a : Hd.Al => a.2.1.1) c
  have hr : Hd.restB K = true := congrArg (fun a : Hd.Al => a.2.1.2) c
  have eC : [Hd.fnC K "InvalidCount", Hd.fnC K "InvalidNeeds", Hd.fnC K "InvalidRecipe", Hd.fnC K "InvalidLots", Hd.fnC K "InvalidText"] = [Hd.valC ("InvalidCount", 3), Hd.valC ("InvalidNeeds", 4), Hd.valC ("InvalidRecipe", 5), Hd.valC ("InvalidLots", 6), Hd.valC ("InvalidText", 7)] := congrArg (fun a : Hd.Al => a.2.2.1) c
  injection eE with x0 eE
  injection eE with x1 eE
  injection eE with x2 eE
  injection eE with x3 eE
  injection eE with x4 eE
  injection eC with y0 eC
  injection eC with y1 eC
  injection eC with y2 eC
  injection eC with y3 eC
  injection eC with y4 eC
  have hs : mg "super" = none := He.free_ok X G (c1.fact 20 (f := .free "super") rfl)
  have fr : Tp.Fr mg := ⟨He.free_ok X G (c1.fact 11 (f := .free "isinstance") rfl), He.free_ok X G (c1.fact 12 (f := .free "int") rfl), He.free_ok X G (c1.fact 13 (f := .free "bool") rfl), He.free_ok X G (c1.fact 14 (f := .free "list") rfl), He.free_ok X G (c2.fact 4 (f := .free "tuple") rfl),
    He.free_ok X G (c2.fact 3 (f := .free "dict") rfl), He.free_ok X G (c1.fact 18 (f := .free "str") rfl), He.free_ok X G (c1.fact 15 (f := .free "all") rfl), He.free_ok X G (c2.fact 7 (f := .free "any") rfl), He.free_ok X G (c1.fact 16 (f := .free "range") rfl), He.free_ok X G (c1.fact 17 (f := .free "len") rfl),
    He.free_ok X G (c2.fact 0 (f := .free "sum") rfl), He.free_ok X G (c2.fact 1 (f := .free "max") rfl), He.free_ok X G (c2.fact 2 (f := .free "min") rfl), He.free_ok X G (c2.fact 5 (f := .free "zip") rfl), He.free_ok X G (c2.fact 6 (f := .free "sorted") rfl), He.free_ok X G (c1.fact 19 (f := .free "ValueError") rfl)⟩
  have rc : RcT K mg (He.ga K "Recipe") := ⟨He.glo_ok X G (c1.fact 1 (f := .glo "Recipe") rfl), He.cls_ok (c1.fact 2 (f := .cls "Recipe") rfl), He.eqO_ok (allAt hr 22 rfl), He.eqO_ok (allAt hr 0 rfl), of_decide_eq_true (allAt hr 1 rfl), of_decide_eq_true (allAt hr 3 rfl), of_decide_eq_true (allAt hr 4 rfl),
    (fun T hT => by
      simp only [List.mem_cons, List.not_mem_nil, or_false] at hT
      rcases hT with rfl | rfl | rfl | rfl | rfl | rfl
      · exact of_decide_eq_true (allAt hr 8 rfl)
      · exact of_decide_eq_true (allAt hr 9 rfl)
      · exact of_decide_eq_true (allAt hr 5 rfl)
      · exact of_decide_eq_true (allAt hr 6 rfl)
      · exact of_decide_eq_true (allAt hr 7 rfl)
      · exact of_decide_eq_true (allAt hr 10 rfl)),
    (fun T hT => by
      simp only [List.mem_cons, List.not_mem_nil, or_false] at hT
      rcases hT with rfl | rfl | rfl | rfl | rfl | rfl | rfl
      · exact of_decide_eq_true (allAt hr 11 rfl)
      · exact of_decide_eq_true (allAt hr 12 rfl)
      · exact of_decide_eq_true (allAt hr 13 rfl)
      · exact of_decide_eq_true (allAt hr 14 rfl)
      · exact of_decide_eq_true (allAt hr 15 rfl)
      · exact of_decide_eq_true (allAt hr 16 rfl)
      · exact of_decide_eq_true (allAt hr 17 rfl)),
    He.noat_ok (c1.fact 4 (f := .noat "Recipe" "old") rfl), He.noat_ok (c1.fact 5 (f := .noat "Recipe" "rows") rfl), He.noat_ok (c1.fact 6 (f := .noat "Recipe" "bits") rfl), He.noat_ok (c1.fact 7 (f := .noat "Recipe" "known") rfl), He.eqO_ok (allAt hr 23 rfl)⟩
  have TN := ext_of X G x1 hr hs y1 pos4
  have TR := ext_of X G x2 hr hs y2 pos5
  have TL := ext_of X G x3 hr hs y3 pos6
  have TT := ext_of X G x4 hr hs y4 pos7
  have eR := err_of (x := "InvalidRecipe") (j := 0) x2 hr (by decide +kernel) (by decide +kernel) (by decide +kernel)
  have eL := err_of (x := "InvalidLots") (j := 1) x3 hr (by decide +kernel) (by decide +kernel) (by decide +kernel)
  have eT := err_of (x := "InvalidText") (j := 2) x4 hr (by decide +kernel) (by decide +kernel) (by decide +kernel)
  have ds : Dst (He.ga K "InvalidRecipe") (He.ga K "InvalidLots") (He.ga K "InvalidText") := ⟨of_decide_eq_true (allAt hr 19 rfl), of_decide_eq_true (allAt hr 20 rfl), of_decide_eq_true (allAt hr 21 rfl)⟩
  have gCC : mg "InvalidCount" = some (.ref (He.ga K "InvalidCount")) := PySem.W.mg_of X G (He.eqO_ok (allAt x0 0 rfl))
  have gCS : mg "CellsError" = some (.ref (He.ga K "CellsError")) := He.glo_ok X G (c1.fact 0 (f := .glo "CellsError") rfl)
  have hxm : PySem.W.exmAny K (.ref (He.ga K "InvalidNeeds")) [.ref (He.ga K "InvalidCount"), .ref (He.ga K "InvalidNeeds")] = some true := (of_decide_eq_true (allAt x1 24 rfl)).trans (by decide +kernel)
  have mE := He.meth_ok (c1.fact 10 (f := .meth "Recipe" "__eq__") rfl)
  obtain ⟨fdI, FI⟩ := c1.def_ 4 (d := Hd.dM "__init__" "Recipe.__init__" 0) rfl
  obtain ⟨fdM, FM⟩ := c1.def_ 5 (d := Hd.dM "many" "Recipe.many" 1) rfl
  obtain ⟨fdN, FN⟩ := c1.def_ 6 (d := Hd.dM "needs" "Recipe.needs" 2) rfl
  obtain ⟨fdE, FE⟩ := c1.def_ 7 (d := Hd.dM "__eq__" "Recipe.__eq__" 4) rfl
  obtain ⟨fd, F⟩ := c2.def_ 26 (d := Hd.dT "law" 52) rfl
  have e := hfa.symm.trans (He.glo_ok X G (c3.fact 39 (f := .glo "law") rfl))
  cases e
  have b := FunD.bindsA (ps := ["_law_script"]) F fun _ _ _ _ _ _ us hl => match us, hl with | [_], _ => rfl
  have t_is_count : GotT K mg "is_count" 9 := by
    obtain ⟨fd, F⟩ := c1.def_ 0 (d := Hd.dT "is_count" 9) rfl
    exact ⟨_, fd, F, He.glo_ok X G (c3.fact 0 (f := .glo "is_count") rfl)⟩
  have t_is_rising : GotT K mg "is_rising" 10 := by
    obtain ⟨fd, F⟩ := c1.def_ 1 (d := Hd.dT "is_rising" 10) rfl
    exact ⟨_, fd, F, He.glo_ok X G (c3.fact 1 (f := .glo "is_rising") rfl)⟩
  have t_is_rising_list : GotT K mg "is_rising_list" 21 := by
    obtain ⟨fd, F⟩ := c1.def_ 13 (d := Hd.dT "is_rising_list" 21) rfl
    exact ⟨_, fd, F, He.glo_ok X G (c3.fact 9 (f := .glo "is_rising_list") rfl)⟩
  have t_numbers_in : GotT K mg "numbers_in" 12 := by
    obtain ⟨fd, F⟩ := c1.def_ 3 (d := Hd.dT "numbers_in" 12) rfl
    exact ⟨_, fd, F, He.glo_ok X G (c3.fact 3 (f := .glo "numbers_in") rfl)⟩
  have t_row_in : GotT K mg "row_in" 19 := by
    obtain ⟨fd, F⟩ := c1.def_ 11 (d := Hd.dT "row_in" 19) rfl
    exact ⟨_, fd, F, He.glo_ok X G (c3.fact 7 (f := .glo "row_in") rfl)⟩
  have t_bits_of : GotT K mg "bits_of" 11 := by
    obtain ⟨fd, F⟩ := c1.def_ 2 (d := Hd.dT "bits_of" 11) rfl
    exact ⟨_, fd, F, He.glo_ok X G (c3.fact 2 (f := .glo "bits_of") rfl)⟩
  have t_line_of : GotT K mg "line_of" 22 := by
    obtain ⟨fd, F⟩ := c1.def_ 14 (d := Hd.dT "line_of" 22) rfl
    exact ⟨_, fd, F, He.glo_ok X G (c3.fact 10 (f := .glo "line_of") rfl)⟩
  have t_lines_of : GotT K mg "lines_of" 17 := by
    obtain ⟨fd, F⟩ := c1.def_ 9 (d := Hd.dT "lines_of" 17) rfl
    exact ⟨_, fd, F, He.glo_ok X G (c3.fact 5 (f := .glo "lines_of") rfl)⟩
  have t_check_recipe : GotT K mg "check_recipe" 15 := by
    obtain ⟨fd, F⟩ := c1.def_ 8 (d := Hd.dT "check_recipe" 15) rfl
    exact ⟨_, fd, F, He.glo_ok X G (c3.fact 4 (f := .glo "check_recipe") rfl)⟩
  have t_recipe_text : GotT K mg "recipe_text" 18 := by
    obtain ⟨fd, F⟩ := c1.def_ 10 (d := Hd.dT "recipe_text" 18) rfl
    exact ⟨_, fd, F, He.glo_ok X G (c3.fact 6 (f := .glo "recipe_text") rfl)⟩
  have t_read_recipe : GotT K mg "read_recipe" 20 := by
    obtain ⟨fd, F⟩ := c1.def_ 12 (d := Hd.dT "read_recipe" 20) rfl
    exact ⟨_, fd, F, He.glo_ok X G (c3.fact 8 (f := .glo "read_recipe") rfl)⟩
  have t_lots_text : GotT K mg "lots_text" 23 := by
    obtain ⟨fd, F⟩ := c1.def_ 15 (d := Hd.dT "lots_text" 23) rfl
    exact ⟨_, fd, F, He.glo_ok X G (c3.fact 11 (f := .glo "lots_text") rfl)⟩
  have t_read_lots : GotT K mg "read_lots" 24 := by
    obtain ⟨fd, F⟩ := c1.def_ 16 (d := Hd.dT "read_lots" 24) rfl
    exact ⟨_, fd, F, He.glo_ok X G (c3.fact 12 (f := .glo "read_lots") rfl)⟩
  have t__law_called : GotT K mg "_law_called" 41 := by
    obtain ⟨fd, F⟩ := c2.def_ 15 (d := Hd.dT "_law_called" 41) rfl
    exact ⟨_, fd, F, He.glo_ok X G (c3.fact 28 (f := .glo "_law_called") rfl)⟩
  have t__law_told : GotT K mg "_law_told" 42 := by
    obtain ⟨fd, F⟩ := c2.def_ 16 (d := Hd.dT "_law_told" 42) rfl
    exact ⟨_, fd, F, He.glo_ok X G (c3.fact 29 (f := .glo "_law_told") rfl)⟩
  have t__law_same : GotT K mg "_law_same" 31 := by
    obtain ⟨fd, F⟩ := c2.def_ 5 (d := Hd.dT "_law_same" 31) rfl
    exact ⟨_, fd, F, He.glo_ok X G (c3.fact 18 (f := .glo "_law_same") rfl)⟩
  have t__law_exact : GotT K mg "_law_exact" 32 := by
    obtain ⟨fd, F⟩ := c2.def_ 6 (d := Hd.dT "_law_exact" 32) rfl
    exact ⟨_, fd, F, He.glo_ok X G (c3.fact 19 (f := .glo "_law_exact") rfl)⟩
  have t__law_is_told_thing : GotT K mg "_law_is_told_thing" 36 := by
    obtain ⟨fd, F⟩ := c2.def_ 10 (d := Hd.dT "_law_is_told_thing" 36) rfl
    exact ⟨_, fd, F, He.glo_ok X G (c3.fact 23 (f := .glo "_law_is_told_thing") rfl)⟩
  have t__law_is_told : GotT K mg "_law_is_told" 38 := by
    obtain ⟨fd, F⟩ := c2.def_ 12 (d := Hd.dT "_law_is_told" 38) rfl
    exact ⟨_, fd, F, He.glo_ok X G (c3.fact 25 (f := .glo "_law_is_told") rfl)⟩
  have t__law_odd_recipes : GotT K mg "_law_odd_recipes" 37 := by
    obtain ⟨fd, F⟩ := c2.def_ 11 (d := Hd.dT "_law_odd_recipes" 37) rfl
    exact ⟨_, fd, F, He.glo_ok X G (c3.fact 24 (f := .glo "_law_odd_recipes") rfl)⟩
  have t__law_refused_right : GotT K mg "_law_refused_right" 51 := by
    obtain ⟨fd, F⟩ := c2.def_ 25 (d := Hd.dT "_law_refused_right" 51) rfl
    exact ⟨_, fd, F, He.glo_ok X G (c3.fact 38 (f := .glo "_law_refused_right") rfl)⟩
  have t__law_recipe_line : GotT K mg "_law_recipe_line" 43 := by
    obtain ⟨fd, F⟩ := c2.def_ 17 (d := Hd.dT "_law_recipe_line" 43) rfl
    exact ⟨_, fd, F, He.glo_ok X G (c3.fact 30 (f := .glo "_law_recipe_line") rfl)⟩
  have t__law_lots_line : GotT K mg "_law_lots_line" 44 := by
    obtain ⟨fd, F⟩ := c2.def_ 18 (d := Hd.dT "_law_lots_line" 44) rfl
    exact ⟨_, fd, F, He.glo_ok X G (c3.fact 31 (f := .glo "_law_lots_line") rfl)⟩
  have t__law_number : GotT K mg "_law_number" 45 := by
    obtain ⟨fd, F⟩ := c2.def_ 19 (d := Hd.dT "_law_number" 45) rfl
    exact ⟨_, fd, F, He.glo_ok X G (c3.fact 32 (f := .glo "_law_number") rfl)⟩
  have t__law_numbers : GotT K mg "_law_numbers" 46 := by
    obtain ⟨fd, F⟩ := c2.def_ 20 (d := Hd.dT "_law_numbers" 46) rfl
    exact ⟨_, fd, F, He.glo_ok X G (c3.fact 33 (f := .glo "_law_numbers") rfl)⟩
  have t__law_lots_in : GotT K mg "_law_lots_in" 48 := by
    obtain ⟨fd, F⟩ := c2.def_ 22 (d := Hd.dT "_law_lots_in" 48) rfl
    exact ⟨_, fd, F, He.glo_ok X G (c3.fact 35 (f := .glo "_law_lots_in") rfl)⟩
  have t__law_recipe_in : GotT K mg "_law_recipe_in" 47 := by
    obtain ⟨fd, F⟩ := c2.def_ 21 (d := Hd.dT "_law_recipe_in" 47) rfl
    exact ⟨_, fd, F, He.glo_ok X G (c3.fact 34 (f := .glo "_law_recipe_in") rfl)⟩
  have t__law_read_right : GotT K mg "_law_read_right" 49 := by
    obtain ⟨fd, F⟩ := c2.def_ 23 (d := Hd.dT "_law_read_right" 49) rfl
    exact ⟨_, fd, F, He.glo_ok X G (c3.fact 36 (f := .glo "_law_read_right") rfl)⟩
  have t__law_mixed : GotT K mg "_law_mixed" 27 := by
    obtain ⟨fd, F⟩ := c2.def_ 1 (d := Hd.dT "_law_mixed" 27) rfl
    exact ⟨_, fd, F, He.glo_ok X G (c3.fact 14 (f := .glo "_law_mixed") rfl)⟩
  have t__law_draw : GotT K mg "_law_draw" 28 := by
    obtain ⟨fd, F⟩ := c2.def_ 2 (d := Hd.dT "_law_draw" 28) rfl
    exact ⟨_, fd, F, He.glo_ok X G (c3.fact 15 (f := .glo "_law_draw") rfl)⟩
  have t__law_one_of : GotT K mg "_law_one_of" 30 := by
    obtain ⟨fd, F⟩ := c2.def_ 4 (d := Hd.dT "_law_one_of" 30) rfl
    exact ⟨_, fd, F, He.glo_ok X G (c3.fact 17 (f := .glo "_law_one_of") rfl)⟩
  have t__law_row : GotT K mg "_law_row" 33 := by
    obtain ⟨fd, F⟩ := c2.def_ 7 (d := Hd.dT "_law_row" 33) rfl
    exact ⟨_, fd, F, He.glo_ok X G (c3.fact 20 (f := .glo "_law_row") rfl)⟩
  have t__law_drawn_lot : GotT K mg "_law_drawn_lot" 39 := by
    obtain ⟨fd, F⟩ := c2.def_ 13 (d := Hd.dT "_law_drawn_lot" 39) rfl
    exact ⟨_, fd, F, He.glo_ok X G (c3.fact 26 (f := .glo "_law_drawn_lot") rfl)⟩
  have t__law_recipe : GotT K mg "_law_recipe" 34 := by
    obtain ⟨fd, F⟩ := c2.def_ 8 (d := Hd.dT "_law_recipe" 34) rfl
    exact ⟨_, fd, F, He.glo_ok X G (c3.fact 21 (f := .glo "_law_recipe") rfl)⟩
  have t__law_great : GotT K mg "_law_great" 40 := by
    obtain ⟨fd, F⟩ := c2.def_ 14 (d := Hd.dT "_law_great" 40) rfl
    exact ⟨_, fd, F, He.glo_ok X G (c3.fact 27 (f := .glo "_law_great") rfl)⟩
  have t__law_made : GotT K mg "_law_made" 35 := by
    obtain ⟨fd, F⟩ := c2.def_ 9 (d := Hd.dT "_law_made" 35) rfl
    exact ⟨_, fd, F, He.glo_ok X G (c3.fact 22 (f := .glo "_law_made") rfl)⟩
  have t__law_purse : GotT K mg "_law_purse" 26 := by
    obtain ⟨fd, F⟩ := c2.def_ 0 (d := Hd.dT "_law_purse" 26) rfl
    exact ⟨_, fd, F, He.glo_ok X G (c3.fact 13 (f := .glo "_law_purse") rfl)⟩
  have t__law_purses : GotT K mg "_law_purses" 29 := by
    obtain ⟨fd, F⟩ := c2.def_ 3 (d := Hd.dT "_law_purses" 29) rfl
    exact ⟨_, fd, F, He.glo_ok X G (c3.fact 16 (f := .glo "_law_purses") rfl)⟩
  have t__law_bent : GotT K mg "_law_bent" 50 := by
    obtain ⟨fd, F⟩ := c2.def_ 24 (d := Hd.dT "_law_bent" 50) rfl
    exact ⟨_, fd, F, He.glo_ok X G (c3.fact 37 (f := .glo "_law_bent") rfl)⟩
  exact ⟨fd, fun s v => b s [v] rfl, fun base _ _ => chain t_is_count t_is_rising t_is_rising_list t_numbers_in t_row_in t_bits_of t_line_of t_lines_of t_check_recipe t_recipe_text t_read_recipe t_lots_text t_read_lots t__law_called t__law_told t__law_same t__law_exact t__law_is_told_thing t__law_is_told t__law_odd_recipes t__law_refused_right t__law_recipe_line t__law_lots_line t__law_number t__law_numbers t__law_lots_in t__law_recipe_in t__law_read_right t__law_mixed t__law_draw t__law_one_of t__law_row t__law_drawn_lot t__law_recipe t__law_great t__law_made t__law_purse t__law_purses t__law_bent F FI (He.mkr_ok (c1.fact 3 (f := .mkr "Recipe") rfl)) FM (He.meth_ok (c1.fact 8 (f := .meth "Recipe" "many") rfl)) FN (He.meth_ok (c1.fact 9 (f := .meth "Recipe" "needs") rfl)) FE mE.at_ mE.fn rc.ne (of_decide_eq_true (allAt hr 18 rfl)) TN TR TL TT PO gCC gCS hxm eR eL eT ds fr rc⟩
theorem pr_ok : PrOk PySem.Challenge.pw_sparecells_k43_whole_papers := ⟨by decide +kernel, by decide +kernel⟩
end G
open PySem PySem.W PySem.Calls PyProof.Rows
theorem PySem.Challenge.cw_sparecells_k43_whole_papers_holds : PySem.Challenge.rw_sparecells_k43_whole_papers.Holds := by
  w_on; o_law
  refine HandSHeadRun.head_any (r := OpenLaw.row PySem.Challenge.rw_sparecells_k43_whole_papers) (q := view (OpenLaw.row PySem.Challenge.rw_sparecells_k43_whole_papers).prog [52]) (H := Hd.hk) (ob := Hd.ob) (M := 4000) (loose := Hd.names) (d := HandSHeadRun.topDef (OpenLaw.row PySem.Challenge.rw_sparecells_k43_whole_papers).prog 52) (kwd := []) Hd.ob_eq
    (by kernel_rfl) (fun s => by kernel_rfl) Hd.run (by kernel_rfl) (by kernel_rfl) (by kernel_rfl) (by rfl) (by first | assumption | decide +kernel) (by decide +kernel) ⟨rfl, rfl, rfl, rfl, rfl, by decide +kernel⟩ ?hw ?hc
  case hw => w_witness2
  case hc =>
    refine L2.walk_ofE (l := PySem.Challenge.rw_sparecells_k43_whole_papers) (n := 63) (k := 12) (x := "_law_script") (CX := L2.CX0) rfl (by decide) (by kernel_rfl) ⟨rfl, by decide, by decide⟩ ?F (fun _ _ _ _ z => z)
    intro w mg fa h Y GG hmg0
    obtain ⟨K, KX, c⟩ := Y
    have hmg : mg ("law" : PySem.Str) = some (.ref fa) := by
      have e : (HandSHeadRun.topDef (OpenLaw.row PySem.Challenge.rw_sparecells_k43_whole_papers).prog 52).name = ("law" : PySem.Str) := by kernel_rfl
      rw [← e]
      exact hmg0
    obtain ⟨fd, hb, hF⟩ := G.facts (P := (PySem.Challenge.rw_sparecells_k43_whole_papers).prog) (w := w) KX GG hmg c G.pr_ok
    exact ⟨K, fd, G.spLw K, KX, hb, fun H a ns hl _ hS => ⟨a, ns, rfl, hS, fun _ => rfl⟩, hF⟩
