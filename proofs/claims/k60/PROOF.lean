import PyProof.Rows.All
import PySem.Challenge.RW_lostweights_k60_whole_texts
import HandS.ForMost
import Wide.All
import OpenK.AllK
import Wide.FinOn
import HandS.Codes
import KE.KExcIs
import HandS.Exc
import HandS.ExcField
import KE.KStateDown
import HandS.ExcInit
import HandS.More
import HandS.Defaults
import HandS.Lambda
import HandS.Head0
import HandS.Head1
import HandS.Head2
import HandS.HeadEnd
import HandS.HeadHook1
import HandS.HeadHook2
import HandS.HeadHook3
import HandS.HeadHook4
import HandS.HeadWalk
import PyProof.GenCompD
import KE.GoesEnum
import HandS.AnyAll
import HandS.IsInst
import PyProof.EnumMake
import HandS.Zip
import HandS.SortInts
import HandS.TupAny
import HandS.DeepEq
import HandS.RaiseMore
import HandS.TryOnly
import HandS.ExcOwn
import HandS.WordsExc
import KE.KTupSum
import HandS.Walk
import HandS.Set
import HandS.SetFor
import HandS.Strs
set_option Elab.async false
set_option linter.all false
set_option maxRecDepth 100000
/-! The program's top by places. -/
namespace Kt
open PySem L2
def top (i : Nat) : Stmt := PySem.Challenge.pw_lostweights_k60_whole_texts.main.body.getD i (.Pass ⟨0, 0, 0, 0⟩)
abbrev sIniBox : Stmt := inClass (top 2) 0
abbrev sIniOrd : Stmt := inClass (top 4) 0
abbrev sIniLine : Stmt := inClass (top 5) 0
abbrev sIsNum : Stmt := top 9
abbrev sNeedBox : Stmt := top 10
abbrev sIsLoss : Stmt := top 12
abbrev sNeedLoss : Stmt := top 13
abbrev sIsOrder : Stmt := top 19
abbrev sNeedOrders : Stmt := top 20
abbrev sLineOf : Stmt := top 21
abbrev sBoxText : Stmt := top 22
abbrev sLossText : Stmt := top 23
abbrev sOrdersText : Stmt := top 24
abbrev sLinesOf : Stmt := top 25
abbrev sNumberOf : Stmt := top 26
abbrev sNumbersOf : Stmt := top 27
abbrev sBoxIn : Stmt := top 28
abbrev sOrderIn : Stmt := top 29
abbrev sReadBox : Stmt := top 30
abbrev sReadLoss : Stmt := top 31
abbrev sReadOrders : Stmt := top 32
abbrev sTaken : Stmt := top 34
abbrev sPick : Stmt := top 35
abbrev sAlike : Stmt := top 36
abbrev sLBox : Stmt := top 37
abbrev sSome : Stmt := top 38
abbrev sLLine : Stmt := top 39
abbrev sLOrders : Stmt := top 40
abbrev sError : Stmt := top 41
abbrev sLNumbers : Stmt := top 42
abbrev sLLines : Stmt := top 43
abbrev sLBoxIn : Stmt := top 44
abbrev sLOrderIn : Stmt := top 45
abbrev sLRead : Stmt := top 46
abbrev sTold : Stmt := top 47
abbrev sBent : Stmt := top 48
abbrev sLaw : Stmt := top 49
end Kt
/-! Plain laws: texts as lists of signs, what they tell. No program here. -/
namespace Km
open PySem SX
open TL (spl joinL numL pre)
/-! ### cutting -/
/-- cut at every c -/
def cut (c : Nat) : List Nat → List (List Nat)
  | [] => [[]]
  | x :: r => if x = c then [] :: cut c r else match cut c r with
    | [] => [[x]]
    | p :: ps => (x :: p) :: ps
theorem cut_ne (c : Nat) : ∀ l, cut c l ≠ []
  | [] => by simp [cut]
  | x :: r => by
    unfold cut
    split
    · simp
    · split <;> simp
theorem cut_hit (c : Nat) (r : List Nat) : cut c (c :: r) = [] :: cut c r := by
  rw [cut, if_pos rfl]
theorem cut_miss {c x : Nat} {r : List Nat} (h : x ≠ c) {p : List Nat} {ps : List (List Nat)} (e : cut c r = p :: ps) : cut c (x :: r) = (x :: p) :: ps := by
  rw [cut, if_neg h, e]
theorem cut_piece {c : Nat} : ∀ {p : List Nat} (r : List Nat), c ∉ p → cut c (p ++ c :: r) = p :: cut c r
  | [], r, _ => cut_hit c r
  | x :: p, r, h => by
    have h1 : x ≠ c := fun e => h (by simp [e])
    have h2 : c ∉ p := fun e => h (by simp [e])
    exact cut_miss h1 (cut_piece r h2)
theorem cut_free {c : Nat} : ∀ {p : List Nat}, c ∉ p → cut c p = [p]
  | [], _ => rfl
  | x :: p, h => by
    have h1 : x ≠ c := fun e => h (by simp [e])
    have h2 : c ∉ p := fun e => h (by simp [e])
    exact cut_miss h1 (cut_free h2)
/-- lines, each ended by c -/
theorem cut_lines {c : Nat} : ∀ {ls : List (List Nat)}, (∀ p ∈ ls, c ∉ p) → cut c (ls.map (· ++ [c])).flatten = ls ++ [[]]
  | [], _ => rfl
  | p :: ls, h => by
    have h1 := h p (by simp)
    have ih := cut_lines (c := c) (ls := ls) fun q hq => h q (by simp [hq])
    show cut c ((p ++ [c]) ++ (ls.map (· ++ [c])).flatten) = p :: (ls ++ [[]])
    rw [List.append_assoc, List.singleton_append, cut_piece _ h1, ih]
theorem cut_count (c : Nat) : ∀ l, (cut c l).length = (l.filter (· == c)).length + 1
  | [] => rfl
  | x :: r => by
    have ih := cut_count c r
    by_cases h : x = c
    · subst h
      rw [cut_hit, List.length_cons, ih, List.filter_cons_of_pos (by simp), List.length_cons]
    · cases e : cut c r with
      | nil => exact absurd e (cut_ne c r)
      | cons p ps =>
        rw [cut_miss h e, List.filter_cons_of_neg (by simpa using h), ← ih, e]
        rfl
/-- the last piece is empty if the text ends by c -/
theorem cut_last (c : Nat) : ∀ l, l ≠ [] → ((cut c l).getLast? = some [] ↔ l.getLast? = some c)
  | [], h => absurd rfl h
  | [x], _ => by
    by_cases h : x = c
    · subst h
      rw [cut_hit]
      simp [cut]
    · rw [cut_miss h (show cut c [] = [[]] from rfl)]
      simp [h]
  | x :: y :: r, _ => by
    have ih := cut_last c (y :: r) (by simp)
    have eq2 : (x :: y :: r).getLast? = (y :: r).getLast? := by simp [List.getLast?_cons]
    rw [eq2, ← ih]
    by_cases h : x = c
    · subst h
      rw [cut_hit]
      cases e : cut x (y :: r) with
      | nil => exact absurd e (cut_ne x _)
      | cons p ps => simp [List.getLast?_cons]
    · cases e : cut c (y :: r) with
      | nil => exact absurd e (cut_ne c _)
      | cons p ps =>
        rw [cut_miss h e]
        cases ps with
        | nil =>
          constructor
          · intro q
            simp at q
          · intro q
            simp at q
            subst q
            have := cut_count c (y :: r)
            rw [e] at this
            simp at this
            exfalso
            by_cases hy : y = c
            · exact this.1 hy
            · have e2 : ∃ p' ps', cut c r = p' :: ps' := by
                cases z : cut c r with
                | nil => exact absurd z (cut_ne c r)
                | cons p' ps' => exact ⟨_, _, rfl⟩
              obtain ⟨p', ps', z⟩ := e2
              rw [cut_miss hy z] at e
              cases e
        | cons q qs => simp [List.getLast?_cons]
theorem pre_one (c x : Nat) (r : List Nat) : pre [c] (x :: r) = decide (x = c) := by
  show ([x] == [c]) = _
  by_cases h : x = c
  · subst h
    simp
  · simp [h]
theorem spl_cut (c : Nat) : ∀ (l acc : List Nat), spl [c] 0 acc l = match cut c l with
    | [] => [acc]
    | p :: ps => (acc ++ p) :: ps
  | [], acc => by
    show [acc] = [acc ++ []]
    rw [List.append_nil]
  | x :: r, acc => by
    by_cases h : x = c
    · subst h
      rw [TL.spl_hit (by rw [pre_one]; exact decide_eq_true rfl), cut_hit]
      show acc :: spl [x] 0 [] r = (acc ++ []) :: cut x r
      rw [spl_cut x r [], List.append_nil]
      cases e : cut x r with
      | nil => exact absurd e (cut_ne x r)
      | cons p ps => rfl
    · rw [TL.spl_miss (by rw [pre_one]; exact decide_eq_false h), spl_cut c r (acc ++ [x])]
      cases e : cut c r with
      | nil => exact absurd e (cut_ne c r)
      | cons p ps =>
        rw [cut_miss h e]
        show (acc ++ [x] ++ p) :: ps = (acc ++ x :: p) :: ps
        rw [List.append_assoc]
        rfl
theorem spl_is (c : Nat) (l : List Nat) : spl [c] 0 [] l = cut c l := by
  rw [spl_cut]
  cases e : cut c l with
  | nil => exact absurd e (cut_ne c l)
  | cons p ps => rfl
theorem split_is {c : Nat} (hc : c < 256) (l : List Nat) : Txt.split (S l) (S [c]) = (cut c l).map S := by
  rw [split_S (by simp) (by simp [hc]), spl_is]
theorem cut_join {c : Nat} {parts : List (List Nat)} (hne : parts ≠ []) (h : ∀ p ∈ parts, c ∉ p) : cut c (joinL [c] parts) = parts := by
  rw [← spl_is]
  exact TL.spl_join hne h
/-! ### numbers -/
def dig (c : Nat) : Bool := decide (48 ≤ c) && decide (c ≤ 57)
def numOk (w : List Nat) : Bool := decide (1 ≤ w.length) && (decide (w.length ≤ 5) && (w.all dig && !(decide (1 < w.length) && decide (w.head? = some 48))))
def numW (w : List Nat) : Option Nat := if numOk w = true then some (NumText.digitsVal w) else none
/-- the law's way to say that a word is none -/
def numBad (w : List Nat) : Bool := !(w.all dig) || (decide (w = []) || (decide (5 < w.length) || (!decide (w = [48]) && decide (w.head? = some 48))))
theorem bad_bool (A H : Bool) (n : Nat) (hn : 2 ≤ n) : (!A || (false || (decide (5 < n) || (!false && H)))) = !(decide (1 ≤ n) && (decide (n ≤ 5) && (A && !(decide (1 < n) && H)))) := by
  have h1 : decide (1 ≤ n) = true := decide_eq_true (by omega)
  have h2 : decide (1 < n) = true := decide_eq_true (by omega)
  rw [h1, h2]
  by_cases h : n ≤ 5
  · rw [decide_eq_true h, decide_eq_false (by omega : ¬ 5 < n)]
    cases A <;> cases H <;> rfl
  · rw [decide_eq_false h, decide_eq_true (by omega : 5 < n)]
    cases A <;> cases H <;> rfl
theorem numBad_is : ∀ w : List Nat, numBad w = !numOk w
  | [] => rfl
  | [a] => by
    unfold numBad numOk
    by_cases h : a = 48
    · subst h
      rfl
    · simp [h]
  | a :: b :: r => by
    have e1 : decide (a :: b :: r = []) = false := decide_eq_false (by simp)
    have e2 : decide (a :: b :: r = [48]) = false := decide_eq_false (by simp)
    have z := bad_bool ((a :: b :: r).all dig) (decide ((a :: b :: r).head? = some 48)) (a :: b :: r).length (by simp)
    unfold numBad numOk
    rw [e1, e2]
    exact z
theorem head_num : ∀ n : Nat, 0 < n → (numL n).head? ≠ some 48 := by
  intro n
  induction n using Nat.strongRecOn with
  | _ n ih =>
    intro h0
    by_cases h : n < 10
    · rw [TL.numL_lt h]
      intro e
      have e2 : 48 + n = 48 := Option.some.inj e
      omega
    · rw [TL.numL_step (by omega)]
      have hn : 0 < n / 10 := by omega
      have ih' := ih (n / 10) (by omega) hn
      have hne := TL.numL_ne (n / 10)
      cases e : numL (n / 10) with
      | nil => exact absurd e hne
      | cons a r =>
        rw [e] at ih'
        exact ih'
theorem len_num : ∀ n : Nat, 1 < (numL n).length → 0 < n := by
  intro n h
  cases n with
  | zero =>
    rw [TL.numL_lt (by omega)] at h
    simp at h
  | succ n => omega
theorem num_ok {n : Nat} (h : n < 100000) : numOk (numL n) = true := by
  have h1 : (numL n).length ≤ 5 := TL.numL_len (k := 5) (by omega) (by omega)
  have h2 : 0 < (numL n).length := List.length_pos_iff.mpr (TL.numL_ne n)
  have h3 : (numL n).all dig = true := by
    rw [List.all_eq_true]
    intro c hc
    have q := TL.numL_digits n c hc
    unfold dig
    rw [Bool.and_eq_true, decide_eq_true_eq, decide_eq_true_eq]
    exact q
  unfold numOk
  rw [decide_eq_true (show 1 ≤ (numL n).length from h2), decide_eq_true h1, h3]
  by_cases h4 : 1 < (numL n).length
  · have h5 := head_num n (len_num n h4)
    rw [decide_eq_false h5]
    simp
  · rw [decide_eq_false h4]
    simp
theorem num_back {n : Nat} (h : n < 100000) : numW (numL n) = some n := by
  unfold numW
  rw [if_pos (num_ok h), TL.numL_val]
theorem numW_small {w : List Nat} {n : Nat} (h : numW w = some n) : n < 100000 := by
  unfold numW at h
  split at h
  · rename_i hk
    have e := Option.some.inj h
    unfold numOk at hk
    simp only [Bool.and_eq_true, decide_eq_true_eq] at hk
    obtain ⟨h1, h2, h3, _⟩ := hk
    have key : ∀ (l : List Nat) (a k : Nat), l.all dig = true → a < 10 ^ k → l.foldl (fun acc c => acc * 10 + (c - 48)) a < 10 ^ (k + l.length) := by
      intro l
      induction l with
      | nil => intro a k _ h; exact h
      | cons c r ih =>
        intro a k hd ha
        simp only [List.all_cons, Bool.and_eq_true] at hd
        have hc := hd.1
        unfold dig at hc
        simp only [Bool.and_eq_true, decide_eq_true_eq] at hc
        have q := ih (a * 10 + (c - 48)) (k + 1) hd.2 (by rw [Nat.pow_succ]; omega)
        rw [List.foldl_cons, List.length_cons]
        have e2 : k + (r.length + 1) = k + 1 + r.length := by omega
        rw [e2]
        exact q
    have q := key w 0 0 h3 (by decide)
    have e3 : NumText.digitsVal w = w.foldl (fun acc c => acc * 10 + (c - 48)) 0 := rfl
    rw [← e, e3]
    have q2 : (10 : Nat) ^ (0 + w.length) ≤ 10 ^ 5 := Nat.pow_le_pow_right (by decide) (by omega)
    exact Nat.lt_of_lt_of_le q q2
  · cases h
def allSome : List (Option Nat) → Option (List Nat)
  | [] => some []
  | none :: _ => none
  | some n :: r => (allSome r).map (n :: ·)
theorem allSome_iff : ∀ (os : List (Option Nat)) (ns : List Nat), allSome os = some ns ↔ os = ns.map some
  | [], ns => by
    cases ns with
    | nil => simp [allSome]
    | cons n r => simp [allSome]
  | none :: r, ns => by
    cases ns with
    | nil => simp [allSome]
    | cons n t => simp [allSome]
  | some m :: r, ns => by
    cases ns with
    | nil => simp [allSome]
    | cons n t =>
      have ih := allSome_iff r t
      constructor
      · intro h
        cases e : allSome r with
        | none =>
          rw [allSome, e] at h
          cases h
        | some q =>
          rw [allSome, e] at h
          have h2 : m :: q = n :: t := Option.some.inj h
          injection h2 with h3 h4
          subst h3 h4
          rw [(allSome_iff r q).mp e]
          rfl
      · intro h
        have h2 : some m :: r = some n :: t.map some := h
        injection h2 with h3 h4
        injection h3 with h5
        subst h5
        rw [allSome, ih.mpr h4]
        rfl
theorem allSome_none {os : List (Option Nat)} (h : allSome os = none) : none ∈ os := by
  induction os with
  | nil => cases h
  | cons o r ih =>
    cases o with
    | none => exact List.mem_cons_self ..
    | some n =>
      cases e : allSome r with
      | none => exact List.mem_cons_of_mem _ (ih e)
      | some q =>
        rw [allSome, e] at h
        cases h
def numsW (ws : List (List Nat)) : Option (List Nat) := allSome (ws.map numW)
theorem nums_back {ns : List Nat} (h : ∀ n ∈ ns, n < 100000) : numsW (ns.map numL) = some ns := by
  unfold numsW
  rw [allSome_iff, List.map_map]
  exact List.map_congr_left fun n hn => num_back (h n hn)
/-! ### boxes, losses, orders -/
def isBox (ns : List Nat) : Bool := decide (1 ≤ ns.length) && (decide (ns.length ≤ 10) && (ns.all (fun n => decide (1 ≤ n) && decide (n ≤ 1000)) && decide (ns.Pairwise (· ≤ ·))))
def isLoss (m : Nat) (ns : List Nat) : Bool := ns.all (fun n => decide (n < m)) && decide (ns.Pairwise (· < ·))
def boxV (os : List (Option Nat)) : Bool := match allSome os with
  | some ns => isBox ns
  | none => false
def lossV (m : Nat) (os : List (Option Nat)) : Bool := match allSome os with
  | some ns => isLoss m ns
  | none => false
def wBox : List Nat := [98, 111, 120]
def wLost : List Nat := [108, 111, 115, 116]
def wLose : List Nat := [108, 111, 115, 101]
def wFind : List Nat := [102, 105, 110, 100]
def wWeigh : List Nat := [119, 101, 105, 103, 104]
abbrev Ord := List Nat × Nat
def isOrd (m : Nat) (o : Ord) : Bool := (decide (o.1 = wFind) || (decide (o.1 = wLose) || decide (o.1 = wWeigh))) && decide (o.2 < (if o.1 = wWeigh then 10001 else m))
/-- the words of a line -/
def wordsOf (l : List Nat) : List (List Nat) := cut 32 l
def boxIn (l : List Nat) : Option (List Nat) := match wordsOf l with
  | [] => none
  | h :: t => match numsW t with
    | none => none
    | some ns => if h = wBox ∧ isBox ns = true then some ns else none
def lossIn (m : Nat) (l : List Nat) : Option (List Nat) := match wordsOf l with
  | [] => none
  | h :: t => match numsW t with
    | none => none
    | some ns => if h = wLost ∧ isLoss m ns = true then some ns else none
def ordIn (m : Nat) (l : List Nat) : Option Ord := match wordsOf l with
  | [] => none
  | h :: t => match numsW t with
    | some [n] => if isOrd m (h, n) = true then some (h, n) else none
    | _ => none
/-- the lines of a text, or the number of the bad one; none: no text -/
def linesR : Option (List Nat) → Except Nat (List (List Nat))
  | none => .error 0
  | some l => if l = [] then .error 0 else if l.getLast? = some 10 then .ok (cut 10 l).dropLast else .error ((cut 10 l).length - 1)
theorem lines_ne {tx : Option (List Nat)} {ls : List (List Nat)} (h : linesR tx = .ok ls) : ls ≠ [] := by
  cases tx with
  | none => cases h
  | some l =>
    unfold linesR at h
    dsimp only at h
    split at h
    · cases h
    · rename_i h0
      split at h
      · rename_i h1
        injection h with h
        subst h
        have c := cut_count 10 l
        intro e
        have e2 := congrArg List.length e
        rw [List.length_dropLast, c] at e2
        simp at e2
        have hm : (10 : Nat) ∈ l := List.mem_of_getLast? h1
        exact e2 10 hm rfl
      · cases h
def readBoxR (tx : Option (List Nat)) : Except Nat (List Nat) := match linesR tx with
  | .error i => .error i
  | .ok [] => .error 0
  | .ok (l :: r) => match boxIn l with
    | none => .error 0
    | some ns => if r = [] then .ok ns else .error 1
def readLossR (m : Nat) (tx : Option (List Nat)) : Except Nat (List Nat) := match linesR tx with
  | .error i => .error i
  | .ok [] => .error 0
  | .ok (l :: r) => match lossIn m l with
    | none => .error 0
    | some ns => if r = [] then .ok ns else .error 1
def ordsR (m : Nat) : Nat → List (List Nat) → Except Nat (List Ord)
  | _, [] => .ok []
  | k, l :: r => match ordIn m l with
    | none => .error k
    | some o => if 200 < k then .error k else match ordsR m (k + 1) r with
      | .error i => .error i
      | .ok os => .ok (o :: os)
def readOrdersR (tx : Option (List Nat)) : Except Nat (List Nat × List Ord) := match linesR tx with
  | .error i => .error i
  | .ok [] => .error 0
  | .ok (l :: r) => match boxIn l with
    | none => .error 0
    | some ns => match ordsR ns.length 1 r with
      | .error i => .error i
      | .ok os => .ok (ns, os)
/-- what stands ahead is put before what is read further on -/
def ahead (os : List Ord) : Except Nat (List Ord) → Except Nat (List Ord)
  | .error i => .error i
  | .ok r => .ok (os ++ r)
theorem ords_bad {m k : Nat} {l : List Nat} {r : List (List Nat)} (h : ordIn m l = none ∨ 200 < k) : ordsR m k (l :: r) = .error k := by
  unfold ordsR
  cases e : ordIn m l with
  | none => rfl
  | some o =>
    rcases h with h | h
    · rw [e] at h
      cases h
    · exact if_pos h
theorem ords_good {m k : Nat} {l : List Nat} {r : List (List Nat)} {o : Ord} (h : ordIn m l = some o) (hk : ¬ 200 < k) : ordsR m k (l :: r) = ahead [o] (ordsR m (k + 1) r) := by
  rw [ordsR, h]
  show (if 200 < k then _ else _) = _
  rw [if_neg hk]
  cases ordsR m (k + 1) r <;> rfl
theorem ahead_ahead (a b : List Ord) (r : Except Nat (List Ord)) : ahead a (ahead b r) = ahead (a ++ b) r := by
  cases r with
  | error i => rfl
  | ok r =>
    show Except.ok (a ++ (b ++ r)) = Except.ok (a ++ b ++ r)
    rw [List.append_assoc]
/-! ### writing -/
def lineT (ws : List (List Nat)) : List Nat := joinL [32] ws
def boxL (ns : List Nat) : List Nat := lineT (wBox :: ns.map numL)
def lossL (ns : List Nat) : List Nat := lineT (wLost :: ns.map numL)
def ordL (o : Ord) : List Nat := lineT [o.1, numL o.2]
def textT (ls : List (List Nat)) : List Nat := (ls.map (· ++ [10])).flatten
theorem free_join {c : Nat} (hc : c ≠ 32) : ∀ {ws : List (List Nat)}, (∀ w ∈ ws, c ∉ w) → c ∉ joinL [32] ws
  | [], _ => by simp [joinL]
  | [w], h => h w (by simp)
  | w :: v :: r, h => by
    show c ∉ w ++ ([32] ++ joinL [32] (v :: r))
    intro hm
    rcases List.mem_append.mp hm with hm | hm
    · exact h w (by simp) hm
    · rcases List.mem_append.mp hm with hm | hm
      · exact hc (List.mem_singleton.mp hm)
      · exact free_join hc (ws := v :: r) (fun z hz => h z (List.mem_cons_of_mem _ hz)) hm
theorem nums_free {c : Nat} (hc : c < 48 ∨ 57 < c) {ns : List Nat} : ∀ w ∈ ns.map numL, c ∉ w := by
  intro w hw
  obtain ⟨n, _, rfl⟩ := List.mem_map.mp hw
  exact TL.numL_free hc
theorem cons_free {c : Nat} {h : List Nat} {ws : List (List Nat)} (h1 : c ∉ h) (h2 : ∀ w ∈ ws, c ∉ w) : ∀ w ∈ h :: ws, c ∉ w := by
  intro w hw
  rcases List.mem_cons.mp hw with e | hw
  · rw [e]
    exact h1
  · exact h2 w hw
theorem words_nums {h : List Nat} (h1 : 32 ∉ h) (ns : List Nat) : wordsOf (lineT (h :: ns.map numL)) = h :: ns.map numL :=
  cut_join (by simp) (cons_free h1 (nums_free (by omega)))
theorem isBox_small {ns : List Nat} (h : isBox ns = true) : ∀ n ∈ ns, 1 ≤ n ∧ n ≤ 1000 := by
  unfold isBox at h
  simp only [Bool.and_eq_true, List.all_eq_true, decide_eq_true_eq] at h
  exact h.2.2.1
theorem isBox_len {ns : List Nat} (h : isBox ns = true) : 1 ≤ ns.length ∧ ns.length ≤ 10 := by
  unfold isBox at h
  simp only [Bool.and_eq_true, List.all_eq_true, decide_eq_true_eq] at h
  exact ⟨h.1, h.2.1⟩
theorem isLoss_small {m : Nat} {ns : List Nat} (h : isLoss m ns = true) : ∀ n ∈ ns, n < m := by
  unfold isLoss at h
  simp only [Bool.and_eq_true, List.all_eq_true, decide_eq_true_eq] at h
  exact h.1
theorem box_back {ns : List Nat} (h : isBox ns = true) : boxIn (boxL ns) = some ns := by
  unfold boxIn boxL
  rw [words_nums (by decide)]
  dsimp only
  rw [nums_back fun n hn => by have := isBox_small h n hn; omega]
  exact if_pos ⟨rfl, h⟩
theorem loss_back {m : Nat} {ns : List Nat} (hm : m ≤ 10) (h : isLoss m ns = true) : lossIn m (lossL ns) = some ns := by
  unfold lossIn lossL
  rw [words_nums (by decide)]
  dsimp only
  rw [nums_back fun n hn => by have := isLoss_small h n hn; omega]
  exact if_pos ⟨rfl, h⟩
theorem ord_word {m : Nat} {o : Ord} (h : isOrd m o = true) : o.1 = wFind ∨ o.1 = wLose ∨ o.1 = wWeigh := by
  unfold isOrd at h
  simp only [Bool.and_eq_true, Bool.or_eq_true, decide_eq_true_eq] at h
  exact h.1
theorem ord_small {m : Nat} {o : Ord} (hm : m ≤ 10) (h : isOrd m o = true) : o.2 < 10001 := by
  unfold isOrd at h
  simp only [Bool.and_eq_true, Bool.or_eq_true, decide_eq_true_eq] at h
  have h2 := h.2
  split at h2 <;> omega
theorem ord_free {c m : Nat} {o : Ord} (hc : c < 48) (h : isOrd m o = true) : c ∉ o.1 := by
  rcases ord_word h with e | e | e <;> rw [e] <;> intro q <;> simp [wFind, wLose, wWeigh] at q <;> omega
theorem ord_back {m : Nat} {o : Ord} (hm : m ≤ 10) (h : isOrd m o = true) : ordIn m (ordL o) = some o := by
  have e : ordL o = lineT (o.1 :: [o.2].map numL) := rfl
  unfold ordIn
  rw [e, words_nums (ord_free (by omega) h)]
  dsimp only
  rw [nums_back (ns := [o.2]) fun n hn => by
    rw [List.mem_singleton.mp hn]
    have := ord_small hm h
    omega]
  exact if_pos h
theorem lines_back {ls : List (List Nat)} (hne : ls ≠ []) (h : ∀ p ∈ ls, 10 ∉ p) : linesR (some (textT ls)) = .ok ls := by
  have hl : textT ls ≠ [] := by
    cases ls with
    | nil => exact absurd rfl hne
    | cons p r =>
      unfold textT
      simp
  have e : cut 10 (textT ls) = ls ++ [[]] := cut_lines h
  have h2 : (textT ls).getLast? = some 10 := by
    rw [← cut_last 10 _ hl, e]
    simp
  unfold linesR
  dsimp only
  rw [if_neg hl, if_pos h2, e]
  simp
theorem boxL_free (ns : List Nat) : 10 ∉ boxL ns := free_join (by decide) (cons_free (by decide) (nums_free (by omega)))
theorem lossL_free (ns : List Nat) : 10 ∉ lossL ns := free_join (by decide) (cons_free (by decide) (nums_free (by omega)))
theorem ordL_free {m : Nat} {o : Ord} (h : isOrd m o = true) : 10 ∉ ordL o := free_join (by decide) (cons_free (ord_free (by omega) h) (nums_free (ns := [o.2]) (by omega)))
theorem read_box_back {ns : List Nat} (h : isBox ns = true) : readBoxR (some (textT [boxL ns])) = .ok ns := by
  unfold readBoxR
  rw [lines_back (by simp) fun p hp => by rw [List.mem_singleton.mp hp]; exact boxL_free ns]
  dsimp only
  rw [box_back h]
  exact if_pos rfl
theorem read_loss_back {m : Nat} {ns : List Nat} (hm : m ≤ 10) (h : isLoss m ns = true) : readLossR m (some (textT [lossL ns])) = .ok ns := by
  unfold readLossR
  rw [lines_back (by simp) fun p hp => by rw [List.mem_singleton.mp hp]; exact lossL_free ns]
  dsimp only
  rw [loss_back hm h]
  exact if_pos rfl
theorem ords_back {m : Nat} (hm : m ≤ 10) : ∀ (os : List Ord) (k : Nat), (∀ o ∈ os, isOrd m o = true) → k + os.length ≤ 201 → ordsR m k (os.map ordL) = .ok os
  | [], _, _, _ => rfl
  | o :: r, k, h, hk => by
    have hk' : k + (r.length + 1) ≤ 201 := hk
    rw [List.map_cons, ords_good (ord_back hm (h o (by simp))) (by omega), ords_back hm r (k + 1) (fun z hz => h z (by simp [hz])) (by omega)]
    rfl
theorem ords_long {m : Nat} (hm : m ≤ 10) : ∀ (os : List Ord) (k : Nat), (∀ o ∈ os, isOrd m o = true) → k ≤ 201 → 201 < k + os.length → ordsR m k (os.map ordL) = .error 201
  | [], k, _, h1, h2 => by
    have h3 : 201 < k + 0 := h2
    omega
  | o :: r, k, h, h1, h2 => by
    have h3 : 201 < k + (r.length + 1) := h2
    by_cases e : k = 201
    · subst e
      exact ords_bad (.inr (by omega))
    · rw [List.map_cons, ords_good (ord_back hm (h o (by simp))) (by omega), ords_long hm r (k + 1) (fun z hz => h z (by simp [hz])) (by omega) (by omega)]
      rfl
theorem orders_lines {m : Nat} {ns : List Nat} {os : List Ord} (h : ∀ o ∈ os, isOrd m o = true) : linesR (some (textT (boxL ns :: os.map ordL))) = .ok (boxL ns :: os.map ordL) := by
  refine lines_back (by simp) fun p hp => ?_
  rcases List.mem_cons.mp hp with e | hp
  · rw [e]
    exact boxL_free ns
  · obtain ⟨o, ho, rfl⟩ := List.mem_map.mp hp
    exact ordL_free (h o ho)
theorem read_orders_back {ns : List Nat} {os : List Ord} (hb : isBox ns = true) (h : ∀ o ∈ os, isOrd ns.length o = true) (hl : os.length ≤ 200) : readOrdersR (some (textT (boxL ns :: os.map ordL))) = .ok (ns, os) := by
  unfold readOrdersR
  rw [orders_lines h]
  dsimp only
  rw [box_back hb]
  dsimp only
  rw [ords_back (isBox_len hb).2 os 1 h (by omega)]
theorem read_orders_long {ns : List Nat} {os : List Ord} (hb : isBox ns = true) (h : ∀ o ∈ os, isOrd ns.length o = true) (hl : 201 ≤ os.length) : readOrdersR (some (textT (boxL ns :: os.map ordL))) = .error 201 := by
  unfold readOrdersR
  rw [orders_lines h]
  dsimp only
  rw [box_back hb]
  dsimp only
  rw [ords_long (isBox_len hb).2 os 1 h (by omega) (by omega)]
end Km
set_option maxHeartbeats 4000000
/-! try: .. except C as n: .. except ..: where the first clause always takes it; isinstance of an error with a dict of its own. -/
namespace Kr
open PySem PySem.Spec PyProof.Rows L2
/-- what is wished of an exception of the body: the first clause takes it -/
def wFirst (K : PySem.W.Frag) (c : Value) (i : Nat) (ts : Addr → Value → Option Addr → TS) (D : Ends) : WX := fun cls d σ H =>
  PySem.W.exmOne K cls c = some true ∧ ∀ a, H a = none → ts a cls d { nx := fun σ' H' => D.nx (σ'.set i none) H', rt := D.rt, bk := fun σ' H' => D.bk (σ'.set i none) H', ct := fun σ' H' => D.ct (σ'.set i none) H' } (σ.set i (some (.ref a))) H
section
variable {X : Cx} {x n : Str} {c : Value} {i : Nat} {body suite : List Stmt} {b₀ : Stmt} {more : List ExceptHandler} {np pos pos' : Pos} {tb : WX → TS} {ts : Addr → Value → Option Addr → TS}
theorem ps_try_first (hs : X.stack = X.env :: X.outer) (hf : X.env.frame = some X.env.locals) (hN : X.N.Nodup) (hi : X.N[i]? = some n) (hln : X.env.kindOf n = some .local) (hc : Names X x c)
    (hb : ∀ (W : WX) (pn : List (Addr × Obj)) (xe : Value → Shared → Prop), Takes (X.tr pn xe) W → PassesOwn (model X.prog X.w) X.A X.env xe → PSs (X.tr pn xe) body (tb W))
    (hsu : ∀ (a : Addr) (oe : Obj) (cls : Value) (d : Option Addr) (pn : List (Addr × Obj)), Zc cls d oe → (∃ vs, oe.data = .fields vs) → PSs (X.suite a ((a, oe) :: pn)) (b₀ :: suite) (ts a cls d)) :
    PS X (.Try body (.ExceptHandler (some (.Name x np)) (some n) (b₀ :: suite) pos' :: more) [] [] pos) (fun D σ H => tb (wFirst X.K c i ts D) D σ H) := by
  refine ⟨fun pins s σ H D I h => ?_⟩
  have ok := I.ok
  have hfr : X.A.frames = some (X.env :: X.outer) := by rw [ok.frames, hs]
  refine wpAny_Try_except (wpAny_mono ((hb (wFirst X.K c i ts D) (X.pn ++ pins) (fun e s₁ => wpAny (model X.prog X.w) X.A (noteFrame e X.env) (fun _ s₂ => wpAny (model X.prog X.w) X.A (setFlight e none) (fun _ s₃ =>
    wpAny (model X.prog X.w) X.A (handleBy e X.env (.ExceptHandler (some (.Name x np)) (some n) (b₀ :: suite) pos' :: more)) (SP X pins D) X.xe s₃) X.xe s₂) X.xe s₁) (fun u s' xx => ?_) PassesOwn.looking).run [] s σ H D (I.toTry _) h) (fun f s1 hsp => ?_) (fun e s1 he => he))
  · obtain ⟨a, B, sI, pins', σ', H', cls, d, rfl, J', nb, up, sky, na, os, ag, hb1, hyes⟩ := xx
    have J : Inv X pins σ' H' sI := J'.ofTry ok
    show wpAny (model X.prog X.w) X.A (noteFrame (.ref a) X.env) _ _ _
    refine Sky.land Zc.steady hfr hf (show Sky B (X.env :: X.outer) a (Zc cls d) X.env.locals s'.heap by rw [← hs]; exact sky) fun h3 fl3 up3 => ?_
    obtain ⟨oe3, vs3, he3, hz3, hd3⟩ := fl3.there
    have nfr : a ∉ frs (X.env :: X.outer) := fun hm => by
      obtain ⟨_, o', e', hnf⟩ := fl3.2.2.1.mem hm
      rw [he3] at e'
      cases e'
      exact hnf _ hd3
    have nL : a ≠ X.env.locals := fun z => nfr (List.mem_filterMap.mpr ⟨X.env, List.mem_cons_self, by rw [hf, z]⟩)
    have nF : a ∉ X.fs := fun hm => by
      obtain ⟨e, he, q⟩ := List.mem_filterMap.mp hm
      exact nfr (List.mem_filterMap.mpr ⟨e, List.mem_cons_of_mem _ he, q⟩)
    have J3 : Inv X pins σ' H' { s' with heap := h3 } := J.landed nb fl3.1 (up.trans up3) os ag
    have S3 := J3.suite he3 hd3 na nL nF
    have LM := PySem.W.exm_one (M := model X.prog X.w) (J3.kIn) (show PySem.W.Looks (model X.prog X.w) h3 (typeOf (.ref a)) cls from fun A Q E s k q => wpAny_typeOf_ref (k _ _ he3) (by rw [hz3.1]; exact q)) hb1
    have clause : ∀ {Q : Value → Shared → Prop} {E : Value → Shared → Prop}, Q c { s' with heap := h3 } → wpAny (model X.prog X.w) (X.A.mark (some (.ref a))) (eval (.Name x np) X.env) Q E { s' with heap := h3 } := fun {Q E} q => by
      obtain ⟨hg, hdbg, hm | ⟨hm, hv, hnn⟩⟩ := hc
      · exact ld_glob (X := X.suite a ((a, oe3) :: (X.pn ++ pins))) S3 hg hm q hdbg
      · exact ld_blt (X := X.suite a ((a, oe3) :: (X.pn ++ pins))) S3 hg hm hv q hnn hdbg
    refine wpAny_handleBy_cons (codeAny_handlers_test (clause (LM.here ?_))) (by intro q; cases q)
    refine codeAny_handlers_suite_as (HandSPX.lands_againZ fl3 fun h4 fl4 up4 => ?_)
    obtain ⟨oe4, vs4, he4, hz4, hd4⟩ := fl4.there
    have S4 := (J.landed nb fl4.1 ((up.trans up3).trans up4) os ag : Inv X pins σ' H' { s' with heap := h4 }).suite he4 hd4 na nL nF
    refine store_ok (X := X.suite a ((a, oe4) :: (X.pn ++ pins))) (v := .ref a) S4 hN hi (.inl hln : Loc X.env.scope n) rfl (fun s5 S5 => ?_) (.inr hln)
    refine wpAny_mono ((hsu a oe4 cls d (X.pn ++ pins) hz4 ⟨_, hd4⟩).run [] s5 _ H' _ S5 (hyes a na)) (fun f s6 hsp => ?_) (fun _ _ z => False.elim z)
    have away : ∀ {σ6 : L2.St} {H6 : Hp} {Q : Shared → Prop}, Inv (X.suite a ((a, oe4) :: (X.pn ++ pins))) [] σ6 H6 s6 → (∀ s7, Inv X pins (σ6.set i none) H6 s7 → Q s7) →
        wpAny (model X.prog X.w) X.A (do bindName X.env n .none; unbindBehindTheSuite X.env n pos') (fun _ s7 => Q s7) X.xe s6 := fun {σ6 H6 Q} S6 hq => gone_ok (S6.unsuite ok) hN hi hln hq
    cases f with
    | next =>
      obtain ⟨σ6, H6, S6, q6⟩ := hsp
      exact away S6 fun s7 J7 => ⟨_, _, J7, q6⟩
    | brk =>
      obtain ⟨σ6, H6, S6, q6⟩ := hsp
      exact away S6 fun s7 J7 => ⟨_, _, J7, q6⟩
    | cont =>
      obtain ⟨σ6, H6, S6, q6⟩ := hsp
      exact away S6 fun s7 J7 => ⟨_, _, J7, q6⟩
    | ret u =>
      obtain ⟨v6, σ6, H6, S6, r6, q6⟩ := hsp
      exact away S6 fun s7 J7 => ⟨_, _, _, J7, r6, q6⟩
  · cases f with
    | next =>
      obtain ⟨σ', H', J', q⟩ := hsp
      exact wpAny_execs_nil ⟨σ', H', J'.ofTry ok, q⟩
    | brk =>
      obtain ⟨σ', H', J', q⟩ := hsp
      exact ⟨σ', H', J'.ofTry ok, q⟩
    | cont =>
      obtain ⟨σ', H', J', q⟩ := hsp
      exact ⟨σ', H', J'.ofTry ok, q⟩
    | ret u =>
      obtain ⟨v, σ', H', J', r, q⟩ := hsp
      exact ⟨v, σ', H', J'.ofTry ok, r, q⟩
end
/-- what isinstance asks of an error's class -/
structure IsC (K : PySem.W.Frag) (C : Addr) : Prop where
  cl : (PySem.W.clsIn K C).isSome = true
  xf : XfC K C
  ha : PySem.W.findIn K (.ref C) "__class__" = some (some (.builtin "object.__class__"))
  hn : PySem.W.specialIn K (.builtin "object.__class__") "__get__" = some (some (.builtin "getset_descriptor.__get__"))
  ht : PySem.W.takesIn K (.builtin "object.__class__") = some true
  hm : PySem.W.mroIn K C (.type "object") = some true
def isB (K : PySem.W.Frag) (C : Addr) : Bool := (PySem.W.clsIn K C).isSome && (xfB K C && (decide (PySem.W.findIn K (.ref C) "__class__" = some (some (.builtin "object.__class__"))) && (decide (PySem.W.specialIn K (.builtin "object.__class__") "__get__" = some (some (.builtin "getset_descriptor.__get__"))) &&
  (decide (PySem.W.takesIn K (.builtin "object.__class__") = some true) && decide (PySem.W.mroIn K C (.type "object") = some true)))))
theorem isB_ok {K : PySem.W.Frag} {C : Addr} (h : isB K C = true) : IsC K C := by
  obtain ⟨h1, h⟩ := Bool.and_eq_true_iff.mp h
  obtain ⟨h2, h⟩ := Bool.and_eq_true_iff.mp h
  obtain ⟨h3, h⟩ := Bool.and_eq_true_iff.mp h
  obtain ⟨h4, h⟩ := Bool.and_eq_true_iff.mp h
  obtain ⟨h5, h6⟩ := Bool.and_eq_true_iff.mp h
  exact ⟨h1, xfB_ok h2, of_decide_eq_true h3, of_decide_eq_true h4, of_decide_eq_true h5, of_decide_eq_true h6⟩
/-- isinstance(e, T): e the error that the suite holds, with its dict at d -/
theorem call_isX {X : Cx} {a D dd : Addr} {oe : Obj} {pn : List (Addr × Obj)} {T : String} {b : Bool} (C : IsC X.K D) (hz : Zc (.ref D) (some dd) oe) (hf : ∃ vs, oe.data = .fields vs) (e : PySem.W.kitOne X.K (.ref D) (.type T) = some b) :
    CallR (X.suite a ((a, oe) :: pn)) (.builtin "isinstance") (fun xs H Q => xs = [.ref a, .ty T] ∧ (∃ fs, H dd = some (.xd fs)) ∧ Q (.bl b) H) := by
  intro pins s σ H xs us Q I r h
  obtain ⟨rfl, ⟨fs, hx⟩, q⟩ := h
  obtain ⟨u1, u2, rfl, r1, r2⟩ := vals2 r
  obtain rfl : u1 = Value.ref a := r1
  obtain rfl : u2 = Value.type T := r2
  obtain ⟨hget, _⟩ := I.pin (a, oe) (List.mem_append.mpr (.inl List.mem_cons_self))
  obtain ⟨vs, hv⟩ := hf
  have ho : ObjOk X.prog X.w H s.heap dd (.xd fs) := I.hok dd _ hx
  obtain ⟨mA, ⟨od, es, ep, hod, _⟩, _⟩ := ho
  have J : PySem.W.InstAt s.heap a oe D (some od) := ⟨hget, hz.1, by unfold PySem.W.notCls; rw [hv] <;> rfl, by rw [hz.2]; exact hod⟩
  exact PySem.W.kia_one (PySem.W.kitx_exc C.cl C.xf.ga C.xf.gg C.xf.exC C.ha C.hn C.ht C.hm) I.kIn J e (fun z => nomatch z) fun tk => ⟨.bl b, H, I.tok tk, rfl, q⟩
end Kr
set_option maxHeartbeats 0
/-! The head: what the top has written, each fact by its name; the run of the top in the kernel. -/
namespace Kt
open PySem PySem.Spec PyProof.Rows L2
def dd (x : Str) (st : Stmt) : He.DefD := ⟨(x, none), x, x, defArgs st, defBody st, defScope st, [], []⟩
def di (C q : Str) (st : Stmt) : He.DefD := ⟨(C, some "__init__"), "__init__", q, defArgs st, defBody st, defScope st, [], []⟩
def fnA : List He.DefD := [dd "is_number" sIsNum, dd "need_box" sNeedBox, dd "is_loss" sIsLoss, dd "need_loss" sNeedLoss, dd "is_order" sIsOrder, dd "need_orders" sNeedOrders, dd "line_of" sLineOf, dd "box_text" sBoxText, dd "loss_text" sLossText, dd "orders_text" sOrdersText, dd "lines_of" sLinesOf, dd "number_of" sNumberOf, dd "numbers_of" sNumbersOf, dd "box_in" sBoxIn, dd "order_in" sOrderIn, dd "read_box" sReadBox, dd "read_loss" sReadLoss, dd "read_orders" sReadOrders]
def fnB : List He.DefD := [dd "_law_taken" sTaken, dd "_law_pick" sPick, dd "_law_alike" sAlike, dd "_law_box" sLBox, dd "_law_some" sSome, dd "_law_line" sLLine, dd "_law_orders" sLOrders, dd "_law_error" sError, dd "_law_numbers" sLNumbers, dd "_law_lines" sLLines, dd "_law_box_in" sLBoxIn, dd "_law_order_in" sLOrderIn, dd "_law_read" sLRead, dd "_law_told" sTold, dd "_law_bent" sBent, dd "law" sLaw]
def fnC : List He.DefD := [di "BadBox" "BadBox.__init__" sIniBox, di "BadLine" "BadLine.__init__" sIniLine]
def fn : List He.DefD := fnA ++ fnB ++ fnC
def faA : List He.Fa := [.glo "is_number", .glo "need_box", .glo "is_loss", .glo "need_loss", .glo "is_order", .glo "need_orders", .glo "line_of", .glo "box_text", .glo "loss_text", .glo "orders_text", .glo "lines_of", .glo "number_of", .glo "numbers_of", .glo "box_in", .glo "order_in", .glo "read_box", .glo "read_loss", .glo "read_orders", .glo "_law_taken", .glo "_law_pick", .glo "_law_alike", .glo "_law_box", .glo "_law_some", .glo "_law_line", .glo "_law_orders", .glo "_law_error", .glo "_law_numbers", .glo "_law_lines", .glo "_law_box_in", .glo "_law_order_in", .glo "_law_read", .glo "_law_told", .glo "_law_bent", .glo "law"]
def faB : List He.Fa := [.free "isinstance", .free "len", .free "enumerate", .free "all", .free "zip", .free "tuple", .free "str", .free "int", .free "range", .free "sorted", .free "min", .free "max", .free "sum", .free "bool", .free "list", .free "set", .free "dict", .free "ValueError"]
def faC : List He.Fa := [.glo "WeightError", .glo "BadBox", .glo "BadLoss", .glo "BadOrders", .glo "BadLine", .int "MOST_WEIGHTS" 10, .int "MOST_WEIGHT" 1000, .int "MOST_ORDERS" 200, .int "MOST_LOAD" 10000, .str "FIGURES" "0123456789", .glo "WORDS"]
def fa : List He.Fa := faA ++ faB ++ faC
def tf : List He.Defn := [("is_loss", none), ("number_of", none), ("_law_told", none), ("law", none)]
/-- an own exception class with an own __init__, over ValueError by own classes -/
def oexIn (K : PySem.W.Frag) (C : Addr) : Bool := match K.lookup C with
  | some ⟨.type t, _, .cls cd, sl⟩ => decide (t = "type") && (match cd.mro, sl.toList with
    | .ref C' :: bm, [_, _, _, _, some (.builtin n), _] => decide (C' = C) && (decide (n = "ValueError.__new__") && (!cd.hasDel && (cd.hasDict && PySem.HandSPX.refsVE bm)))
    | _, _ => false)
  | _ => false
def excF (K : PySem.W.Frag) (x f : Str) : Bool :=
  oexIn K (He.ga K x) && (decide (PySem.W.findIn K (.ref (He.ga K x)) "__setattr__" = some (some (.builtin "object.__setattr__"))) && (decide (PySem.W.subIn K (.ref (He.ga K x)) (.type "BaseException") = some true) &&
  (decide (PySem.W.typeIn K (.ref (He.ga K x)) = some (.type "type")) && (PySem.W.keepIn K (.ref (He.ga K x)) && (decide (PySem.W.findIn K (.ref (He.ga K x)) "__init__" = some (some (.ref (He.ma K (He.ga K x) "__init__")))) &&
  (decide (PySem.W.typeIn K (.ref (He.ma K (He.ga K x) "__init__")) = some (.type "function")) && (decide (PySem.W.findIn K (.ref (He.ga K x)) f = some none) && (decide (PySem.W.exmOne K (.ref (He.ga K x)) (.ref (He.ga K x)) = some true) && xfB K (He.ga K x)))))))))
def ex (K : PySem.W.Frag) : Bool := excF K "BadBox" "index" && (excF K "BadLine" "line" && (decide (PySem.W.kitOne K (.ref (He.ga K "BadLine")) (.type "ValueError") = some true) && (Kr.isB K (He.ga K "BadLine") && (He.tupB K "WORDS" [.str "find", .str "lose", .str "weigh"] && decide ((tf.map fun p => (He.cT K p).2).Nodup)))))
abbrev R : PySem.W.OpenRow := PySem.W.OpenLaw.row PySem.Challenge.rw_lostweights_k60_whole_texts
abbrev hk : PySem.W.Hook := He.hookX 4 fa fn [] tf ex
def ob (s : PySem.W.SharedT) : He.AlX := He.obsX 4 fa fn [] tf ex (HandSHeadRun.getT s)
theorem ob_eq (s : PySem.W.SharedT) : ob s = hk.obs s.abs := He.obsX_eq (HandSHeadRun.getT_eq s)
def looseA : List Str := ["WeightError", "BadBox", "BadLoss", "BadOrders", "BadLine", "MOST_WEIGHTS", "MOST_WEIGHT", "MOST_ORDERS", "MOST_LOAD", "FIGURES", "WORDS", "is_number", "need_box", "is_loss", "need_loss", "is_order", "need_orders", "line_of", "box_text", "loss_text", "orders_text", "lines_of"]
def looseB : List Str := ["number_of", "numbers_of", "box_in", "order_in", "read_box", "read_loss", "read_orders", "_law_taken", "_law_pick", "_law_alike", "_law_box", "_law_some", "_law_line", "_law_orders", "_law_error", "_law_numbers", "_law_lines", "_law_box_in", "_law_order_in", "_law_read", "_law_told", "_law_bent"]
def loose : List Str := looseA ++ looseB
abbrev qv : Program := PySem.W.view R.prog [49]
theorem run (w : World) : HandSHeadRun.RunEq R qv hk ob 6000 loose w := by
  intro os
  kernel_rfl
end Kt
set_option maxHeartbeats 4000000
/-! all(test for x in e), all(test for x, y in e), e anything that the library walks; the test may call, as long as it keeps what stands. -/
namespace Kg
open PySem PySem.Spec PyProof.Rows L2 GxR
abbrev genv (X : Cx) (scope : Scope) (C : Addr) (code : Value) (bi : Addr) : Env := genEnv scope (cloFrom X.env.cells scope.names []) C code bi X.env
/-- what the test may lean on: its own frame holds x, all that stood in sI but the table at P stands -/
def Elt1 (X : Cx) (sI : Shared) (P : Addr) (scope : Scope) (x : Str) (elt : Expr) (pf : Nat → Value → Prop) (pb : Nat → Bool) : Prop :=
  ∀ (C : Addr) (code : Value) (A' : Around) (E' : Value → Shared → Prop) (i : Nat) (v : Value) (s₂ : Shared) (m₂ : Str → Option Value), A'.handled = none → A'.depth ≤ X.A.depth + 1 → A'.units ≤ X.A.units + 8 → pf i v →
    s₂.heap.Ns C m₂ → m₂ x = some v → (∀ b o, b ≠ P → sI.heap.get? b = some o → s₂.heap.get? b = some o) →
    wpAny (model X.prog X.w) A' (eval elt (genv X scope C code builtinsNs)) (fun y s₃ => y = .bool (pb i) ∧ Keeps s₂ s₃) E' s₂
def Elt2 (X : Cx) (sI : Shared) (P : Addr) (scope : Scope) (xa xb : Str) (elt : Expr) (pt : Nat → Array Value → Prop) (pb : Nat → Bool) : Prop :=
  ∀ (C : Addr) (code : Value) (A' : Around) (E' : Value → Shared → Prop) (i : Nat) (va vb : Value) (s₂ : Shared) (m₂ : Str → Option Value), A'.handled = none → A'.depth ≤ X.A.depth + 1 → A'.units ≤ X.A.units + 8 → pt i #[va, vb] →
    s₂.heap.Ns C m₂ → m₂ xa = some va → m₂ xb = some vb → (∀ b o, b ≠ P → sI.heap.get? b = some o → s₂.heap.get? b = some o) →
    wpAny (model X.prog X.w) A' (eval elt (genv X scope C code builtinsNs)) (fun y s₃ => y = .bool (pb i) ∧ Keeps s₂ s₃) E' s₂
/-- the generator is ready: its walk, and what is known when it has been drawn -/
def ReadyG (X : Cx) (pins : List (Addr × Obj)) (σ : L2.St) (H1 : Hp) (P : Addr) (n : Nat) (pb : Nat → Bool) (g : Addr) (s5 : Shared) : Prop :=
  ∃ (fp wr : List Addr) (G : Array GenState → Array GenState → Prop) (F : Nat → Value → Prop) (St : Nat → Shared → Prop),
    WalksS X.prog X.w X.A.in1 g fp wr G n F St ∧ St 0 s5 ∧ TruthOf X.prog X.w X.A.in1 F pb ∧ ∀ s', Moved wr G s5 s' → ∃ H2, Tabbed P H1 H2 ∧ Inv X pins σ H2 s'
theorem passAll (n : Nat) : passing (fun _ => true) n 0 = List.range n := GxR.passing_true n
theorem all_eq {n : Nat} {p q : Nat → Bool} (h : ∀ i, i < n → p i = q i) : (List.range n).all p = (List.range n).all q := by
  rw [Bool.eq_iff_iff, List.all_eq_true, List.all_eq_true]
  constructor
  · intro k j hj
    rw [← h j (List.mem_range.mp hj)]
    exact k j hj
  · intro k j hj
    rw [h j (List.mem_range.mp hj)]
    exact k j hj
section
variable {X : Cx} {pins : List (Addr × Obj)} {σ : L2.St}
/-- what is walked, by single items: the state sI ahead of the iterator, the iterator at Ia in s2 -/
structure Src1 (X : Cx) (pins : List (Addr × Obj)) (σ : L2.St) (H1 : Hp) (P : Addr) (n : Nat) (pf : Nat → Value → Prop) (sI : Shared) (it : Value) (s2 : Shared) : Prop where
  inv : Inv X pins σ H1 sI
  st : ∃ h2 tk2, s2 = { sI with heap := h2, toks := tk2 }
  kept : ∀ b o, sI.heap.get? b = some o → s2.heap.get? b = some o
  sz : sI.heap.objs.size ≤ s2.heap.objs.size
  it_ : ∃ (Ia : Addr) (fp wr : List Addr) (St : Nat → Heap → Prop), it = .ref Ia ∧ (∀ A' : Around, A'.handled = none → Walks X.prog X.w A' Ia fp wr n pf St) ∧ St 0 s2.heap ∧ (∀ b ∈ fp, b < s2.heap.objs.size) ∧ P ∉ fp ∧ ∀ b ∈ wr, sI.heap.objs.size ≤ b
structure Src2 (X : Cx) (pins : List (Addr × Obj)) (σ : L2.St) (H1 : Hp) (P : Addr) (n : Nat) (pt : Nat → Array Value → Prop) (sI : Shared) (it : Value) (s2 : Shared) : Prop where
  inv : Inv X pins σ H1 sI
  st : ∃ h2 tk2, s2 = { sI with heap := h2, toks := tk2 }
  kept : ∀ b o, sI.heap.get? b = some o → s2.heap.get? b = some o
  sz : sI.heap.objs.size ≤ s2.heap.objs.size
  two : ∀ i vals, pt i vals → ∃ va vb, vals = #[va, vb]
  it_ : ∃ (Ia : Addr) (fp wr : List Addr) (St : Nat → Heap → Prop) (Mid : Nat → Addr → Heap → Prop), it = .ref Ia ∧ (∀ A' : Around, A'.handled = none → WalksU X.prog X.w A' Ia fp wr n pt St Mid) ∧ St 0 s2.heap ∧ (∀ b ∈ fp, b < s2.heap.objs.size) ∧ P ∉ fp ∧ ∀ b ∈ wr, sI.heap.objs.size ≤ b
/-- the code object is made, or found, and the builtins looked up: all but the table at P stands -/
theorem code_bi {c P : Addr} {sI s2 : Shared} {H1 : Hp} {ps : Array Value} {gpos : Pos} {qn : Str} {scope : Scope} {Q : Value → Addr → Shared → Prop} {E : Value → Shared → Prop}
    (TB : TabB X.base X.mg c P) (hcode : X.env.code = .ref c) (I : Inv X pins σ H1 sI) (hP : H1 P = some (.tbl ps)) (ht : TriplesOk ps.toList) (kept : ∀ b o, sI.heap.get? b = some o → s2.heap.get? b = some o)
    (h : ∀ (code : Value) (h4 : Heap) (tk : Nat) (more : Array Value), Heap.ExtBut P s2.heap h4 → s2.heap.objs.size ≤ h4.objs.size → h4.get? P = some { cls := .none, data := .fields (ps ++ more) } → TriplesOk (ps ++ more).toList →
      h4.NoLimit → Q code builtinsNs { s2 with heap := h4, toks := tk }) :
    wpAny (model X.prog X.w) X.A (genexprCode X.env gpos qn scope) (fun code s₃ => wpAny (model X.prog X.w) X.A (builtinsFor X.env.globals X.env.builtins) (fun bi s₄ => Q code bi s₄) E s₃) E s2 := by
  have hPI : sI.heap.get? P = some { cls := .none, data := .fields ps } := I.hok P _ hP
  have hP2 : s2.heap.get? P = some { cls := .none, data := .fields ps } := kept _ _ hPI
  have cd : PySem.W.CodeHd s2.heap c P := TB.code.keeps fun b u e => kept _ _ (I.bk b u e)
  have lim : s2.heap.NoLimit := I.nolimit.keeps kept
  have fin : ∀ (code : Value) (h4 : Heap) (tk : Nat) (more : Array Value), Heap.ExtBut P s2.heap h4 → s2.heap.objs.size ≤ h4.objs.size → h4.get? P = some { cls := .none, data := .fields (ps ++ more) } → TriplesOk (ps ++ more).toList →
      wpAny (model X.prog X.w) X.A (builtinsFor X.env.globals X.env.builtins) (fun bi s₄ => Q code bi s₄) E { s2 with heap := h4, toks := tk } := by
    intro code h4 tk more hx hsz hP4 ht4
    obtain ⟨bm, ob, e1, e2, e3, e4, e5, e6, e7, e8⟩ := TB.bm
    have hcP : cStatics ≠ P := fun e => by
      obtain ⟨_, hns, _⟩ := lim
      obtain ⟨o', es, ep, ho, hd, _⟩ := hns
      rw [e, hP2] at ho
      cases ho
      cases hd
    have up : ∀ b u, b ≠ P → sI.heap.get? b = some u → h4.get? b = some u := fun b u hb e => hx b u hb (kept _ _ e)
    have gl : h4.Ns mainGlobals X.mg := (I.mod.glob.keeps fun b u e => kept _ _ (I.bk b u e)).extBut hx TB.gP
    exact wpAny_builtinsFor (m := X.mg) (by rw [I.ok.glob]; exact gl) e1 e2 (up _ _ e4 (I.bk _ _ e5)) e6 e7 e8 (h code h4 tk more hx hsz hP4 ht4 (lim.extBut hx hcP))
  cases hf : codeAmong gpos ps.toList with
  | none =>
    refine wpAny_genexprCodeX hcode (cd.code hP2 ht) (cd.tab hP2) hf fun c' h' tk hx hge hlt hco' _ htab' _ => ?_
    obtain ⟨o1, vs, f1, tf, fl, tg, inF, tx, tt, op, _, _, _, _, _, _, _, _, _, htr, _⟩ := hco'
    exact fin _ h' tk _ hx (Nat.le_trans hge (Nat.le_of_lt hlt)) htab'.2 htr
  | some cv =>
    refine wpAny_genexprCode_hit hcode (cd.code hP2 ht) hf ?_
    have z := fin cv s2.heap s2.toks #[] (Heap.ExtBut.refl _ _) (Nat.le_refl _) (by rw [Array.append_empty]; exact hP2) (by rw [Array.append_empty]; exact ht)
    exact z
/-- behind the generator: the Inv with the grown table -/
theorem inv_end {P : Addr} {sI s' : Shared} {H1 : Hp} {ps more : Array Value} (I : Inv X pins σ H1 sI) (hP : H1 P = some (.tbl ps)) (ht : TriplesOk (ps ++ more).toList) (k : ∀ b o, b ≠ P → sI.heap.get? b = some o → s'.heap.get? b = some o)
    (hm : s'.heap.get? P = some { cls := .none, data := .fields (ps ++ more) }) (hg : AllBare s'.gens) (ho : s'.os = sI.os) : ∃ H2, Tabbed P H1 H2 ∧ Inv X pins σ H2 s' := by
  have J := inv_tab (more := more) (h' := s'.heap) (g' := s'.gens) (d' := s'.drawn) (t' := s'.toks) I hP k hm hg
  rw [sh_eta sI s' ho] at J
  exact ⟨upd H1 P (.tbl (ps ++ more)), ⟨⟨ps ++ more, upd_same, ht⟩, fun b hb => upd_ne hb⟩, J⟩
theorem gen1 {c P : Addr} {elt iter : Expr} {x : Str} {px gpos : Pos} {scope : Scope} {s : Shared} {k : Nat} {Q' : Value → Shared → Prop}
    (hr : Room k X.A) (TB : TabB X.base X.mg c P) (hcode : X.env.code = .ref c) (S : GenS X.env scope x) (hs : ∀ v, genFold iter X.env v = pure v)
    (h : wpAny (model X.prog X.w) X.A (eval iter X.env) (fun xv s₁ => wpAny (model X.prog X.w) X.A (pyIter xv) (fun it s₂ => ∃ (H1 : Hp) (n : Nat) (pf : Nat → Value → Prop) (pb : Nat → Bool) (sI : Shared), Src1 X pins σ H1 P n pf sI it s₂ ∧ TabG H1 P ∧
      Elt1 X sI P scope x elt pf pb ∧ ∀ g s5, ReadyG X pins σ H1 P n pb g s5 → Q' (.ref g) s5) X.xe s₁) X.xe s) :
    wpAny (model X.prog X.w) X.A (eval (.GeneratorExp elt [⟨.Name x px, iter, [], 0⟩] scope gpos) X.env) Q' X.xe s := by
  refine wpAny_GeneratorExp_walksQD hr.hd S.co (closure_ok S.free) S.cell S.dot S.loc S.kind (by have := hr.dp; omega) ?_ hs
  refine thn h fun xv s1 h1 => thn h1 fun it s2 h2 => ?_
  obtain ⟨H1, n, pf, pb, sI, Z, ⟨ps, hP, ht⟩, el, hQ⟩ := h2
  obtain ⟨I, ⟨h2', tk2, e2⟩, kept, szs, Ia, fp, wr, St, rfl, W, hst, hfp, hPf, hwr⟩ := Z
  refine ⟨I.nolimit.keeps kept, ?_⟩
  refine code_bi TB hcode I hP ht kept fun code h4 tk more hx hsz hP4 ht4 lim4 => ?_
  have hh := hr.hd
  have hcs : cStatics < sI.heap.objs.size := let ⟨_, hns, _⟩ := I.nolimit; hns.lt
  have nwr : ∀ b, b < sI.heap.objs.size → b ∉ wr := fun b hl hb => Nat.lt_irrefl _ (Nat.lt_of_lt_of_le hl (hwr b hb))
  have up4 : ∀ b o, b ≠ P → sI.heap.get? b = some o → h4.get? b = some o := fun b o hb e => hx b o hb (kept b o e)
  refine ⟨Ia, fp, wr, n, pf, St, (fun _ => true), (fun i y => y = .bool (pb i)), rfl, W, (W X.A hh).frame _ _ _ hst fun b hb u e => hx b u (fun z => hPf (z ▸ hb)) e, fun b hb => Nat.lt_of_lt_of_le (hfp b hb) hsz, lim4, nwr _ hcs, fun href hhref => ?_, fun g h5 tk5 gs hgb hag hsz5 hk5 W5 hat => ?_⟩
  · refine ⟨fun A' E' i v s₂ m₂ hA _ _ hPv hn hm hk => ?_, fun A' E' i v s₂ m₂ hA hD hU hPv hp hn hm hk => ?_⟩
    · simp only [List.forIn_nil]
      exact wpAny_pure ⟨rfl, keeps_refl _⟩
    · refine el _ code A' E' i v s₂ m₂ hA hD hU hPv hn hm fun b o hb e => ?_
      have e4 := up4 b o hb e
      exact hk b (List.mem_range.mpr (Heap.lt_size e4)) (nwr b (Heap.lt_size e)) o (hhref b o e4)
  · simp only [passAll, List.length_range] at W5
    refine hQ g _ ⟨_, _, _, _, _, W5.in4_1, hat, ?_, fun s' hm => ?_⟩
    · intro j y sj Qj Ej hy hQj
      obtain ⟨i, hij, rfl⟩ := hy
      obtain ⟨hj, ej⟩ := List.getElem?_eq_some_iff.mp hij
      rw [List.getElem_range] at ej
      subst ej
      exact wpAny_truthy_bool hQj
    · have nwr5 : ∀ b u, sI.heap.get? b = some u → b ∉ h4.objs.size :: wr := fun b u e hb => by
        have hl := Heap.lt_size e
        rcases List.mem_cons.mp hb with z | z
        · rw [z] at hl
          have hl2 : sI.heap.objs.size ≤ s2.heap.objs.size := szs
          exact Nat.lt_irrefl _ (Nat.lt_of_lt_of_le hl (Nat.le_trans hl2 hsz))
        · exact nwr b hl z
      exact inv_end (more := more) I hP ht4 (fun b u hb e => hm.heap b u (nwr5 b u e) (hk5 b u (up4 b u hb e))) (hm.heap P _ (nwr5 P _ (I.hok P _ hP)) (hk5 P _ hP4)) (AllBare.movedS (by subst e2; exact I.bare.push hgb) hm) (hm.os.trans (by subst e2; rfl))
theorem gen2 {c P : Addr} {elt iter : Expr} {xa xb : Str} {pa pb' pt' gpos : Pos} {kt : Nat} {scope : Scope} {s : Shared} {k : Nat} {Q' : Value → Shared → Prop}
    (hr : Room k X.A) (TB : TabB X.base X.mg c P) (hcode : X.env.code = .ref c) (S : GenS X.env scope xa) (hlb : scope.names.lookup xb = some .local) (hab : xa ≠ xb) (hs : ∀ v, genFold iter X.env v = pure v)
    (h : wpAny (model X.prog X.w) X.A (eval iter X.env) (fun xv s₁ => wpAny (model X.prog X.w) X.A (pyIter xv) (fun it s₂ => ∃ (H1 : Hp) (n : Nat) (pt : Nat → Array Value → Prop) (pb : Nat → Bool) (sI : Shared), Src2 X pins σ H1 P n pt sI it s₂ ∧ TabG H1 P ∧
      Elt2 X sI P scope xa xb elt pt pb ∧ ∀ g s5, ReadyG X pins σ H1 P n pb g s5 → Q' (.ref g) s5) X.xe s₁) X.xe s) :
    wpAny (model X.prog X.w) X.A (eval (.GeneratorExp elt [⟨.Tuple [.Name xa pa, .Name xb pb'] kt pt', iter, [], 0⟩] scope gpos) X.env) Q' X.xe s := by
  refine wpAny_GeneratorExp_walksQTD hr.hd S.co (closure_ok S.free) S.cell S.dot S.loc hlb hab S.kind (by have := hr.dp; omega) ?_ hs
  refine thn h fun xv s1 h1 => thn h1 fun it s2 h2 => ?_
  obtain ⟨H1, n, pf, pb, sI, Z, ⟨ps, hP, ht⟩, el, hQ⟩ := h2
  obtain ⟨I, ⟨h2', tk2, e2⟩, kept, szs, htwo, Ia, fp, wr, St, Mid, rfl, W, hst, hfp, hPf, hwr⟩ := Z
  refine ⟨I.nolimit.keeps kept, ?_⟩
  refine code_bi TB hcode I hP ht kept fun code h4 tk more hx hsz hP4 ht4 lim4 => ?_
  have hh := hr.hd
  have hcs : cStatics < sI.heap.objs.size := let ⟨_, hns, _⟩ := I.nolimit; hns.lt
  have nwr : ∀ b, b < sI.heap.objs.size → b ∉ wr := fun b hl hb => Nat.lt_irrefl _ (Nat.lt_of_lt_of_le hl (hwr b hb))
  have up4 : ∀ b o, b ≠ P → sI.heap.get? b = some o → h4.get? b = some o := fun b o hb e => hx b o hb (kept b o e)
  refine ⟨Ia, fp, wr, n, pf, St, Mid, (fun _ => true), (fun i y => y = .bool (pb i)), rfl, W, htwo, (W X.A hh).frame _ _ _ hst fun b hb u e => hx b u (fun z => hPf (z ▸ hb)) e, fun b hb => Nat.lt_of_lt_of_le (hfp b hb) hsz, lim4, nwr _ hcs, fun href hhref => ?_, fun g h5 tk5 gs hgb hag hsz5 hk5 W5 hat => ?_⟩
  · refine ⟨fun A' E' i va vb s₂ m₂ hA _ _ hPv hn hma hmb hk => ?_, fun A' E' i va vb s₂ m₂ hA hD hU hPv hp hn hma hmb hk => ?_⟩
    · simp only [List.forIn_nil]
      exact wpAny_pure ⟨rfl, keeps_refl _⟩
    · refine el _ code A' E' i va vb s₂ m₂ hA hD hU hPv hn hma hmb fun b o hb e => ?_
      have e4 := up4 b o hb e
      exact hk b (List.mem_range.mpr (Heap.lt_size e4)) (nwr b (Heap.lt_size e)) o (hhref b o e4)
  · simp only [passAll, List.length_range] at W5
    refine hQ g _ ⟨_, _, _, _, _, W5.in4_1, hat, ?_, fun s' hm => ?_⟩
    · intro j y sj Qj Ej hy hQj
      obtain ⟨i, hij, rfl⟩ := hy
      obtain ⟨hj, ej⟩ := List.getElem?_eq_some_iff.mp hij
      rw [List.getElem_range] at ej
      subst ej
      exact wpAny_truthy_bool hQj
    · have nwr5 : ∀ b u, sI.heap.get? b = some u → b ∉ h4.objs.size :: wr := fun b u e hb => by
        have hl := Heap.lt_size e
        rcases List.mem_cons.mp hb with z | z
        · rw [z] at hl
          exact Nat.lt_irrefl _ (Nat.lt_of_lt_of_le hl (Nat.le_trans szs hsz))
        · exact nwr b hl z
      exact inv_end (more := more) I hP ht4 (fun b u hb e => hm.heap b u (nwr5 b u e) (hk5 b u (up4 b u hb e))) (hm.heap P _ (nwr5 P _ (I.hok P _ hP)) (hk5 P _ hP4)) (AllBare.movedS (by subst e2; exact I.bare.push hgb) hm) (hm.os.trans (by subst e2; rfl))

/-- all(..) of a generator that is ready -/
theorem all_go {scope : Scope} {elt : Expr} {cs : List Comprehension} {p pos gpos : Pos} {P : Addr} {s : Shared} {H : Hp} {Q : VK} (I : Inv X pins σ H s)
    (hg : Gl X "all") (hm : X.mg "all" = none)
    (he : starEach [.GeneratorExp elt cs scope gpos] X.env = (false, eval (.GeneratorExp elt cs scope gpos) X.env) :: starEach [] X.env)
    (h : wpAny (model X.prog X.w) X.A (eval (.GeneratorExp elt cs scope gpos) X.env) (fun v s5 => ∃ (H1 : Hp) (n : Nat) (pb : Nat → Bool) (g : Addr), v = .ref g ∧ ReadyG X pins σ H1 P n pb g s5 ∧ ∀ H2, Tabbed P H1 H2 → Q (.bl ((List.range n).all pb)) H2) X.xe s) :
    wpAny (model X.prog X.w) X.A (eval (.Call (.Name "all" p) [.GeneratorExp elt cs scope gpos] [] pos) X.env) (EP X pins σ Q) X.xe s := by
  refine wpAny_Call_Name_kw (ld_blt I hg hm PyProof.Rows.boot_all ?_)
  refine PyProof.Rows.callWith_builtin1 ?_ he (by rfl)
  rw [he]
  show wpAny _ _ (spliced ((false, eval (.GeneratorExp elt cs scope gpos) X.env) :: backTo pos (starEach [] X.env))) _ _ s
  refine Calls.spliced_cons (thn h fun v s5 hv => ?_)
  obtain ⟨H1, n, pb, g, rfl, hG, hQ⟩ := hv
  obtain ⟨fp, wr, G, F, St, W, hst, htr, hI⟩ := hG
  refine Calls.spliced_nil ?_
  refine call_all_walkS (W.self 0 _ _ _ hst ⟨g, fp, wr, G, _, F, St, _, rfl, W, hst, htr, fun s' hmv => ?_⟩)
  obtain ⟨H2, hT, J⟩ := hI s' hmv
  exact ⟨.bl _, H2, J, rfl, hQ H2 hT⟩
/-! ### over a tuple, a text, zip of two tuples -/
abbrev pfT (xs : List V) : Nat → Value → Prop := fun i u => ∃ v, xs[i]? = some v ∧ RelV v u
/-- what the test needs of the place where the walk begins -/
abbrev Rul1 (X : Cx) (P : Addr) (scope : Scope) (x : Str) (elt : Expr) (Re : L2.St → Hp → List V → (Nat → Bool) → Prop) : Prop :=
  ∀ (pins : List (Addr × Obj)) (σ : L2.St) (H1 : Hp) (sI : Shared) (xs : List V) (pb : Nat → Bool), Inv X pins σ H1 sI → TabG H1 P → Re σ H1 xs pb → Elt1 X sI P scope x elt (pfT xs) pb
def tAllT (K : PySem.W.Frag) (P : Addr) (Re : L2.St → Hp → List V → (Nat → Bool) → Prop) (te : TE) : TE := fun σ H Q => te σ H fun v H1 => ∃ (a : Addr) (xs : List V) (pb : Nat → Bool), v = .ref a ∧ SqT K H1 a xs ∧ TabG H1 P ∧ Re σ H1 xs pb ∧
  ∀ H2, Tabbed P H1 H2 → Q (.bl ((List.range xs.length).all pb)) H2
theorem pe_allT {c P : Addr} {elt iter : Expr} {x : Str} {px p pos gpos : Pos} {scope : Scope} {te : TE} {k : Nat} {Re : L2.St → Hp → List V → (Nat → Bool) → Prop}
    (hr : Room k X.A) (hg : Gl X "all") (hm : X.mg "all" = none) (TB : TabB X.base X.mg c P) (hcode : X.env.code = .ref c) (S : GenS X.env scope x) (hi : PE X iter te) (hel : Rul1 X P scope x elt Re)
    (hs : ∀ v, genFold iter X.env v = pure v)
    (he : starEach [.GeneratorExp elt [⟨.Name x px, iter, [], 0⟩] scope gpos] X.env = (false, eval (.GeneratorExp elt [⟨.Name x px, iter, [], 0⟩] scope gpos) X.env) :: starEach [] X.env := by rfl) :
    PE X (.Call (.Name "all" p) [.GeneratorExp elt [⟨.Name x px, iter, [], 0⟩] scope gpos] [] pos) (tAllT X.K P Re te) := by
  refine ⟨fun pins s σ H Q I h => ?_⟩
  refine all_go (P := P) I hg hm he (gen1 (P := P) (pins := pins) (σ := σ) hr TB hcode S hs ?_)
  refine thn (hi.run pins s σ H _ I h) fun xv s1 ⟨v, H1, I1, r1, q1⟩ => ?_
  obtain ⟨a, xs, pb, rfl, hT, hG, hRe, hQ⟩ := q1
  obtain rfl : xv = Value.ref a := r1
  obtain ⟨its, rv, hp, _⟩ := I1.tuple hT
  have ht : s1.heap.IsTuple a its.toArray := hp
  obtain ⟨ps, hP, htr⟩ := id hG
  have hPs : s1.heap.get? P = some { cls := .none, data := .fields ps } := I1.hok P _ hP
  obtain ⟨ob, hob, hc1, n1, hd1⟩ := id ht
  have hPa : P ≠ a := fun e => by
    rw [e, hob] at hPs
    cases hPs
    cases hd1
  have hPl : P < s1.heap.objs.size := Heap.lt_size hPs
  have hal : a < s1.heap.objs.size := Heap.lt_size hob
  have hlen : its.toArray.size = xs.length := by have := rv.length; simp; omega
  refine wpAny_pyIter_tuple ht ?_
  refine ⟨H1, xs.length, pfT xs, pb, s1, ⟨I1, ⟨_, s1.toks, rfl⟩, fun b o e => Heap.get?_push_of_some _ e, ?_, s1.heap.objs.size, [s1.heap.objs.size, a], [s1.heap.objs.size], fun i h => h.IsTupleIter s1.heap.objs.size a i ∧ h.IsTuple a its.toArray, rfl, fun A' hA => ?_, ⟨⟨_, Heap.get?_push_size _ rfl, rfl, rfl⟩, ?_⟩, ?_, ?_, ?_⟩, hG, hel pins σ H1 s1 xs pb I1 hG hRe, fun g s5 hR => ⟨H1, _, pb, g, rfl, hR, hQ⟩⟩
  · rw [Heap.size_push]
    exact Nat.le_succ _
  · have W := Walks.tuple (prog := X.prog) (w := X.w) (A := A') hA s1.heap.objs.size a (Nat.ne_of_lt hal) its.toArray
    rw [hlen] at W
    refine { W with item := fun i s Q E hi st hQ => W.item i s Q E hi st fun v h' tk hv hst hk => hQ v h' tk ?_ hst hk }
    have hx : xs[i]? = some xs[i] := List.getElem?_eq_getElem hi
    obtain ⟨u, hu, ru⟩ := rv.get hx
    have e2 : its.toArray[i]? = some u := by simpa using hu
    rw [e2] at hv
    cases hv
    exact ⟨_, hx, ru⟩
  · exact ⟨ob, Heap.get?_push_of_some _ hob, hc1, n1, hd1⟩
  · intro b hb
    show b < (s1.heap.push _).objs.size
    rw [Heap.size_push]
    have e : b = s1.heap.objs.size ∨ b = a := by simpa using hb
    rcases e with e | e
    · rw [e]; exact Nat.lt_succ_self _
    · rw [e]; exact Nat.lt_succ_of_lt hal
  · intro hb
    have e : P = s1.heap.objs.size ∨ P = a := by simpa using hb
    rcases e with e | e
    · rw [e] at hPl; exact Nat.lt_irrefl _ hPl
    · exact hPa e
  · intro b hb
    have e : b = s1.heap.objs.size := by simpa using hb
    rw [e]
    exact Nat.le_refl _

def tAllX (P : Addr) (pb : Nat → Bool) (te : TE) : TE := fun σ H Q => te σ H fun v H1 => ∃ a : Str, v = .str a ∧ TabG H1 P ∧ ∀ H2, Tabbed P H1 H2 → Q (.bl (a.cps.toList.all pb)) H2
theorem pe_allX {c P : Addr} {elt iter : Expr} {x : Str} {px p pos gpos : Pos} {scope : Scope} {te : TE} {k : Nat} {pb : Nat → Bool}
    (hr : Room k X.A) (hg : Gl X "all") (hm : X.mg "all" = none) (TB : TabB X.base X.mg c P) (hcode : X.env.code = .ref c) (S : GenS X.env scope x) (hi : PE X iter te)
    (hel : ∀ (pins : List (Addr × Obj)) (σ : L2.St) (H1 : Hp) (sI : Shared) (a : Str), Inv X pins σ H1 sI → TabG H1 P → Elt1 X sI P scope x elt (SignAt a) (trF pb a.cps.toList))
    (hs : ∀ v, genFold iter X.env v = pure v)
    (he : starEach [.GeneratorExp elt [⟨.Name x px, iter, [], 0⟩] scope gpos] X.env = (false, eval (.GeneratorExp elt [⟨.Name x px, iter, [], 0⟩] scope gpos) X.env) :: starEach [] X.env := by rfl) :
    PE X (.Call (.Name "all" p) [.GeneratorExp elt [⟨.Name x px, iter, [], 0⟩] scope gpos] [] pos) (tAllX P pb te) := by
  refine ⟨fun pins s σ H Q I h => ?_⟩
  refine all_go (P := P) I hg hm he (gen1 (P := P) (pins := pins) (σ := σ) hr TB hcode S hs ?_)
  refine thn (hi.run pins s σ H _ I h) fun xv s1 ⟨v, H1, I1, r1, q1⟩ => ?_
  obtain ⟨a, rfl, hG, hQ⟩ := q1
  obtain ⟨t, rfl⟩ := _root_.id r1
  obtain ⟨ps, hP, htr⟩ := id hG
  have hPs : s1.heap.get? P = some { cls := .none, data := .fields ps } := I1.hok P _ hP
  have hPl : P < s1.heap.objs.size := Heap.lt_size hPs
  refine wpAny_pyIter_str fun o St W hst => ?_
  refine ⟨H1, a.cps.size, SignAt a, trF pb a.cps.toList, s1, ⟨I1, ⟨_, s1.toks, rfl⟩, fun b o e => Heap.get?_push_of_some _ e, ?_, s1.heap.objs.size, [s1.heap.objs.size], [s1.heap.objs.size], St, rfl, W, hst, ?_, ?_, ?_⟩, hG, hel pins σ H1 s1 a I1 hG, fun g s5 hR => ⟨H1, _, _, g, rfl, hR, fun H2 hT => ?_⟩⟩
  · rw [Heap.size_push]
    exact Nat.le_succ _
  · intro b hb
    show b < (s1.heap.push _).objs.size
    rw [Heap.size_push]
    have e : b = s1.heap.objs.size := by simpa using hb
    rw [e]; exact Nat.lt_succ_self _
  · intro hb
    have e : P = s1.heap.objs.size := by simpa using hb
    rw [e] at hPl; exact Nat.lt_irrefl _ hPl
  · intro b hb
    have e : b = s1.heap.objs.size := by simpa using hb
    rw [e]
    exact Nat.le_refl _
  · rw [all_signs a pb]
    exact hQ H2 hT

abbrev ptZ (xs ys : List V) : Nat → Array Value → Prop := fun i vals => ∃ v w a b, xs[i]? = some v ∧ ys[i]? = some w ∧ RelV v a ∧ RelV w b ∧ vals = #[a, b]
abbrev Rul2 (X : Cx) (P : Addr) (scope : Scope) (xa xb : Str) (elt : Expr) (Re : L2.St → Hp → List V → List V → (Nat → Bool) → Prop) : Prop :=
  ∀ (pins : List (Addr × Obj)) (σ : L2.St) (H1 : Hp) (sI : Shared) (xs ys : List V) (pb : Nat → Bool), Inv X pins σ H1 sI → TabG H1 P → Re σ H1 xs ys pb → Elt2 X sI P scope xa xb elt (ptZ xs ys) pb
def tAllZ (K : PySem.W.Frag) (P : Addr) (Re : L2.St → Hp → List V → List V → (Nat → Bool) → Prop) (ta : TA) : TE := fun σ H Q => ta σ H fun vs H1 => ∃ (a b : Addr) (xs ys : List V) (pb : Nat → Bool), vs = [.ref a, .ref b] ∧ SqT K H1 a xs ∧ SqT K H1 b ys ∧ TabG H1 P ∧ Re σ H1 xs ys pb ∧
  ∀ H2, Tabbed P H1 H2 → Q (.bl ((List.range (min xs.length ys.length)).all pb)) H2
theorem pe_allZ {c P : Addr} {elt e1 e2 : Expr} {xa xb : Str} {pa pb' pt' pz pz2 p pos gpos : Pos} {kt : Nat} {scope : Scope} {ta : TA} {k : Nat} {Re : L2.St → Hp → List V → List V → (Nat → Bool) → Prop}
    (hr : Room k X.A) (hg : Gl X "all") (hm : X.mg "all" = none) (hgz : Gl X "zip") (hmz : X.mg "zip" = none) (TB : TabB X.base X.mg c P) (hcode : X.env.code = .ref c) (S : GenS X.env scope xa) (hlb : scope.names.lookup xb = some .local) (hab : xa ≠ xb) (ha : PA X [e1, e2] ta) (hel : Rul2 X P scope xa xb elt Re)
    (hs : ∀ v, genFold (.Call (.Name "zip" pz) [e1, e2] [] pz2) X.env v = pure v)
    (hst : starEach [e1, e2] X.env = (false, eval e1 X.env) :: starEach [e2] X.env := by rfl) (hpl : (backTo pz2 (starEach [e2] X.env)).any (·.1) = false := by rfl)
    (he : starEach [.GeneratorExp elt [⟨.Tuple [.Name xa pa, .Name xb pb'] kt pt', .Call (.Name "zip" pz) [e1, e2] [] pz2, [], 0⟩] scope gpos] X.env = (false, eval (.GeneratorExp elt [⟨.Tuple [.Name xa pa, .Name xb pb'] kt pt', .Call (.Name "zip" pz) [e1, e2] [] pz2, [], 0⟩] scope gpos) X.env) :: starEach [] X.env := by rfl) :
    PE X (.Call (.Name "all" p) [.GeneratorExp elt [⟨.Tuple [.Name xa pa, .Name xb pb'] kt pt', .Call (.Name "zip" pz) [e1, e2] [] pz2, [], 0⟩] scope gpos] [] pos) (tAllZ X.K P Re ta) := by
  refine ⟨fun pins s σ H Q I h => ?_⟩
  refine all_go (P := P) I hg hm he (gen2 (P := P) (pins := pins) (σ := σ) hr TB hcode S hlb hab hs ?_)
  refine Call_ (ld_blt I hgz hmz PyProof.Rows.boot_zip (PyProof.Rows.callWith_type1 (thn (ha.run pz2 pins s σ H _ I h) fun us s1 ⟨vs, H1, I1, r1, q1⟩ => ?_) hst hpl))
  obtain ⟨a, b, xs, ys, pb, rfl, hT, hT2, hG, hRe, hQ⟩ := q1
  obtain ⟨u1, u2, rfl, ru1, ru2⟩ := vals2 r1
  obtain rfl : u1 = Value.ref a := ru1
  obtain rfl : u2 = Value.ref b := ru2
  obtain ⟨its, rv, hp, _⟩ := I1.tuple hT
  obtain ⟨its2, rv2, hp2, _⟩ := I1.tuple hT2
  have ht : s1.heap.IsTuple a its.toArray := hp
  have ht2 : s1.heap.IsTuple b its2.toArray := hp2
  obtain ⟨ps, hP, htr⟩ := id hG
  have hPs : s1.heap.get? P = some { cls := .none, data := .fields ps } := I1.hok P _ hP
  obtain ⟨ob, hob, hc1, n1, hd1⟩ := id ht
  obtain ⟨ob2, hob2, hc2, n2, hd2⟩ := id ht2
  have hPa : P ≠ a := fun e => by
    rw [e, hob] at hPs
    cases hPs
    cases hd1
  have hPb : P ≠ b := fun e => by
    rw [e, hob2] at hPs
    cases hPs
    cases hd2
  have hPl : P < s1.heap.objs.size := Heap.lt_size hPs
  have hal : a < s1.heap.objs.size := Heap.lt_size hob
  have hbl : b < s1.heap.objs.size := Heap.lt_size hob2
  have hlen : its.toArray.size = xs.length := by have := rv.length; simp; omega
  have hlen2 : its2.toArray.size = ys.length := by have := rv2.length; simp; omega
  refine zip_begins2 (begins_tuple a its.toArray) (begins_tuple b its2.toArray) ht ht2 fun h' hz hTI hTO g1 g2 hsz hk => ?_
  refine wpAny_pyIter_zip hz ?_
  have sep := zip_sep2 (N := s1.heap.objs.size) (fp1 := [a]) (fp2 := [b]) (fun c hc => by rw [List.mem_singleton.mp hc]; exact hal) (fun c hc => by rw [List.mem_singleton.mp hc]; exact hbl)
  have W : ∀ A' : Around, A'.handled = none → _ := fun A' hA => (WalksT.zipD2 (A := A') sep (Draws.tuple (prog := X.prog) (w := X.w) (A := A'.in1) hA s1.heap.objs.size a (Nat.ne_of_lt hal) its.toArray) (Draws.tuple (prog := X.prog) (w := X.w) (A := A'.in1) hA (s1.heap.objs.size + 1) b (Nat.ne_of_lt (Nat.lt_succ_of_lt hbl)) its2.toArray)).toU
  refine ⟨H1, min xs.length ys.length, ptZ xs ys, pb, s1, ⟨I1, ⟨_, s1.toks, rfl⟩, hk, by show s1.heap.objs.size ≤ h'.objs.size; rw [hsz]; exact Nat.le_add_right _ _, ?_, s1.heap.objs.size + 4, [s1.heap.objs.size + 4, s1.heap.objs.size + 2, s1.heap.objs.size + 3, s1.heap.objs.size, a, s1.heap.objs.size + 1, b], [s1.heap.objs.size + 4, s1.heap.objs.size + 3, s1.heap.objs.size, s1.heap.objs.size + 1], fun i h => IsZip h (s1.heap.objs.size + 4) (s1.heap.objs.size + 2) (s1.heap.objs.size + 3) .none ∧ IsTupOf2 h (s1.heap.objs.size + 2) (.ref s1.heap.objs.size) (.ref (s1.heap.objs.size + 1)) ∧ (∃ a1 a2, IsTupOf2 h (s1.heap.objs.size + 3) a1 a2) ∧ (h.IsTupleIter s1.heap.objs.size a i ∧ h.IsTuple a its.toArray) ∧ (h.IsTupleIter (s1.heap.objs.size + 1) b i ∧ h.IsTuple b its2.toArray), fun i T h => IsZip h (s1.heap.objs.size + 4) (s1.heap.objs.size + 2) (s1.heap.objs.size + 3) (rawInt T) ∧ IsTupOf2 h (s1.heap.objs.size + 2) (.ref s1.heap.objs.size) (.ref (s1.heap.objs.size + 1)) ∧ (∃ a1 a2, IsTupOf2 h (s1.heap.objs.size + 3) a1 a2) ∧ (h.IsTupleIter s1.heap.objs.size a (i + 1) ∧ h.IsTuple a its.toArray) ∧ (h.IsTupleIter (s1.heap.objs.size + 1) b (i + 1) ∧ h.IsTuple b its2.toArray) ∧ T ≠ s1.heap.objs.size + 4 ∧ T ≠ s1.heap.objs.size + 3 ∧ T ≠ s1.heap.objs.size ∧ T ≠ s1.heap.objs.size + 1, rfl, fun A' hA => ?_, ⟨hz, hTI, ⟨_, _, hTO⟩, ⟨⟨_, g1, rfl, rfl⟩, ⟨ob, hk _ _ hob, hc1, n1, hd1⟩⟩, ⟨_, g2, rfl, rfl⟩, ⟨ob2, hk _ _ hob2, hc2, n2, hd2⟩⟩, ?_, ?_, ?_⟩, hG, hel pins σ H1 s1 xs ys pb I1 hG hRe, fun g s5 hR => ⟨H1, _, pb, g, rfl, hR, hQ⟩⟩
  · rintro i vals ⟨_, _, va, vb, _, _, _, _, e⟩
    exact ⟨va, vb, e⟩
  · have W1 := W A' hA
    rw [hlen, hlen2] at W1
    refine { W1 with item := fun i s Q E hi st hQ => W1.item i s Q E hi st fun T vals h' tk hv hT hm hk => hQ T vals h' tk ?_ hT hm hk }
    obtain ⟨x1, x2, y1, y2, rfl⟩ := hv
    have hi1 : i < xs.length := by omega
    have hi2 : i < ys.length := by omega
    have hx : xs[i]? = some xs[i] := List.getElem?_eq_getElem hi1
    have hy : ys[i]? = some ys[i] := List.getElem?_eq_getElem hi2
    obtain ⟨u, hu, ru⟩ := rv.get hx
    obtain ⟨u2, hu2, ru2⟩ := rv2.get hy
    have z1 : its.toArray[i]? = some u := by simpa using hu
    have z2 : its2.toArray[i]? = some u2 := by simpa using hu2
    rw [z1] at y1
    rw [z2] at y2
    cases y1
    cases y2
    exact ⟨_, _, _, _, hx, hy, ru, ru2, rfl⟩
  · intro c hc
    show c < h'.objs.size
    have e : c = s1.heap.objs.size + 4 ∨ c = s1.heap.objs.size + 2 ∨ c = s1.heap.objs.size + 3 ∨ c = s1.heap.objs.size ∨ c = a ∨ c = s1.heap.objs.size + 1 ∨ c = b := by simpa using hc
    rw [hsz]
    rcases e with e | e | e | e | e | e | e <;> rw [e]
    · exact Nat.add_lt_add_left (by decide) _
    · exact Nat.add_lt_add_left (by decide) _
    · exact Nat.add_lt_add_left (by decide) _
    · exact Nat.lt_add_of_pos_right (by decide)
    · exact Nat.lt_of_lt_of_le hal (Nat.le_add_right _ _)
    · exact Nat.add_lt_add_left (by decide) _
    · exact Nat.lt_of_lt_of_le hbl (Nat.le_add_right _ _)
  · intro hc
    have e : P = s1.heap.objs.size + 4 ∨ P = s1.heap.objs.size + 2 ∨ P = s1.heap.objs.size + 3 ∨ P = s1.heap.objs.size ∨ P = a ∨ P = s1.heap.objs.size + 1 ∨ P = b := by simpa using hc
    have no : ∀ j : Nat, P ≠ s1.heap.objs.size + j := fun j q => by rw [q] at hPl; exact absurd hPl (Nat.not_lt.mpr (Nat.le_add_right _ _))
    rcases e with e | e | e | e | e | e | e
    · exact no 4 e
    · exact no 2 e
    · exact no 3 e
    · exact no 0 e
    · exact hPa e
    · exact no 1 e
    · exact hPb e
  · intro c hc
    have e : c = s1.heap.objs.size + 4 ∨ c = s1.heap.objs.size + 3 ∨ c = s1.heap.objs.size ∨ c = s1.heap.objs.size + 1 := by simpa using hc
    rcases e with e | e | e | e <;> rw [e]
    · exact Nat.le_add_right _ _
    · exact Nat.le_add_right _ _
    · exact Nat.le_refl _
    · exact Nat.le_add_right _ _
end
end Kg
set_option maxHeartbeats 4000000
/-! The tests within the generator expressions: is_number(place, 0, len(box) - 1), one < other, sign in FIGURES. -/
namespace Kg
open PySem PySem.Spec PyProof.Rows L2 GxR Kt
/-- is_number's answer -/
def numB (v : V) (lo hi : Int) : Bool := match v with
  | .int i => decide (lo ≤ i) && decide (i ≤ hi)
  | _ => false
section
variable {P : Program} {w : World} {A : Around} {E : Value → Shared → Prop} {s : Shared} {K : PySem.W.Frag} {mg : Str → Option Value} {base : Heap} {env : Env}
/-- a name of the text is what it was at the base -/
theorem ldB {x : Str} {u : Value} {pos : Pos} {Q : Value → Shared → Prop} (M : Mod K mg base) (bk : ∀ b o, base.get? b = some o → s.heap.get? b = some o) (hk : env.scope.kind = .function) (hg : env.kindOf x = some .globalImplicit) (gl : env.globals = mainGlobals) (bl : env.builtins = builtinsNs)
    (hm : mg x = none) (hv : bootBuiltins x = some u) (h : Q u s) (hn : x ≠ "__name__" := by decide) (hd : (x == ("__debug__" : Str)) = false := by decide) : wpAny (model P w) A (eval (.Name x pos) env) Q E s := by
  obtain ⟨mb, h1, h2⟩ := M.blt
  exact Calls.Name_function_global hk hg (Calls.loadGlobal_builtin (by rw [gl]; exact M.glob.keeps bk) hm (by rw [bl]; exact h1.keeps bk) ((h2 x hn).trans hv) h) hd
theorem ldG {x : Str} {u : Value} {pos : Pos} {Q : Value → Shared → Prop} (M : Mod K mg base) (bk : ∀ b o, base.get? b = some o → s.heap.get? b = some o) (hk : env.scope.kind = .function) (hg : env.kindOf x = some .globalImplicit) (gl : env.globals = mainGlobals)
    (hm : mg x = some u) (h : Q u s) (hd : (x == ("__debug__" : Str)) = false := by decide) : wpAny (model P w) A (eval (.Name x pos) env) Q E s :=
  Calls.Name_function_global hk hg (Calls.loadGlobal_global (by rw [gl]; exact M.glob.keeps bk) hm h) hd
/-- isinstance of an int or None, in the body of is_number -/
theorem isi {T : String} {v : V} {u : Value} {b : Bool} {p1 p2 p3 p4 : Pos} {m : Str → Option Value} {Q : Value → Shared → Prop} (M : Mod K mg base) (bk : ∀ b o, base.get? b = some o → s.heap.get? b = some o) (hk : env.scope.kind = .function) (gl : env.globals = mainGlobals) (bl : env.builtins = builtinsNs)
    (hg1 : env.kindOf "isinstance" = some .globalImplicit) {xT : Str} (hg2 : env.kindOf xT = some .globalImplicit) (hl : env.kindOf "value" = some .local) (mi : mg "isinstance" = none) (mT : mg xT = none) (vT : bootBuiltins xT = some (.type T)) (hn : s.heap.Ns env.locals m) (hm : m "value" = some u)
    (ru : (v = .non ∧ u = .none ∧ kitB "NoneType" T = some b) ∨ ∃ i t, v = .int i ∧ u = .int i t ∧ kitB "int" T = some b) (h : ∀ tk, Q (.bool b) { s with toks := tk })
    (hT : xT ≠ "__name__" := by decide) (hT2 : (xT == ("__debug__" : Str)) = false := by decide) :
    wpAny (model P w) A (eval (.Call (.Name "isinstance" p1) [.Name "value" p2, .Name xT p3] [] p4) env) Q E s := by
  have X : K.In s.heap := M.kin.keeps bk
  refine wpAny_Call_Name_kw (ldB (u := .builtin "isinstance") M bk hk hg1 gl bl mi (by decide +kernel) ?_)
  refine PyProof.Rows.callWith_builtin1 ?_ (by rfl) (by rfl)
  show wpAny _ _ (spliced [(false, eval (.Name "value" p2) env), (false, eval (.Name xT p3) env)]) _ _ s
  refine Calls.spliced_cons (wpAny_Name (wpAny_loadName_local hk hl hn hm ?_) (by decide))
  refine Calls.spliced_cons (ldB M bk hk hg2 gl bl mT vT ?_ hT hT2)
  refine Calls.spliced_nil ?_
  rcases ru with ⟨rfl, rfl, e⟩ | ⟨i, t, rfl, rfl, e⟩
  · exact PySem.W.kia_one PySem.W.kitx_none X True.intro (kit_ty e) (fun z => nomatch z) h
  · exact PySem.W.kia_one PySem.W.kitx_int X True.intro (kit_ty e) (fun z => nomatch z) h
theorem numBody : ∃ p1 p2 p3 p4 p5 p6 p7 p8 p9 p10 p11 p12 p13 p14 p15, defBody sIsNum = [.Return (some (.BoolOp .And [.Call (.Name "isinstance" p1) [.Name "value" p2, .Name "int" p3] [] p4, .UnaryOp .Not (.Call (.Name "isinstance" p5) [.Name "value" p6, .Name "bool" p7] [] p8) p9,
    .Compare (.Name "low" p10) [.LtE, .LtE] [.Name "value" p11, .Name "high" p12] p13] p14)) p15] := ⟨_, _, _, _, _, _, _, _, _, _, _, _, _, _, _, rfl⟩
theorem num_call {f : Addr} {fd : FuncData} {v : V} {u : Value} {lo hi : Int} {t1 t2 : Tok} {Q : Value → Shared → Prop}
    (F : FunD K "is_number" "is_number" (defArgs sIsNum) (defBody sIsNum) (defScope sIsNum) [] [] f fd) (M : Mod K mg base) (bk : ∀ b o, base.get? b = some o → s.heap.get? b = some o)
    (mi : mg "isinstance" = none) (m1 : mg "int" = none) (m2 : mg "bool" = none) (room : A.depth < recursionLimit) (hv : v = .non ∨ ∃ i, v = .int i) (ru : RelV v u)
    (h : ∀ s', Keeps s s' → Q (.bool (numB v lo hi)) s') : wpAny (model P w) A (call (.ref f) [u, .int lo t1, .int hi t2]) Q E s := by
  have X : K.In s.heap := M.kin.keeps bk
  have B : BindsTo s fd ⟨[u, .int lo t1, .int hi t2], []⟩ [("value", u), ("low", .int lo t1), ("high", .int hi t2)] := F.bindsA (ps := ["value", "low", "high"]) (fun kV doc pm an cdv ct us hl => by
    match us, hl with
    | [a, b, c], _ => rfl) s [u, .int lo t1, .int hi t2] rfl
  obtain ⟨oc, od, dV, kV, doc, pm, an, cdv, ct, osl, rfl, lk, hcd, hD, hK⟩ := F.ex
  refine wpAny_call (Att.call_fn X (M.nolimit.keeps bk) lk hcd room B (by rfl) (fun s₁ C => ?_) (by rfl) (by rfl) (by rfl))
  obtain ⟨p1, p2, p3, p4, p5, p6, p7, p8, p9, p10, p11, p12, p13, p14, p15, eb⟩ := numBody
  rw [eb]
  have hn : s₁.heap.Ns s.heap.objs.size _ := C.toInCall.ns
  obtain ⟨h1, tk1, rfl⟩ := C.toInCall.same
  have bk1 : ∀ b o, base.get? b = some o → h1.get? b = some o := fun b o e => C.toInCall.keep b o (bk b o e)
  have fin : ∀ (tk : Nat) (b : Bool), b = numB v lo hi → Q (.bool b) { s with heap := h1, toks := tk } := fun tk b e => by
    rw [e]
    exact h _ ⟨h1, tk, rfl, C.toInCall.keep⟩
  refine wpAny_execs_cons (thn (wpAny_Return_some (Q := fun f s' => ∃ b tk, f = .ret (.bool b) ∧ b = numB v lo hi ∧ s' = { s with heap := h1, toks := tk }) ?_) fun fl s' hq => ?_)
  · refine BoolOp_and ?_
    rcases hv with rfl | ⟨i, rfl⟩
    · obtain rfl : u = Value.none := ru
      refine isi (v := .non) (b := false) (T := "int") M bk1 (by rfl) rfl rfl (by rfl) (by rfl) (by rfl) mi m1 (by decide +kernel) hn rfl (.inl ⟨rfl, rfl, by decide +kernel⟩) fun tk => ?_
      refine wpAny_truthy_bool ?_
      exact ⟨false, tk, rfl, rfl, rfl⟩
    · obtain ⟨t, rfl⟩ := ru
      refine isi (v := .int i) (b := true) (T := "int") M bk1 (by rfl) rfl rfl (by rfl) (by rfl) (by rfl) mi m1 (by decide +kernel) hn rfl (.inr ⟨i, t, rfl, rfl, by decide +kernel⟩) fun tk => ?_
      refine wpAny_truthy_bool ?_
      refine BoolOp_and (UnaryOp_ ?_)
      refine isi (v := .int i) (b := false) (T := "bool") M bk1 (by rfl) rfl rfl (by rfl) (by rfl) (by rfl) mi m2 (by decide +kernel) hn rfl (.inr ⟨i, t, rfl, rfl, by decide +kernel⟩) fun tk2 => ?_
      refine not_of (wpAny_truthy_bool (wpAny_truthy_bool ?_))
      refine BoolOp_one (Compare_chain (wpAny_Name (wpAny_loadName_local (by rfl) (by rfl) hn rfl ?_) (by decide)))
      refine chain_link (wpAny_Name (wpAny_loadName_local (by rfl) (by rfl) hn rfl ?_) (by decide))
      refine le_int ?_
      refine wpAny_truthy_bool ?_
      by_cases hc : lo ≤ i
      · have e1 : decide (lo ≤ i) = true := decide_eq_true hc
        rw [e1]
        refine chain_last (wpAny_Name (wpAny_loadName_local (by rfl) (by rfl) hn rfl ?_) (by decide))
        refine le_int ⟨decide (i ≤ hi), tk2, rfl, ?_, rfl⟩
        unfold numB
        simp only [e1, Bool.true_and]
      · have e1 : decide (lo ≤ i) = false := decide_eq_false hc
        rw [e1]
        refine ⟨false, tk2, rfl, ?_, rfl⟩
        unfold numB
        simp only [e1, Bool.false_and]
  · obtain ⟨b, tk, rfl, e, rfl⟩ := hq
    exact fin tk b e
end
section
variable {X : Cx} {P : Addr} {scope : Scope}
theorem not_table {pins : List (Addr × Obj)} {σ : L2.St} {H1 : Hp} {sI : Shared} (I : Inv X pins σ H1 sI) (hG : TabG H1 P) {b : Addr} {o : Obj} (e : X.base.get? b = some o) : b ≠ P := fun q => by
  obtain ⟨ps, hP, _⟩ := hG
  have := (I.bs b o e).2
  rw [q, hP] at this
  cases this
theorem base_up {pins : List (Addr × Obj)} {σ : L2.St} {H1 : Hp} {sI s2 : Shared} (I : Inv X pins σ H1 sI) (hG : TabG H1 P) (k : ∀ b o, b ≠ P → sI.heap.get? b = some o → s2.heap.get? b = some o) : ∀ b o, X.base.get? b = some o → s2.heap.get? b = some o :=
  fun b o e => k b o (not_table I hG e) (I.bk b o e)
/-- is_number(x, 0, len(box) - 1), box a captured name in slot ib -/
def ReNum (K : PySem.W.Frag) (ib : Nat) : L2.St → Hp → List V → (Nat → Bool) → Prop := fun σ H xs pb => ∃ (b : Addr) (bs : List V), σ[ib]? = some (some (.ref b)) ∧ SqT K H b bs ∧
  (∀ v ∈ xs, v = .non ∨ ∃ i, v = .int i) ∧ ∀ i v, xs[i]? = some v → pb i = numB v 0 ((bs.length : Int) - 1)
theorem elt_num {f : Addr} {fd : FuncData} {x xb : Str} {ib k : Nat} {p1 p2 p3 p4 p5 p6 p7 p8 p9 : Pos} {j1 j2 : Nat}
    (F : FunD X.K "is_number" "is_number" (defArgs sIsNum) (defBody sIsNum) (defScope sIsNum) [] [] f fd) (hr : Room (k + 1) X.A) (mf : X.mg "is_number" = some (.ref f)) (kp : PySem.W.keepIn X.K (.ref f) = true)
    (mi : X.mg "isinstance" = none) (m1 : X.mg "int" = none) (m2 : X.mg "bool" = none) (ml : X.mg "len" = none)
    (hk : scope.kind = .function) (hx : scope.names.lookup x = some .local) (hb : scope.names.lookup xb = some .free) (hg1 : scope.names.lookup ("is_number" : Str) = some .globalImplicit) (hg2 : scope.names.lookup ("len" : Str) = some .globalImplicit)
    (hN : X.N[ib]? = some xb) (hc : X.env.kindOf xb = some .cell) (hfree : ∀ cells, (cloFrom cells scope.names []).lookup xb = some ((cells.lookup xb).getD 0))
    (d1 : (x == ("__debug__" : Str)) = false := by decide) (d2 : (xb == ("__debug__" : Str)) = false := by decide) (d3 : (xb == ("__classdict__" : Str)) = false := by decide) :
    Rul1 X P scope x (.Call (.Name "is_number" p1) [.Name x p2, .Constant (.int 0) j1 p3, .BinOp (.Call (.Name "len" p4) [.Name xb p5] [] p6) .Sub (.Constant (.int 1) j2 p7) p8] [] p9) (ReNum X.K ib) := by
  intro pins σ H1 sI xs pb I hG hRe C code A' E' i u s₂ m₂ hA hD hU hpf hn hm hkeep
  obtain ⟨b, bs, hs, hT, hxs, hpb⟩ := hRe
  obtain ⟨v, hv, ru⟩ := hpf
  have bk2 := base_up I hG hkeep
  have M := I.mod
  have gl : (genv X scope C code builtinsNs).globals = mainGlobals := I.ok.glob
  have bl : (genv X scope C code builtinsNs).builtins = builtinsNs := rfl
  -- the captured box
  obtain ⟨mI, hnI, hl⟩ := I.loc
  obtain ⟨ub, rb, lk⟩ := hl ib xb (.ref b) hN hs (.inr (.inl hc))
  obtain rfl : ub = Value.ref b := rb
  have hcell : ∃ c, X.env.cells.lookup xb = some c ∧ sI.heap.IsCell c (some (.ref b)) := by
    rcases lk with ⟨q, _⟩ | ⟨_, z⟩
    · rw [hc] at q
      cases q
    · exact z
  obtain ⟨c, hcl, oc, hoc, hdc⟩ := hcell
  obtain ⟨ps, hP, _⟩ := id hG
  have hPs : sI.heap.get? P = some { cls := .none, data := .fields ps } := I.hok P _ hP
  have hcP : c ≠ P := fun e => by
    rw [e, hPs] at hoc
    cases hoc
    cases hdc
  have hc2 : s₂.heap.IsCell c (some (.ref b)) := ⟨oc, hkeep c oc hcP hoc, hdc⟩
  have hlk2 : (genv X scope C code builtinsNs).cells.lookup xb = some c := by
    show (cloFrom X.env.cells scope.names []).lookup xb = some c
    rw [hfree, hcl]
    rfl
  -- the box's tuple
  obtain ⟨its, rv, hp, hz⟩ := I.tuple hT
  obtain ⟨ob, hob, hcb, n, hdb⟩ := (show sI.heap.IsTuple b its.toArray from hp)
  have hbP : b ≠ P := fun e => by
    rw [e, hPs] at hob
    cases hob
    cases hdb
  have hT2 : IsTup s₂.heap b its.toArray := ⟨ob, hkeep b ob hbP hob, hcb, n, hdb⟩
  have hlen : its.length = bs.length := rv.length.symm
  refine wpAny_Call_Name_kw (ldG M bk2 hk hg1 gl mf ?_)
  refine PySem.W.callWith_K (h₀ := X.base) M.kin kp ?_ (by rfl) (by rfl)
  show wpAny _ _ (spliced [(false, eval (.Name x p2) _), (false, eval (.Constant (.int 0) j1 p3) _), (false, eval (.BinOp _ _ _ p8) _)]) _ _ s₂
  refine Calls.spliced_cons (wpAny_Name (wpAny_loadName_local hk hx hn hm ?_) d1)
  refine Calls.spliced_cons (wpAny_Constant_int ?_)
  refine Calls.spliced_cons (wpAny_BinOp ?_)
  refine wpAny_Call_Name_kw (ldB (u := .builtin "len") M bk2 hk hg2 gl bl ml (by decide +kernel) ?_)
  refine PyProof.Rows.callWith_builtin1 ?_ (by rfl) (by rfl)
  show wpAny _ _ (spliced [(false, eval (.Name xb p5) _)]) _ _ _
  refine Calls.spliced_cons (wpAny_Name (wpAny_loadName_free hk hb hlk2 hc2 ?_ d3) d2)
  refine Calls.spliced_nil ?_
  refine len_tuple hT2 (by
    have : its.toArray.size = bs.length := by simp; omega
    rw [this]
    have h9 : sizeLine < 2 ^ 63 := by decide
    omega) ?_
  refine wpAny_Constant_int ?_
  refine SiftDown.sub_int ?_
  refine Calls.spliced_nil ⟨M.kin.keeps bk2, ?_⟩
  have hvx : v = .non ∨ ∃ i, v = .int i := hxs v (List.mem_of_getElem? hv)
  have dp : A'.depth < recursionLimit := by
    have h1 := hr.dp
    have h2 := hD
    omega
  refine num_call F M (s := { s₂ with toks := _ }) bk2 mi m1 m2 dp hvx ru fun s' hk' => ⟨?_, ?_⟩
  · rw [hpb i v hv]
    congr 2
    simp
    omega
  · obtain ⟨h', tk', e, k'⟩ := hk'
    exact ⟨h', tk', by rw [e], k'⟩
/-- one < other -/
def ReLt : L2.St → Hp → List V → List V → (Nat → Bool) → Prop := fun _ _ xs ys pb => (∀ v ∈ xs, ∃ i, v = .int i) ∧ (∀ v ∈ ys, ∃ i, v = .int i) ∧ ∀ k i j, xs[k]? = some (.int i) → ys[k]? = some (.int j) → pb k = decide (i < j)
theorem elt_lt {xa xb : Str} {p1 p2 p3 : Pos} (hk : scope.kind = .function) (ha : scope.names.lookup xa = some .local) (hb : scope.names.lookup xb = some .local)
    (d1 : (xa == ("__debug__" : Str)) = false := by decide) (d2 : (xb == ("__debug__" : Str)) = false := by decide) :
    Rul2 X P scope xa xb (.Compare (.Name xa p1) [.Lt] [.Name xb p2] p3) ReLt := by
  intro pins σ H1 sI xs ys pb I hG hRe C code A' E' i ua ub s₂ m₂ hA hD hU hpf hn hma hmb hkeep
  obtain ⟨hx, hy, hpb⟩ := hRe
  obtain ⟨v, w, a, b, hv, hw, ra, rb, e⟩ := hpf
  obtain ⟨rfl, rfl⟩ : ua = a ∧ ub = b := by
    have e2 := congrArg Array.toList e
    simpa using e2
  obtain ⟨i1, rfl⟩ := hx v (List.mem_of_getElem? hv)
  obtain ⟨i2, rfl⟩ := hy w (List.mem_of_getElem? hw)
  obtain ⟨t1, rfl⟩ := ra
  obtain ⟨t2, rfl⟩ := rb
  refine wpAny_Compare1 (wpAny_Name (wpAny_loadName_local hk ha hn hma ?_) d1) (nobehind _ (by decide) (by decide))
  refine wpAny_Name (wpAny_loadName_local hk hb hn hmb ?_) d2
  refine lt_int ⟨?_, keeps_refl _⟩
  rw [hpb i i1 i2 hv hw]
/-- sign in FIGURES -/
theorem elt_in {x y : Str} {fg : Str} {ft : Tok} {p1 p2 p3 : Pos} (hk : scope.kind = .function) (hx : scope.names.lookup x = some .local) (hy : scope.names.lookup y = some .globalImplicit) (my : X.mg y = some (.str fg ft))
    (d1 : (x == ("__debug__" : Str)) = false := by decide) (d2 : (y == ("__debug__" : Str)) = false := by decide) :
    ∀ (pins : List (Addr × Obj)) (σ : L2.St) (H1 : Hp) (sI : Shared) (a : Str), Inv X pins σ H1 sI → TabG H1 P → Elt1 X sI P scope x (.Compare (.Name x p1) [.In] [.Name y p2] p3) (SignAt a) (trF (fun c => decide (c ∈ fg.cps.toList)) a.cps.toList) := by
  intro pins σ H1 sI a I hG C code A' E' i u s₂ m₂ hA hD hU hpf hn hm hkeep
  obtain ⟨c, t, hc, rfl⟩ := hpf
  have bk2 := base_up I hG hkeep
  have gl : (genv X scope C code builtinsNs).globals = mainGlobals := I.ok.glob
  refine wpAny_Compare1 (wpAny_Name (wpAny_loadName_local hk hx hn hm ?_) d1) (by rfl)
  refine ldG I.mod bk2 hk hy gl my ?_ d2
  refine PyProof.Rows.in_str ⟨?_, keeps_refl _⟩
  rw [PySem.StrLaws.found_one fg c]
  have e9 : a.cps.toList[i]? = some c := by rw [Array.getElem?_toList]; exact hc
  rw [trF_some e9]
end
end Kg
set_option maxHeartbeats 4000000
/-! Rules that the layer lacks: enumerate over a tuple. -/
namespace Kr
open PySem PySem.Spec PyProof.Rows L2
theorem meets_enum1 {v : Value} {o : Obj} {H : Heap → Prop} (B : Begins v o H) :
    Meets (Builtin.«enumerate.__new__» ⟨[.type "enumerate", v], []⟩) (fun _ R s => H s.heap ∧
      R (.ok (.ret (.ref (s.heap.push o).objs.size))) { s with heap := (s.heap.push o).push { cls := .type "enumerate", data := .fields #[.none, .bool false, .ref s.heap.objs.size, rawInt 0, .none, .none] } }) :=
  .of_wp fun prog w A R s h => by
    obtain ⟨hp, g, d, tk, os⟩ := s
    obtain ⟨h1, h⟩ := h
    have hsub := sub_enumerate
    have it1 : ∀ {A' : Around} {E : Value → Shared → Prop} {Q : Value → Shared → Prop}, Q (.ref hp.objs.size) ⟨hp.push o, g, d, tk, os⟩ → wpAny (model prog w) A' (pyIter v) Q E ⟨hp, g, d, tk, os⟩ :=
      fun q => B.iter prog w _ _ ⟨hp, g, d, tk, os⟩ _ h1 q
    wp_walk using it1
    refine wpAny_stack_any fun st => wpAny_pure ?_
    split
    · rename_i c _ _ _ _ _
      cases (c == Value.type "enumerate")
      · wp_walk using it1
        exact ⟨_, rfl, h⟩
      · wp_walk using it1
        exact ⟨_, rfl, h⟩
    · wp_walk using it1
      exact ⟨_, rfl, h⟩
theorem call_enum1 {prog : Program} {w : World} {A : Around} {E : Value → Shared → Prop} {s : Shared} {v : Value} {o : Obj} {H : Heap → Prop} {Q : Value → Shared → Prop} (B : Begins v o H) (h1 : H s.heap)
    (h : ∀ h', IsEnum h' (s.heap.objs.size + 1) s.heap.objs.size 0 .none → h'.get? s.heap.objs.size = some o → h'.objs.size = s.heap.objs.size + 2 →
      (∀ b o, s.heap.get? b = some o → h'.get? b = some o) → Q (.ref (s.heap.objs.size + 1)) { s with heap := h' }) :
    wpAny (model prog w) A (call (.type "enumerate") [v]) Q E s := by
  refine callType_new F.called_enumerate (by decide) (F.typeCall_enumerate_1 _) (F.newCall_enumerate_1 _) (fun obj => F.args_object_init_2 obj _) F.entry_enumerate_new (meets_enum1 B) ⟨h1, ?_⟩
  have hz : (s.heap.push o).objs.size = s.heap.objs.size + 1 := Heap.size_push ..
  show _ ∧ _
  rw [hz]
  have he : IsEnum ((s.heap.push o).push { cls := .type "enumerate", data := .fields #[.none, .bool false, .ref s.heap.objs.size, rawInt 0, .none, .none] }) (s.heap.objs.size + 1) s.heap.objs.size 0 .none := by
    have q := Heap.get?_push_size (s.heap.push o) (o := { cls := .type "enumerate", data := .fields #[.none, .bool false, .ref s.heap.objs.size, rawInt 0, .none, .none] }) rfl
    rw [hz] at q
    exact q
  exact ⟨⟨_, he, rfl⟩, h _ he (Heap.get?_push_of_some _ (Heap.get?_push_size _ B.free)) (by rw [Heap.size_push, hz]) fun b o x => Heap.get?_push_of_some _ (Heap.get?_push_of_some _ x)⟩

/-- the tuple at a as it stands, each item in a new pair behind its place -/
def ItE (K : PySem.W.Frag) (a : Addr) : It :=
  ⟨fun i H => ∃ (xs : List V) (x : V), SqT K H a xs ∧ xs[i]? = some x, fun i H v H' => ∃ T x, v = .ref T ∧ H T = none ∧ H' = upd H T (.tup [.int (i : Nat), x]) ∧ ∀ xs, SqT K H a xs → xs[i]? = some x, fun i H => ∃ xs : List V, SqT K H a xs ∧ xs.length ≤ i⟩
theorem turn_enumT {P : Program} {w : World} {K : PySem.W.Frag} {elts : List Expr} {kk : Nat} {tpos : Pos} (a e it : Addr) (his : Array Value) :
    Turn P w K (.Tuple elts kk tpos) (ItE K a) [e, it] e (fun i h => (∃ old, IsEnum h e it ((i : Nat) : Int) old) ∧ h.IsTupleIter it a i ∧ e ≠ it ∧ a ≠ it ∧ a ≠ e) where
  mem := by simp
  obj := fun i h st b hb => by
    obtain ⟨⟨old, he⟩, ⟨o, ho, hc, hd⟩, _⟩ := st
    have e' : b = e ∨ b = it := by simpa using hb
    rcases e' with z | z
    · rw [z]; exact ⟨_, he, fun v q => nomatch q⟩
    · rw [z]; exact ⟨o, ho, fun v q => by rw [hd] at q; cases q⟩
  keep := fun i h h' st k => let ⟨⟨old, he⟩, hi, hne⟩ := st; ⟨⟨old, k e (by simp) _ he⟩, hi.at fun o q => k it (by simp) o q, hne⟩
  item := by
    intro X hP hw hK hc i pins s σ H E I hf st hg
    subst hP hw hK
    obtain ⟨⟨old, he⟩, hit, hne, ha1, ha2⟩ := st
    obtain ⟨xs, x, hq, hx⟩ := hg
    obtain ⟨its, rv, p, hz⟩ := I.tuple hq
    obtain ⟨u, hu, ru⟩ := rv.get hx
    have hel : e < s.heap.objs.size := Heap.lt_size he
    have hil : it < s.heap.objs.size := by obtain ⟨_, q, _⟩ := hit; exact Heap.lt_size q
    have hlt : i < its.toArray.size := by
      have := (List.getElem?_eq_some_iff.mp hu).1
      simpa using this
    have hh : X.A.in1.handled = none := I.ok.hd hc
    have D := Draws.tuple (prog := X.prog) (w := X.w) (A := X.A.in1) hh it a ha1 its.toArray
    refine wpAny_pyNext_enum_itemD D he ⟨hit, show s.heap.IsTuple a its.toArray from p⟩ hlt hne (by simp [hne, ha2.symm]) fun u' h' tk hu' ho hit' hT hsz hk => ?_
    have e9 : its.toArray[i]? = some u := by simpa using hu
    rw [e9] at hu'
    cases hu'
    refine ⟨_, rfl, wpAny_letOwnedTupleGo_enum (s := { s with heap := h', toks := tk + 1 }) ho fun h'' he' sb => ?_⟩
    have hT2 : h''.get? s.heap.objs.size = some { cls := .type "tuple", data := .seq #[.int i tk, u] } := (sb.2 _ (Nat.ne_of_gt hel)).trans hT
    have new : ObjOk X.prog X.w (upd H s.heap.objs.size (.tup [.int (i : Nat), x])) h'' s.heap.objs.size (.tup [.int (i : Nat), x]) :=
      ⟨by show 2 ≤ sizeLine; decide, [.int i tk, u], .cons ⟨_, rfl⟩ (.cons ru .nil), ⟨_, hT2, rfl, _, rfl⟩⟩
    have I1 : Inv X pins σ (upd H s.heap.objs.size (.tup [.int (i : Nat), x])) { s with heap := h'', toks := tk + 1 } :=
      I.turnedNew (ch := [e, it]) (fun b ob hb q => (sb.2 b (fun z => hb (by simp [z]))).trans (hk b ob (fun z => hb (by simp [z])) (fun z => hb (by simp [z])) q)) hf (Nat.le_refl _) new
    refine ⟨.ref s.heap.objs.size, _, I1, rfl, ⟨_, x, rfl, I.hok.fresh (Nat.le_refl _), rfl, fun ys hy => by rw [I.tuple_inj hy hq]; exact hx⟩, ⟨⟨u, ?_⟩, hit'.1.at fun o q => (sb.2 it (Ne.symm hne)).trans q, hne, ha1, ha2⟩, fun b hb => ?_⟩
    · have e1 : ((i + 1 : Nat) : Int) = (i : Int) + 1 := by omega
      rw [e1]; exact he'
    · have hb' : b < s.heap.objs.size := by
        have e' : b = e ∨ b = it := by simpa using hb
        rcases e' with z | z
        · rw [z]; exact hel
        · rw [z]; exact hil
      rw [upd_ne (Nat.ne_of_lt hb')]
      exact (hf b hb).1
  done := by
    intro X hP hw hK hc i pins s σ H E I hf st hg
    subst hP hw hK
    obtain ⟨⟨old, he⟩, hit, hne, ha1, ha2⟩ := st
    obtain ⟨xs, hq, hx⟩ := hg
    obtain ⟨its, rv, p, hz⟩ := I.tuple hq
    obtain ⟨f0, f1, f2, f3, f4, f5⟩ := hf it (by simp)
    have hl := rv.length
    have hh : X.A.in1.handled = none := I.ok.hd hc
    have hn : its.toArray[i]? = none := by simp; omega
    have hT : s.heap.IsTuple a its.toArray := p
    have hT1 : s.TypeIs (.ref e) "enumerate" := ⟨_, he, rfl⟩
    unfold pyNext
    refine wpAny_bind (wpAny_attempt (wpAny_callSpecial?_slot (name := Str.ofString "__next__") hT1 F.slot_enumerate_next (wpAny_call_entry F.slot_enumerate_next hT1 F.entry_enumerate_next ?_ (F.args_enumerate_next_1 _))))
    show wpAny _ _ (field (.ref e) 2 >>= _) _ _ _
    refine wpAny_bind (wpAny_field he rfl (x := .ref it) rfl ?_)
    refine wpAny_bind (wpAny_nextOf_tuple_end hh hit hT hn fun h' x he' hx' => ?_)
    obtain ⟨o, ho, hc'⟩ := hx'
    refine wpAny_bind (wpAny_isInstance (T := "StopIteration") (b := true) ⟨o, ho, hc'⟩ isSubtype_stop ?_)
    exact wpAny_pure ⟨rfl, I.turned (t' := s.toks) (fun b o hb q => he' b o hb q) f0 f1 f3 f4 f5⟩
  self := fun A i s Q E st h => let ⟨⟨_, he⟩, _⟩ := st; wpAny_pyIter_enum he h
def iEnumT (K : PySem.W.Frag) (ta : TA) : TI := fun σ H R => ta σ H fun vs H1 => ∃ a xs, vs = [.ref a] ∧ SqT K H1 a xs ∧ R (ItE K a) H1
theorem pi_enumT {X : Cx} {e : Expr} {ta : TA} {p pos tpos : Pos} {elts : List Expr} {kk : Nat} (hg : Gl X "enumerate") (hm : X.mg "enumerate" = none) (ha : PA X [e] ta) (hs : starEach [e] X.env = [(false, eval e X.env)] := by rfl) :
    PI X (.Tuple elts kk tpos) (.Call (.Name "enumerate" p) [e] [] pos) (iEnumT X.K ta) := by
  refine ⟨fun pins s σ H R I h => ?_⟩
  refine Call_ (ld_blt I hg hm boot_enumerate (PyProof.Rows.callWith_type1 (thn (ha.run pos pins s σ H _ I h) fun us s1 ⟨vs, H1, I1, r1, q1⟩ => ?_) hs rfl))
  obtain ⟨a, xs, ex, hq, q⟩ := q1
  subst ex
  cases r1 with
  | cons r rr =>
    cases rr
    cases r
    obtain ⟨its, rv, p', hz⟩ := I1.tuple hq
    have hT : s1.heap.IsTuple a its.toArray := p'
    have hal : a < s1.heap.objs.size := by obtain ⟨o, ho, _⟩ := id hT; exact Heap.lt_size ho
    refine call_enum1 (begins_tuple a its.toArray) hT fun h' he hit hsz hk => wpAny_pyIter_enum he ?_
    have I2 : Inv X pins σ H1 { s1 with heap := h' } := I1.kept (t' := s1.toks) hk
    refine ⟨s1.heap.objs.size + 1, [s1.heap.objs.size + 1, s1.heap.objs.size], _, _, H1, rfl, I2, turn_enumT a (s1.heap.objs.size + 1) s1.heap.objs.size its.toArray, ⟨⟨.none, he⟩, ⟨_, hit, rfl, rfl⟩, Nat.succ_ne_self _, Nat.ne_of_lt hal, Nat.ne_of_lt (Nat.lt_succ_of_lt hal)⟩, fun b hb => ?_, q⟩
    have e' : b = s1.heap.objs.size + 1 ∨ b = s1.heap.objs.size := by simpa using hb
    have hle : s1.heap.objs.size ≤ b := by
      rcases e' with z | z
      · rw [z]; exact Nat.le_add_right _ _
      · rw [z]; exact Nat.le_refl _
    exact I1.fpOk hle (I1.hok.fresh hle)
/-- a loop over enumerate of a tuple that stands still -/
theorem for_enumT {K : PySem.W.Frag} {a : Addr} {xs : List V} {g : TG} {tb : TS} {D : Ends} {σ : L2.St} {H : Hp} (Pv : Nat → L2.St → Hp → Prop) (h0 : Pv 0 σ H) (hq : ∀ i σ H, Pv i σ H → SqT K H a xs)
    (hs : ∀ (i : Nat) (x : V) (T : Addr) (σ : L2.St) (H : Hp), xs[i]? = some x → Pv i σ H → H T = none → g (.ref T) σ (upd H T (.tup [.int (i : Nat), x])) fun σ2 H2 => tb { D with nx := Pv (i + 1), ct := Pv (i + 1), bk := D.nx } σ2 H2) (hd : ∀ σ H, Pv xs.length σ H → D.nx σ H) :
    ∃ W : Nat → Nat → L2.St → Hp → Prop, (∃ m, W 0 m σ H) ∧ ∀ i m σ H, W i m σ H →
      ((ItE K a).stop i H ∧ D.nx σ H) ∨ ((ItE K a).go i H ∧ ∃ N : L2.St → Hp → Prop, (∀ σ' H', N σ' H' → ∃ m', m' < m ∧ W (i + 1) m' σ' H') ∧ ∀ v H', (ItE K a).yld i H v H' → g v σ H' fun σ2 H2 => tb { D with nx := N, ct := N, bk := D.nx } σ2 H2) := by
  refine ⟨fun i m σ H => m = xs.length - i ∧ i ≤ xs.length ∧ Pv i σ H, ⟨xs.length, rfl, Nat.zero_le _, h0⟩, ?_⟩
  rintro i m σ H ⟨rfl, hi, p⟩
  have qx := hq i σ H p
  by_cases hlt : i < xs.length
  · have hx : xs[i]? = some xs[i] := List.getElem?_eq_getElem hlt
    refine .inr ⟨⟨xs, _, qx, hx⟩, Pv (i + 1), fun σ' H' p' => ⟨xs.length - (i + 1), by omega, rfl, hlt, p'⟩, fun v H' y => ?_⟩
    obtain ⟨T, x', rfl, hT, rfl, f1⟩ := y
    exact hs i x' T σ H (f1 xs qx) p hT
  · have e : i = xs.length := by omega
    subst e
    exact .inl ⟨⟨xs, qx, Nat.le_refl _⟩, hd σ H p⟩
end Kr
set_option maxHeartbeats 4000000
/-! A lambda without parameters as a value: what a call of it does from any later state; it may be handed on, and captured by another lambda. -/
namespace Kr
open PySem PySem.Spec PyProof.Rows L2 LamX
/-- one stretch of the run after another, the second one with more frames beneath -/
theorem un_trans {fs fs2 : List Addr} {H H1 H2 : Hp} {h h1 h2 : Heap} (a : Un fs [] H H1 h h1) (b : Un fs2 [] H1 H2 h1 h2) (n : ∀ x ∈ fs2, x ∈ fs ∨ h.get? x = none) : Un fs [] H H2 h h2 where
  keep := fun c ob q e hc hx => b.keep c ob (a.keep c ob q e hc hx) (a.free c ob q e hx) (fun z => (n c z).elim hc fun z2 => by rw [q] at z2; cases z2) hx
  slot := fun c ob q e hc hx => by
    obtain ⟨sl, e1⟩ := a.slot c ob q e hc hx
    obtain ⟨sl2, e2⟩ := b.any e1 (a.free c ob q e hx) hx
    exact ⟨sl2, e2⟩
  free := fun c ob q e hx => by
    obtain ⟨o1, e1⟩ := a.there c ob q hx
    exact b.free c o1 e1 (a.free c ob q e hx) hx
  there := fun c ob q hx => by
    obtain ⟨o1, e1⟩ := a.there c ob q hx
    exact b.there c o1 e1 hx
  tups := fun c xs q => b.tups c xs (a.tups c xs q)
  frzs := fun c ob xs q => b.frzs c ob xs (a.frzs c ob xs q)
  tbls := fun c ps q => by
    obtain ⟨m1, e1⟩ := a.tbls c ps q
    obtain ⟨m2, e2⟩ := b.tbls c _ e1
    exact ⟨m1 ++ m2, by rw [e2, Array.append_assoc]⟩
/-- f, made at (s, H) within the frames fs: what its call does later on -/
structure LamP (P : Program) (w : World) (K : PySem.W.Frag) (mg : Str → Option Value) (base : Heap) (k : Nat) (f : Addr) (s : Shared) (H : Hp) (fs : List Addr) (tl : XK → Hp → VK → Prop) : Prop where
  fn : ∃ (q : Str) (params : Arguments) (body : Expr) (scope : Scope) (cl : List (Str × Addr)) (pm : Value) (c' : Addr) (ctv : Value), s.heap.get? f = some (PySem.W.kla_obj "<lambda>" q params body scope cl pm c' ctv)
  free : H f = none
  nofs : f ∉ fs
  run : ∀ (A : Around) (outer : List Env) (s1 : Shared) (H1 : Hp) (Q : VK) (E : XK), Room k A → Env0 P w K mg base A outer s1 H1 → Un fs [] H H1 s.heap s1.heap → (∀ b ∈ frs outer, b ∈ fs ∨ s.heap.get? b = none) → tl E H1 Q →
    codeAny (model P w) A (.call (.ref f) ⟨[], []⟩) (CR (L2.CX P w) outer P w H1 s1 Q E) s1
section
variable {X : Cx} {pins : List (Addr × Obj)} {σ : L2.St} {H : Hp} {s : Shared}
/-- entering the lambda's body, from any later state -/
theorem lam_enter {A : Around} {outer : List Env} {E : XK} {scope : Scope} {f c' : Addr} {h₁ : Heap} {tk : Nat} {s1 : Shared} {HZ : Hp} (I : Inv X pins σ H s) (L : LamS X.env.scope scope) (e0 : Env0 X.prog X.w X.K X.mg X.base A outer s1 HZ) (hd : A.handled = none)
    (un : Un (frs X.stack) [] H HZ s.heap s1.heap) (hns : h₁.Ns s1.heap.objs.size fun y => ([] : List (Str × Value)).reverse.lookup y) (kp : ∀ b o, s1.heap.get? b = some o → h₁.get? b = some o) :
    Inv (lamCx X A outer s1 HZ E scope f c') [] σ HZ { s1 with heap := h₁, toks := tk } := lam_start2 I L e0 hd un hns kp
theorem lamP_of {f c' : Addr} {pm ctv : Value} {params : Arguments} {body : Expr} {scope : Scope} {k : Nat} {tb : XK → TE}
    (I : Inv X pins σ H s) (L : LamS X.env.scope scope) (hf : s.heap.get? f = some (PySem.W.kla_obj "<lambda>" (X.env.qual ++ "<lambda>") params body scope (cloFrom X.env.cells scope.names []) pm c' ctv)) (hfn : H f = none) (hfr : f ∉ frs X.stack)
    (hco : H c' = some (CodeO c' (X.env.qual ++ "<lambda>")))
    (hbind : bindArgs (PySem.W.kla_fn "<lambda>" (X.env.qual ++ "<lambda>") params body scope (cloFrom X.env.cells scope.names []) pm (.ref c') ctv) ⟨[], []⟩ = pure [])
    (hbody : ∀ (A : Around) (outer : List Env) (s1 : Shared) (HZ : Hp) (E : XK), Room k (A.deeper (lamEnv X scope s1.heap.objs.size f c')) → Un (frs X.stack) [] H HZ s.heap s1.heap → (∀ b ∈ frs outer, b ∈ frs X.stack ∨ s.heap.get? b = none) → PE (lamCx X A outer s1 HZ E scope f c') body (tb E)) :
    LamP X.prog X.w X.K X.mg X.base (k + 1) f s H (frs X.stack) (fun E H1 Q => H1 c' = some (CodeO c' (X.env.qual ++ "<lambda>")) ∧ tb E σ H1 Q) where
  fn := ⟨_, _, _, _, _, _, _, _, hf⟩
  free := hfn
  nofs := hfr
  run := fun A outer s1 H1 Q E hr e0 un hout ht => by
    obtain ⟨hc, ht⟩ := ht
    have of1 : s1.heap.get? f = some (PySem.W.kla_obj "<lambda>" (X.env.qual ++ "<lambda>") params body scope (cloFrom X.env.cells scope.names []) pm c' ctv) := un.keep f _ hf hfn hfr (by simp)
    obtain ⟨⟨oc, vs, t, hoc, hdc, hvc⟩, _, _⟩ := e0.hok c' _ hc
    refine PySem.W.kla_callFunE hr.depth of1 rfl L.co L.gen rfl ⟨c', oc, vs, t, rfl, hoc, hdc, hvc⟩ ?_
    rw [hbind]
    have lim : s1.heap.NoLimit := e0.mod.nolimit.keeps fun b o e => (e0.bs b o e).1
    refine wpAny_pure (wpAny_newFunctionEnv (fun y hy => (L.own y hy).2) (fun y hy => absurd hy (by simp)) (fun h₁ hns hsb => ⟨lim.fresh _ hsb, ?_⟩) L.kind)
    show codeAny _ _ (.expr body (lamEnv X scope s1.heap.objs.size f c')) _ _
    have kp : ∀ b o, s1.heap.get? b = some o → h₁.get? b = some o := fun b o e => hsb.extBut b o (Nat.ne_of_lt (Heap.lt_size e)) (Heap.get?_push_of_some _ e)
    have J : Inv (lamCx X A outer s1 H1 E scope f c') [] σ H1 { s1 with heap := h₁, toks := s1.toks + ([] : List (Str × Value)).length } := lam_enter I L e0 hr.hd un hns kp
    refine PySem.W.kla_codeExpr (wpAny_mono ((hbody A outer s1 H1 E (hr.deeper _) un hout).run [] _ _ H1 Q J ht) (fun v s' hq => ?_) fun e s' hq => hq)
    obtain ⟨w', H', J', rv, q⟩ := hq
    exact ⟨w', H', J'.os, J'.bare, J'.base, J'.hok, rv, q⟩
end
/-- a() where the name a holds such a lambda -/
theorem pe_lamV {Z : Cx} {k i : Nat} {a : Str} {f : Addr} {s : Shared} {H : Hp} {fs : List Addr} {tl : XK → Hp → VK → Prop} {E : XK} {p1 p2 : Pos} (LP : LamP Z.prog Z.w Z.K Z.mg Z.base k f s H fs tl) (hr : Room k Z.A)
    (hun : Un fs [] H Z.H_0 s.heap Z.s_0.heap) (hex : Z.ex = []) (hfs : ∀ b ∈ Z.fs, b ∈ fs ∨ s.heap.get? b = none) (hst : ∀ b ∈ frs Z.stack, b ∈ fs ∨ s.heap.get? b = none) (hx : Passes (L2.CX Z.prog Z.w) Z E)
    (hN : Z.N[i]? = some a) (hv : Vis Z.env.scope a) (hd : (a == ("__debug__" : Str)) = false := by decide) (hcd : (a == ("__classdict__" : Str)) = false := by decide) :
    PE Z (.Call (.Name a p1) [] [] p2) (fun σZ HZ Q => σZ[i]? = some (some (.ref f)) ∧ tl E HZ Q) := by
  refine ⟨fun pinsZ sZ σZ HZ Q IZ h => ?_⟩
  obtain ⟨hs, ht⟩ := h
  refine wpAny_Call_Name_kw (thn ((pe_var (pos := p1) (i := i) hN hv hd hcd).run pinsZ sZ σZ HZ (fun v H1 => v = .ref f ∧ H1 = HZ) IZ ⟨.ref f, hs, rfl, rfl⟩) fun u s1 ⟨v, H1, I1, r1, q1⟩ => ?_)
  obtain ⟨ev, eH⟩ := q1
  subst ev
  rw [eH] at I1
  obtain rfl : u = Value.ref f := r1
  have b1 := I1.base
  rw [hex] at b1
  have un : Un fs [] H HZ s.heap s1.heap := un_trans hun b1 hfs
  obtain ⟨q, params, body, scope, cl, pm, c', ctv, hf⟩ := LP.fn
  have of1 := un.keep f _ hf LP.free LP.nofs (by simp)
  refine PySem.W.callWith_F0 ⟨_, _, _, _, of1⟩ ?_
  refine wpAny_call (codeAny_mono (LP.run Z.A Z.stack s1 HZ Q E hr I1.env0 un hst ht) fun r s' hq => ?_)
  cases r with
  | error e => exact hx pinsZ σZ HZ s1 e s' I1 hq
  | ok fl =>
    cases fl with
    | ret u => exact I1.after hq
    | next => exact False.elim hq
    | brk => exact False.elim hq
    | cont => exact False.elim hq
end Kr
set_option maxHeartbeats 4000000
/-! What holds behind the top, name by name. -/
namespace Kt
open PySem PySem.Spec PyProof.Rows L2
structure Fx (K : PySem.W.Frag) (mg : Str → Option Value) (base : Heap) : Prop where
  kin : K.In base
  glob : base.Ns mainGlobals mg
  c : He.SaysD fa fn K
  m : ex K = true
  tb : ∀ p ∈ tf.map (He.cT K), LamX.TabB base mg p.1 p.2
section
variable {K : PySem.W.Frag} {mg : Str → Option Value} {base : Heap}
theorem Fx.g_is_number (T : Fx K mg base) : mg "is_number" = some (.ref (He.ga K "is_number")) := He.glo_ok T.kin T.glob (T.c.fact 0 (f := .glo "is_number") rfl)
theorem Fx.d_is_number (T : Fx K mg base) : ∃ fd, FunD K "is_number" "is_number" (defArgs sIsNum) (defBody sIsNum) (defScope sIsNum) [] [] (He.ga K "is_number") fd := T.c.def_ 0 (d := dd "is_number" sIsNum) rfl
theorem Fx.g_need_box (T : Fx K mg base) : mg "need_box" = some (.ref (He.ga K "need_box")) := He.glo_ok T.kin T.glob (T.c.fact 1 (f := .glo "need_box") rfl)
theorem Fx.d_need_box (T : Fx K mg base) : ∃ fd, FunD K "need_box" "need_box" (defArgs sNeedBox) (defBody sNeedBox) (defScope sNeedBox) [] [] (He.ga K "need_box") fd := T.c.def_ 1 (d := dd "need_box" sNeedBox) rfl
theorem Fx.g_is_loss (T : Fx K mg base) : mg "is_loss" = some (.ref (He.ga K "is_loss")) := He.glo_ok T.kin T.glob (T.c.fact 2 (f := .glo "is_loss") rfl)
theorem Fx.d_is_loss (T : Fx K mg base) : ∃ fd, FunD K "is_loss" "is_loss" (defArgs sIsLoss) (defBody sIsLoss) (defScope sIsLoss) [] [] (He.ga K "is_loss") fd := T.c.def_ 2 (d := dd "is_loss" sIsLoss) rfl
theorem Fx.g_need_loss (T : Fx K mg base) : mg "need_loss" = some (.ref (He.ga K "need_loss")) := He.glo_ok T.kin T.glob (T.c.fact 3 (f := .glo "need_loss") rfl)
theorem Fx.d_need_loss (T : Fx K mg base) : ∃ fd, FunD K "need_loss" "need_loss" (defArgs sNeedLoss) (defBody sNeedLoss) (defScope sNeedLoss) [] [] (He.ga K "need_loss") fd := T.c.def_ 3 (d := dd "need_loss" sNeedLoss) rfl
theorem Fx.g_is_order (T : Fx K mg base) : mg "is_order" = some (.ref (He.ga K "is_order")) := He.glo_ok T.kin T.glob (T.c.fact 4 (f := .glo "is_order") rfl)
theorem Fx.d_is_order (T : Fx K mg base) : ∃ fd, FunD K "is_order" "is_order" (defArgs sIsOrder) (defBody sIsOrder) (defScope sIsOrder) [] [] (He.ga K "is_order") fd := T.c.def_ 4 (d := dd "is_order" sIsOrder) rfl
theorem Fx.g_need_orders (T : Fx K mg base) : mg "need_orders" = some (.ref (He.ga K "need_orders")) := He.glo_ok T.kin T.glob (T.c.fact 5 (f := .glo "need_orders") rfl)
theorem Fx.d_need_orders (T : Fx K mg base) : ∃ fd, FunD K "need_orders" "need_orders" (defArgs sNeedOrders) (defBody sNeedOrders) (defScope sNeedOrders) [] [] (He.ga K "need_orders") fd := T.c.def_ 5 (d := dd "need_orders" sNeedOrders) rfl
theorem Fx.g_line_of (T : Fx K mg base) : mg "line_of" = some (.ref (He.ga K "line_of")) := He.glo_ok T.kin T.glob (T.c.fact 6 (f := .glo "line_of") rfl)
theorem Fx.d_line_of (T : Fx K mg base) : ∃ fd, FunD K "line_of" "line_of" (defArgs sLineOf) (defBody sLineOf) (defScope sLineOf) [] [] (He.ga K "line_of") fd := T.c.def_ 6 (d := dd "line_of" sLineOf) rfl
theorem Fx.g_box_text (T : Fx K mg base) : mg "box_text" = some (.ref (He.ga K "box_text")) := He.glo_ok T.kin T.glob (T.c.fact 7 (f := .glo "box_text") rfl)
theorem Fx.d_box_text (T : Fx K mg base) : ∃ fd, FunD K "box_text" "box_text" (defArgs sBoxText) (defBody sBoxText) (defScope sBoxText) [] [] (He.ga K "box_text") fd := T.c.def_ 7 (d := dd "box_text" sBoxText) rfl
theorem Fx.g_loss_text (T : Fx K mg base) : mg "loss_text" = some (.ref (He.ga K "loss_text")) := He.glo_ok T.kin T.glob (T.c.fact 8 (f := .glo "loss_text") rfl)
theorem Fx.d_loss_text (T : Fx K mg base) : ∃ fd, FunD K "loss_text" "loss_text" (defArgs sLossText) (defBody sLossText) (defScope sLossText) [] [] (He.ga K "loss_text") fd := T.c.def_ 8 (d := dd "loss_text" sLossText) rfl
theorem Fx.g_orders_text (T : Fx K mg base) : mg "orders_text" = some (.ref (He.ga K "orders_text")) := He.glo_ok T.kin T.glob (T.c.fact 9 (f := .glo "orders_text") rfl)
theorem Fx.d_orders_text (T : Fx K mg base) : ∃ fd, FunD K "orders_text" "orders_text" (defArgs sOrdersText) (defBody sOrdersText) (defScope sOrdersText) [] [] (He.ga K "orders_text") fd := T.c.def_ 9 (d := dd "orders_text" sOrdersText) rfl
theorem Fx.g_lines_of (T : Fx K mg base) : mg "lines_of" = some (.ref (He.ga K "lines_of")) := He.glo_ok T.kin T.glob (T.c.fact 10 (f := .glo "lines_of") rfl)
theorem Fx.d_lines_of (T : Fx K mg base) : ∃ fd, FunD K "lines_of" "lines_of" (defArgs sLinesOf) (defBody sLinesOf) (defScope sLinesOf) [] [] (He.ga K "lines_of") fd := T.c.def_ 10 (d := dd "lines_of" sLinesOf) rfl
theorem Fx.g_number_of (T : Fx K mg base) : mg "number_of" = some (.ref (He.ga K "number_of")) := He.glo_ok T.kin T.glob (T.c.fact 11 (f := .glo "number_of") rfl)
theorem Fx.d_number_of (T : Fx K mg base) : ∃ fd, FunD K "number_of" "number_of" (defArgs sNumberOf) (defBody sNumberOf) (defScope sNumberOf) [] [] (He.ga K "number_of") fd := T.c.def_ 11 (d := dd "number_of" sNumberOf) rfl
theorem Fx.g_numbers_of (T : Fx K mg base) : mg "numbers_of" = some (.ref (He.ga K "numbers_of")) := He.glo_ok T.kin T.glob (T.c.fact 12 (f := .glo "numbers_of") rfl)
theorem Fx.d_numbers_of (T : Fx K mg base) : ∃ fd, FunD K "numbers_of" "numbers_of" (defArgs sNumbersOf) (defBody sNumbersOf) (defScope sNumbersOf) [] [] (He.ga K "numbers_of") fd := T.c.def_ 12 (d := dd "numbers_of" sNumbersOf) rfl
theorem Fx.g_box_in (T : Fx K mg base) : mg "box_in" = some (.ref (He.ga K "box_in")) := He.glo_ok T.kin T.glob (T.c.fact 13 (f := .glo "box_in") rfl)
theorem Fx.d_box_in (T : Fx K mg base) : ∃ fd, FunD K "box_in" "box_in" (defArgs sBoxIn) (defBody sBoxIn) (defScope sBoxIn) [] [] (He.ga K "box_in") fd := T.c.def_ 13 (d := dd "box_in" sBoxIn) rfl
theorem Fx.g_order_in (T : Fx K mg base) : mg "order_in" = some (.ref (He.ga K "order_in")) := He.glo_ok T.kin T.glob (T.c.fact 14 (f := .glo "order_in") rfl)
theorem Fx.d_order_in (T : Fx K mg base) : ∃ fd, FunD K "order_in" "order_in" (defArgs sOrderIn) (defBody sOrderIn) (defScope sOrderIn) [] [] (He.ga K "order_in") fd := T.c.def_ 14 (d := dd "order_in" sOrderIn) rfl
theorem Fx.g_read_box (T : Fx K mg base) : mg "read_box" = some (.ref (He.ga K "read_box")) := He.glo_ok T.kin T.glob (T.c.fact 15 (f := .glo "read_box") rfl)
theorem Fx.d_read_box (T : Fx K mg base) : ∃ fd, FunD K "read_box" "read_box" (defArgs sReadBox) (defBody sReadBox) (defScope sReadBox) [] [] (He.ga K "read_box") fd := T.c.def_ 15 (d := dd "read_box" sReadBox) rfl
theorem Fx.g_read_loss (T : Fx K mg base) : mg "read_loss" = some (.ref (He.ga K "read_loss")) := He.glo_ok T.kin T.glob (T.c.fact 16 (f := .glo "read_loss") rfl)
theorem Fx.d_read_loss (T : Fx K mg base) : ∃ fd, FunD K "read_loss" "read_loss" (defArgs sReadLoss) (defBody sReadLoss) (defScope sReadLoss) [] [] (He.ga K "read_loss") fd := T.c.def_ 16 (d := dd "read_loss" sReadLoss) rfl
theorem Fx.g_read_orders (T : Fx K mg base) : mg "read_orders" = some (.ref (He.ga K "read_orders")) := He.glo_ok T.kin T.glob (T.c.fact 17 (f := .glo "read_orders") rfl)
theorem Fx.d_read_orders (T : Fx K mg base) : ∃ fd, FunD K "read_orders" "read_orders" (defArgs sReadOrders) (defBody sReadOrders) (defScope sReadOrders) [] [] (He.ga K "read_orders") fd := T.c.def_ 17 (d := dd "read_orders" sReadOrders) rfl
theorem Fx.g_law_taken (T : Fx K mg base) : mg "_law_taken" = some (.ref (He.ga K "_law_taken")) := He.glo_ok T.kin T.glob (T.c.fact 18 (f := .glo "_law_taken") rfl)
theorem Fx.d_law_taken (T : Fx K mg base) : ∃ fd, FunD K "_law_taken" "_law_taken" (defArgs sTaken) (defBody sTaken) (defScope sTaken) [] [] (He.ga K "_law_taken") fd := T.c.def_ 18 (d := dd "_law_taken" sTaken) rfl
theorem Fx.g_law_pick (T : Fx K mg base) : mg "_law_pick" = some (.ref (He.ga K "_law_pick")) := He.glo_ok T.kin T.glob (T.c.fact 19 (f := .glo "_law_pick") rfl)
theorem Fx.d_law_pick (T : Fx K mg base) : ∃ fd, FunD K "_law_pick" "_law_pick" (defArgs sPick) (defBody sPick) (defScope sPick) [] [] (He.ga K "_law_pick") fd := T.c.def_ 19 (d := dd "_law_pick" sPick) rfl
theorem Fx.g_law_alike (T : Fx K mg base) : mg "_law_alike" = some (.ref (He.ga K "_law_alike")) := He.glo_ok T.kin T.glob (T.c.fact 20 (f := .glo "_law_alike") rfl)
theorem Fx.d_law_alike (T : Fx K mg base) : ∃ fd, FunD K "_law_alike" "_law_alike" (defArgs sAlike) (defBody sAlike) (defScope sAlike) [] [] (He.ga K "_law_alike") fd := T.c.def_ 20 (d := dd "_law_alike" sAlike) rfl
theorem Fx.g_law_box (T : Fx K mg base) : mg "_law_box" = some (.ref (He.ga K "_law_box")) := He.glo_ok T.kin T.glob (T.c.fact 21 (f := .glo "_law_box") rfl)
theorem Fx.d_law_box (T : Fx K mg base) : ∃ fd, FunD K "_law_box" "_law_box" (defArgs sLBox) (defBody sLBox) (defScope sLBox) [] [] (He.ga K "_law_box") fd := T.c.def_ 21 (d := dd "_law_box" sLBox) rfl
theorem Fx.g_law_some (T : Fx K mg base) : mg "_law_some" = some (.ref (He.ga K "_law_some")) := He.glo_ok T.kin T.glob (T.c.fact 22 (f := .glo "_law_some") rfl)
theorem Fx.d_law_some (T : Fx K mg base) : ∃ fd, FunD K "_law_some" "_law_some" (defArgs sSome) (defBody sSome) (defScope sSome) [] [] (He.ga K "_law_some") fd := T.c.def_ 22 (d := dd "_law_some" sSome) rfl
theorem Fx.g_law_line (T : Fx K mg base) : mg "_law_line" = some (.ref (He.ga K "_law_line")) := He.glo_ok T.kin T.glob (T.c.fact 23 (f := .glo "_law_line") rfl)
theorem Fx.d_law_line (T : Fx K mg base) : ∃ fd, FunD K "_law_line" "_law_line" (defArgs sLLine) (defBody sLLine) (defScope sLLine) [] [] (He.ga K "_law_line") fd := T.c.def_ 23 (d := dd "_law_line" sLLine) rfl
theorem Fx.g_law_orders (T : Fx K mg base) : mg "_law_orders" = some (.ref (He.ga K "_law_orders")) := He.glo_ok T.kin T.glob (T.c.fact 24 (f := .glo "_law_orders") rfl)
theorem Fx.d_law_orders (T : Fx K mg base) : ∃ fd, FunD K "_law_orders" "_law_orders" (defArgs sLOrders) (defBody sLOrders) (defScope sLOrders) [] [] (He.ga K "_law_orders") fd := T.c.def_ 24 (d := dd "_law_orders" sLOrders) rfl
theorem Fx.g_law_error (T : Fx K mg base) : mg "_law_error" = some (.ref (He.ga K "_law_error")) := He.glo_ok T.kin T.glob (T.c.fact 25 (f := .glo "_law_error") rfl)
theorem Fx.d_law_error (T : Fx K mg base) : ∃ fd, FunD K "_law_error" "_law_error" (defArgs sError) (defBody sError) (defScope sError) [] [] (He.ga K "_law_error") fd := T.c.def_ 25 (d := dd "_law_error" sError) rfl
theorem Fx.g_law_numbers (T : Fx K mg base) : mg "_law_numbers" = some (.ref (He.ga K "_law_numbers")) := He.glo_ok T.kin T.glob (T.c.fact 26 (f := .glo "_law_numbers") rfl)
theorem Fx.d_law_numbers (T : Fx K mg base) : ∃ fd, FunD K "_law_numbers" "_law_numbers" (defArgs sLNumbers) (defBody sLNumbers) (defScope sLNumbers) [] [] (He.ga K "_law_numbers") fd := T.c.def_ 26 (d := dd "_law_numbers" sLNumbers) rfl
theorem Fx.g_law_lines (T : Fx K mg base) : mg "_law_lines" = some (.ref (He.ga K "_law_lines")) := He.glo_ok T.kin T.glob (T.c.fact 27 (f := .glo "_law_lines") rfl)
theorem Fx.d_law_lines (T : Fx K mg base) : ∃ fd, FunD K "_law_lines" "_law_lines" (defArgs sLLines) (defBody sLLines) (defScope sLLines) [] [] (He.ga K "_law_lines") fd := T.c.def_ 27 (d := dd "_law_lines" sLLines) rfl
theorem Fx.g_law_box_in (T : Fx K mg base) : mg "_law_box_in" = some (.ref (He.ga K "_law_box_in")) := He.glo_ok T.kin T.glob (T.c.fact 28 (f := .glo "_law_box_in") rfl)
theorem Fx.d_law_box_in (T : Fx K mg base) : ∃ fd, FunD K "_law_box_in" "_law_box_in" (defArgs sLBoxIn) (defBody sLBoxIn) (defScope sLBoxIn) [] [] (He.ga K "_law_box_in") fd := T.c.def_ 28 (d := dd "_law_box_in" sLBoxIn) rfl
theorem Fx.g_law_order_in (T : Fx K mg base) : mg "_law_order_in" = some (.ref (He.ga K "_law_order_in")) := He.glo_ok T.kin T.glob (T.c.fact 29 (f := .glo "_law_order_in") rfl)
theorem Fx.d_law_order_in (T : Fx K mg base) : ∃ fd, FunD K "_law_order_in" "_law_order_in" (defArgs sLOrderIn) (defBody sLOrderIn) (defScope sLOrderIn) [] [] (He.ga K "_law_order_in") fd := T.c.def_ 29 (d := dd "_law_order_in" sLOrderIn) rfl
theorem Fx.g_law_read (T : Fx K mg base) : mg "_law_read" = some (.ref (He.ga K "_law_read")) := He.glo_ok T.kin T.glob (T.c.fact 30 (f := .glo "_law_read") rfl)
theorem Fx.d_law_read (T : Fx K mg base) : ∃ fd, FunD K "_law_read" "_law_read" (defArgs sLRead) (defBody sLRead) (defScope sLRead) [] [] (He.ga K "_law_read") fd := T.c.def_ 30 (d := dd "_law_read" sLRead) rfl
theorem Fx.g_law_told (T : Fx K mg base) : mg "_law_told" = some (.ref (He.ga K "_law_told")) := He.glo_ok T.kin T.glob (T.c.fact 31 (f := .glo "_law_told") rfl)
theorem Fx.d_law_told (T : Fx K mg base) : ∃ fd, FunD K "_law_told" "_law_told" (defArgs sTold) (defBody sTold) (defScope sTold) [] [] (He.ga K "_law_told") fd := T.c.def_ 31 (d := dd "_law_told" sTold) rfl
theorem Fx.g_law_bent (T : Fx K mg base) : mg "_law_bent" = some (.ref (He.ga K "_law_bent")) := He.glo_ok T.kin T.glob (T.c.fact 32 (f := .glo "_law_bent") rfl)
theorem Fx.d_law_bent (T : Fx K mg base) : ∃ fd, FunD K "_law_bent" "_law_bent" (defArgs sBent) (defBody sBent) (defScope sBent) [] [] (He.ga K "_law_bent") fd := T.c.def_ 32 (d := dd "_law_bent" sBent) rfl
theorem Fx.g_law (T : Fx K mg base) : mg "law" = some (.ref (He.ga K "law")) := He.glo_ok T.kin T.glob (T.c.fact 33 (f := .glo "law") rfl)
theorem Fx.d_law (T : Fx K mg base) : ∃ fd, FunD K "law" "law" (defArgs sLaw) (defBody sLaw) (defScope sLaw) [] [] (He.ga K "law") fd := T.c.def_ 33 (d := dd "law" sLaw) rfl
theorem Fx.n_isinstance (T : Fx K mg base) : mg "isinstance" = none := He.free_ok T.kin T.glob (T.c.fact 34 (f := .free "isinstance") rfl)
theorem Fx.n_len (T : Fx K mg base) : mg "len" = none := He.free_ok T.kin T.glob (T.c.fact 35 (f := .free "len") rfl)
theorem Fx.n_enumerate (T : Fx K mg base) : mg "enumerate" = none := He.free_ok T.kin T.glob (T.c.fact 36 (f := .free "enumerate") rfl)
theorem Fx.n_all (T : Fx K mg base) : mg "all" = none := He.free_ok T.kin T.glob (T.c.fact 37 (f := .free "all") rfl)
theorem Fx.n_zip (T : Fx K mg base) : mg "zip" = none := He.free_ok T.kin T.glob (T.c.fact 38 (f := .free "zip") rfl)
theorem Fx.n_tuple (T : Fx K mg base) : mg "tuple" = none := He.free_ok T.kin T.glob (T.c.fact 39 (f := .free "tuple") rfl)
theorem Fx.n_str (T : Fx K mg base) : mg "str" = none := He.free_ok T.kin T.glob (T.c.fact 40 (f := .free "str") rfl)
theorem Fx.n_int (T : Fx K mg base) : mg "int" = none := He.free_ok T.kin T.glob (T.c.fact 41 (f := .free "int") rfl)
theorem Fx.n_range (T : Fx K mg base) : mg "range" = none := He.free_ok T.kin T.glob (T.c.fact 42 (f := .free "range") rfl)
theorem Fx.n_sorted (T : Fx K mg base) : mg "sorted" = none := He.free_ok T.kin T.glob (T.c.fact 43 (f := .free "sorted") rfl)
theorem Fx.n_min (T : Fx K mg base) : mg "min" = none := He.free_ok T.kin T.glob (T.c.fact 44 (f := .free "min") rfl)
theorem Fx.n_max (T : Fx K mg base) : mg "max" = none := He.free_ok T.kin T.glob (T.c.fact 45 (f := .free "max") rfl)
theorem Fx.n_sum (T : Fx K mg base) : mg "sum" = none := He.free_ok T.kin T.glob (T.c.fact 46 (f := .free "sum") rfl)
theorem Fx.n_bool (T : Fx K mg base) : mg "bool" = none := He.free_ok T.kin T.glob (T.c.fact 47 (f := .free "bool") rfl)
theorem Fx.n_list (T : Fx K mg base) : mg "list" = none := He.free_ok T.kin T.glob (T.c.fact 48 (f := .free "list") rfl)
theorem Fx.n_set (T : Fx K mg base) : mg "set" = none := He.free_ok T.kin T.glob (T.c.fact 49 (f := .free "set") rfl)
theorem Fx.n_dict (T : Fx K mg base) : mg "dict" = none := He.free_ok T.kin T.glob (T.c.fact 50 (f := .free "dict") rfl)
theorem Fx.n_ValueError (T : Fx K mg base) : mg "ValueError" = none := He.free_ok T.kin T.glob (T.c.fact 51 (f := .free "ValueError") rfl)
theorem Fx.g_WeightError (T : Fx K mg base) : mg "WeightError" = some (.ref (He.ga K "WeightError")) := He.glo_ok T.kin T.glob (T.c.fact 52 (f := .glo "WeightError") rfl)
theorem Fx.g_BadBox (T : Fx K mg base) : mg "BadBox" = some (.ref (He.ga K "BadBox")) := He.glo_ok T.kin T.glob (T.c.fact 53 (f := .glo "BadBox") rfl)
theorem Fx.g_BadLoss (T : Fx K mg base) : mg "BadLoss" = some (.ref (He.ga K "BadLoss")) := He.glo_ok T.kin T.glob (T.c.fact 54 (f := .glo "BadLoss") rfl)
theorem Fx.g_BadOrders (T : Fx K mg base) : mg "BadOrders" = some (.ref (He.ga K "BadOrders")) := He.glo_ok T.kin T.glob (T.c.fact 55 (f := .glo "BadOrders") rfl)
theorem Fx.g_BadLine (T : Fx K mg base) : mg "BadLine" = some (.ref (He.ga K "BadLine")) := He.glo_ok T.kin T.glob (T.c.fact 56 (f := .glo "BadLine") rfl)
theorem Fx.i_MOST_WEIGHTS (T : Fx K mg base) : ∃ t, mg "MOST_WEIGHTS" = some (.int 10 t) := He.int_ok T.kin T.glob (T.c.fact 57 (f := .int "MOST_WEIGHTS" 10) rfl)
theorem Fx.i_MOST_WEIGHT (T : Fx K mg base) : ∃ t, mg "MOST_WEIGHT" = some (.int 1000 t) := He.int_ok T.kin T.glob (T.c.fact 58 (f := .int "MOST_WEIGHT" 1000) rfl)
theorem Fx.i_MOST_ORDERS (T : Fx K mg base) : ∃ t, mg "MOST_ORDERS" = some (.int 200 t) := He.int_ok T.kin T.glob (T.c.fact 59 (f := .int "MOST_ORDERS" 200) rfl)
theorem Fx.i_MOST_LOAD (T : Fx K mg base) : ∃ t, mg "MOST_LOAD" = some (.int 10000 t) := He.int_ok T.kin T.glob (T.c.fact 60 (f := .int "MOST_LOAD" 10000) rfl)
theorem Fx.s_FIGURES (T : Fx K mg base) : ∃ t, mg "FIGURES" = some (.str "0123456789" t) := He.str_ok T.kin T.glob (T.c.fact 61 (f := .str "FIGURES" "0123456789") rfl)
theorem Fx.g_WORDS (T : Fx K mg base) : mg "WORDS" = some (.ref (He.ga K "WORDS")) := He.glo_ok T.kin T.glob (T.c.fact 62 (f := .glo "WORDS") rfl)
theorem Fx.d_BadBox_init (T : Fx K mg base) : ∃ fd, FunD K "__init__" "BadBox.__init__" (defArgs sIniBox) (defBody sIniBox) (defScope sIniBox) [] [] (He.ma K (He.ga K "BadBox") "__init__") fd := T.c.def_ 34 (d := di "BadBox" "BadBox.__init__" sIniBox) rfl
theorem Fx.d_BadLine_init (T : Fx K mg base) : ∃ fd, FunD K "__init__" "BadLine.__init__" (defArgs sIniLine) (defBody sIniLine) (defScope sIniLine) [] [] (He.ma K (He.ga K "BadLine") "__init__") fd := T.c.def_ 35 (d := di "BadLine" "BadLine.__init__" sIniLine) rfl
end
end Kt
set_option maxHeartbeats 4000000
/-! How defs stand and are called; the values of this law; what grows. -/
namespace Kt
open PySem PySem.Spec PyProof.Rows L2 SX Km
/-! ### calls -/
/-- a def that may be called by its name -/
structure Cl (P : Program) (w : World) (K : PySem.W.Frag) (mg : Str → Option Value) (base : Heap) (k : Nat) (x : Str) (sp : Sp) : Prop where
  ex : ∃ (f : Addr) (fd : FuncData) (ps : List Str), FnOk P w K mg base (L2.CX P w) k f fd ps sp ∧ mg x = some (.ref f) ∧ PySem.W.keepIn K (.ref f) = true ∧ Binds K fd ps []
section
variable {X : Cx} {k j : Nat} {x : Str} {sp : Sp} {p pos : Pos} {e : Expr} {es : List Expr} {t : TA} {E : XK}
theorem quiet : Passes (L2.CX X.prog X.w) X E0 := fun _ _ _ _ _ _ _ ⟨_, _, _, _, _, _, _, _, _, _, _, _, z⟩ => z.elim
theorem pe_cl (c : Cl X.prog X.w X.K X.mg X.base k x sp) (hr : Room j X.A) (hk : k ≤ j) (hg : Gl X x) (hx : Passes (L2.CX X.prog X.w) X E) (ha : PA X (e :: es) t)
    (hdb : (x == ("__debug__" : Str)) = false := by decide) (he : starEach (e :: es) X.env = (false, eval e X.env) :: starEach es X.env := by rfl) (hpl : (backTo pos (starEach es X.env)).any (·.1) = false := by rfl) :
    PE X (.Call (.Name x p) (e :: es) [] pos) (tCall sp [] E t) := by
  obtain ⟨f, fd, ps, F, hm, kp, b⟩ := c.ex
  exact pe_call F (hr.mono hk) hg hm kp b .nil hx ha hdb he hpl
theorem Cl.mono {P : Program} {w : World} {K : PySem.W.Frag} {mg : Str → Option Value} {base : Heap} (c : Cl P w K mg base k x sp) (h : k ≤ j) : Cl P w K mg base j x sp := by
  obtain ⟨f, fd, ps, F, hm, kp, b⟩ := c.ex
  exact ⟨f, fd, ps, F.mono h, hm, kp, b⟩
end
section
variable {P : Program} {w : World} {K : PySem.W.Frag} {mg : Str → Option Value} {base : Heap}
/-- a def keeps its promise, by its body; its code object is known -/
theorem okT {CX : CXT} {x qual : Str} {params : Arguments} {body : List Stmt} {scope : Scope} {q : He.Defn} {fd : FuncData} {N ps : List Str} {k : Nat} {sp : Sp} (F : FunD K x qual params body scope [] [] (He.fAd K q) fd) (S : FnScope N ps scope) (len : ∀ vs H Q E, sp vs H Q E → vs.length = ps.length)
    (hbody : ∀ (A : Around) (outer : List Env) (s : Shared) (H : Hp) (vs : List V) (Q : VK) (E : XK), Room k (A.deeper (envOfC qual scope s.heap.objs.size (He.fAd K q) (.ref (He.cT K q).1))) → sp vs H Q E →
      ∃ t, PSs (cxOf CX P w K mg base N qual scope (He.fAd K q) (.ref (He.cT K q).1) A outer s H E) body t ∧ t { nx := fun _ H' => Q .non H', rt := Q } (start N vs) H) : FnOk P w K mg base CX (k + 1) (He.fAd K q) fd ps sp := by
  obtain ⟨oc, od, dV, kV, doc, pm, an, cdv, ct, osl, rfl, lk, hcd, _, _⟩ := F.ex
  obtain ⟨c, rfl⟩ := He.codeIn_ref hcd
  have e : (He.cT K q).1 = c := He.codeOf_eq lk rfl
  refine fn_of lk hcd S len fun A outer s H vs Q E hr hsp => ?_
  rw [← e] at hr ⊢
  exact hbody A outer s H vs Q E hr hsp
/-- a def as Cl, by its body -/
theorem cl_of {x : Str} {params : Arguments} {body : List Stmt} {scope : Scope} {N ps : List Str} {k : Nat} {sp : Sp} (d : ∃ fd, FunD K x x params body scope [] [] (He.ga K x) fd) (hm : mg x = some (.ref (He.ga K x))) (S : FnScope N ps scope)
    (hb : ∀ (kV doc pm : Value) (an : Option Addr) (cdv ct : Value) (us : List Value), us.length = ps.length → bindArgs (PySem.W.fnOf x x params body scope .none kV doc pm an cdv ct) ⟨us, []⟩ = pure (ps.zip us)) (len : ∀ vs H Q E, sp vs H Q E → vs.length = ps.length)
    (hbody : ∀ (A : Around) (outer : List Env) (s : Shared) (H : Hp) (vs : List V) (Q : VK) (E : XK), Room k (A.deeper (envOfC x scope s.heap.objs.size (He.ga K x) (.ref (He.cT K (x, none)).1))) → sp vs H Q E →
      ∃ t, PSs (cxOf (L2.CX P w) P w K mg base N x scope (He.ga K x) (.ref (He.cT K (x, none)).1) A outer s H E) body t ∧ t { nx := fun _ H' => Q .non H', rt := Q } (start N vs) H) : Cl P w K mg base (k + 1) x sp := by
  obtain ⟨fd, F⟩ := d
  exact ⟨He.ga K x, fd, ps, okT (q := (x, none)) F S len hbody, hm, F.kp, F.bindsN hb⟩
end
theorem same_new {H : Hp} {p : Addr} {o : HO} (h : H p = none) : Same H (upd H p o) := fun b x e => by
  rw [upd_ne (ne_of_none e h)]
  exact e
/-! ### the values -/
abbrev nV (n : Nat) : V := .int (n : Int)
def oV : Option Nat → V
  | some n => nV n
  | none => .non
theorem oV_num (o : Option Nat) : oV o = .non ∨ ∃ i, oV o = .int i := by
  cases o with
  | none => exact .inl rfl
  | some n => exact .inr ⟨_, rfl⟩
theorem oV_some (ns : List Nat) : (ns.map some).map oV = ns.map nV := by
  rw [List.map_map]
  rfl
/-- a tuple of numbers, some of them None -/
def TupO (K : PySem.W.Frag) (H : Hp) (v : V) (os : List (Option Nat)) : Prop := ∃ a : Addr, v = .ref a ∧ SqT K H a (os.map oV)
/-- a tuple of numbers -/
def TupN (K : PySem.W.Frag) (H : Hp) (v : V) (ns : List Nat) : Prop := ∃ a : Addr, v = .ref a ∧ SqT K H a (ns.map nV)
/-- an order: a text and a number (or None) -/
def PairO (K : PySem.W.Frag) (H : Hp) (v : V) (w : List Nat) (o : Option Nat) : Prop := ∃ a : Addr, v = .ref a ∧ SqT K H a [.str (S w), oV o]
theorem TupN.o {K : PySem.W.Frag} {H : Hp} {v : V} {ns : List Nat} (h : TupN K H v ns) : TupO K H v (ns.map some) := by
  obtain ⟨a, e, h⟩ := h
  exact ⟨a, e, by rw [oV_some]; exact h⟩
theorem TupO.n {K : PySem.W.Frag} {H : Hp} {v : V} {ns : List Nat} (h : TupO K H v (ns.map some)) : TupN K H v ns := by
  obtain ⟨a, e, h⟩ := h
  exact ⟨a, e, by rw [oV_some] at h; exact h⟩
/-! ### what grows -/
theorem seqT_ext {K : PySem.W.Frag} {H H' : Hp} {a : Addr} {xs : List V} (e : LamX.ExtN H H') (h : SqT K H a xs) : SqT K H' a xs := by
  rcases h with (h | ⟨o, h⟩) | h
  · exact .inl (.inl (e _ _ h (fun _ z => nomatch z)))
  · exact .inl (.inr ⟨o, e _ _ h (fun _ z => nomatch z)⟩)
  · exact .inr h
theorem seqL_ext {K : PySem.W.Frag} {H H' : Hp} {a : Addr} {xs : List V} (e : LamX.ExtN H H') (h : SqL K H a xs) : SqL K H' a xs := by
  rcases h with (h | ⟨o, h⟩) | h
  · exact .inl (.inl (e _ _ h (fun _ z => nomatch z)))
  · exact .inl (.inr ⟨o, e _ _ h (fun _ z => nomatch z)⟩)
  · exact .inr h
theorem TupO.ext {K : PySem.W.Frag} {H H' : Hp} {v : V} {os : List (Option Nat)} (e : LamX.ExtN H H') (h : TupO K H v os) : TupO K H' v os := by
  obtain ⟨a, e1, h⟩ := h
  exact ⟨a, e1, seqT_ext e h⟩
theorem TupN.ext {K : PySem.W.Frag} {H H' : Hp} {v : V} {os : List Nat} (e : LamX.ExtN H H') (h : TupN K H v os) : TupN K H' v os := by
  obtain ⟨a, e1, h⟩ := h
  exact ⟨a, e1, seqT_ext e h⟩
theorem PairO.ext {K : PySem.W.Frag} {H H' : Hp} {v : V} {w : List Nat} {o : Option Nat} (e : LamX.ExtN H H') (h : PairO K H v w o) : PairO K H' v w o := by
  obtain ⟨a, e1, h⟩ := h
  exact ⟨a, e1, seqT_ext e h⟩
/-- the four tables of code objects, by K -/
def tG1 (K : PySem.W.Frag) : Addr := (He.cT K ("is_loss", none)).2
def tG2 (K : PySem.W.Frag) : Addr := (He.cT K ("number_of", none)).2
def tL3 (K : PySem.W.Frag) : Addr := (He.cT K ("_law_told", none)).2
def tL4 (K : PySem.W.Frag) : Addr := (He.cT K ("law", none)).2
abbrev q3 : Str := "_law_told.<locals>.<lambda>"
abbrev q4 : Str := "law.<locals>.<lambda>"
structure TabOk (K : PySem.W.Frag) (H : Hp) : Prop where
  a1 : GxR.TabG H (tG1 K)
  a2 : GxR.TabG H (tG2 K)
  a3 : LamX.TabS H (tL3 K) q3
  a4 : LamX.TabS H (tL4 K) q4
theorem tabG_same {H H' : Hp} {P : Addr} (e : ∀ b o, H b = some o → H' b = some o) (h : GxR.TabG H P) : GxR.TabG H' P := by
  obtain ⟨ps, h1, h2⟩ := h
  exact ⟨ps, e _ _ h1, h2⟩
theorem TabOk.same {K : PySem.W.Frag} {H H' : Hp} (h : TabOk K H) (e : ∀ b o, H b = some o → H' b = some o) : TabOk K H' := ⟨tabG_same e h.a1, tabG_same e h.a2, h.a3.ext e, h.a4.ext e⟩
/-- all but the tables stays; the tables are well -/
structure Gr (K : PySem.W.Frag) (H H' : Hp) : Prop where
  ext : LamX.ExtN H H'
  tab : TabOk K H'
theorem Gr.refl {K : PySem.W.Frag} {H : Hp} (h : TabOk K H) : Gr K H H := ⟨LamX.ExtN.refl H, h⟩
theorem Gr.trans {K : PySem.W.Frag} {H H1 H2 : Hp} (a : Gr K H H1) (b : Gr K H1 H2) : Gr K H H2 := ⟨a.ext.trans b.ext, b.tab⟩
theorem Gr.same {K : PySem.W.Frag} {H H' : Hp} (h : TabOk K H) (e : Same H H') : Gr K H H' := ⟨LamX.ExtN.of e, h.same e⟩
theorem Gr.new {K : PySem.W.Frag} {H H1 : Hp} {p : Addr} {o : HO} (g : Gr K H H1) (h : H1 p = none) : Gr K H (upd H1 p o) := g.trans (Gr.same g.tab (same_new h))
theorem tabs_ne {K : PySem.W.Frag} (m : ex K = true) : (tf.map fun p => (He.cT K p).2).Nodup := by
  unfold ex at m
  simp only [Bool.and_eq_true, decide_eq_true_eq] at m
  exact m.2.2.2.2.2
theorem tabs_apart {K : PySem.W.Frag} (m : ex K = true) : tG1 K ≠ tG2 K ∧ tG1 K ≠ tL3 K ∧ tG1 K ≠ tL4 K ∧ tG2 K ≠ tL3 K ∧ tG2 K ≠ tL4 K ∧ tL3 K ≠ tL4 K := by
  have h : [tG1 K, tG2 K, tL3 K, tL4 K].Nodup := tabs_ne m
  simp only [List.nodup_cons, List.mem_cons, List.not_mem_nil, or_false, not_or] at h
  obtain ⟨⟨h1, h2, h3⟩, ⟨h4, h5⟩, h6, _⟩ := h
  exact ⟨h1, h2, h3, h4, h5, h6⟩
/-- the table of a generator expression has grown -/
theorem tabS_but {H H' : Hp} {P R : Addr} {q : Str} (e : ∀ b, b ≠ P → H' b = H b) (hP : GxR.TabG H P) (n : P ≠ R) (h : LamX.TabS H R q) : LamX.TabS H' R q := by
  obtain ⟨ps, h1, h2, h3⟩ := h
  refine ⟨ps, by rw [e R n.symm]; exact h1, h2, fun pos cv hc => ?_⟩
  obtain ⟨c, e1, e2⟩ := h3 pos cv hc
  refine ⟨c, e1, ?_⟩
  have hc : c ≠ P := fun z => by
    obtain ⟨ps2, p1, _⟩ := hP
    rw [z, p1] at e2
    exact LamX.codeO_ne ps2 (Option.some.inj e2).symm
  rw [e c hc]
  exact e2
theorem gr_tab1 {K : PySem.W.Frag} (m : ex K = true) {H H' : Hp} (t : TabOk K H) (h : GxR.Tabbed (tG1 K) H H') : Gr K H H' := by
  obtain ⟨n12, n13, n14, n23, n24, n34⟩ := tabs_apart m
  obtain ⟨hg, he⟩ := h
  refine ⟨fun b o hb hn => ?_, hg, ?_, tabS_but he t.a1 n13 t.a3, tabS_but he t.a1 n14 t.a4⟩
  · have : b ≠ tG1 K := fun z => by
      obtain ⟨ps, p1, _⟩ := t.a1
      rw [z, p1] at hb
      exact hn ps (Option.some.inj hb).symm
    rw [he b this]
    exact hb
  · obtain ⟨ps, p1, p2⟩ := t.a2
    exact ⟨ps, by rw [he _ n12.symm]; exact p1, p2⟩
theorem gr_tab2 {K : PySem.W.Frag} (m : ex K = true) {H H' : Hp} (t : TabOk K H) (h : GxR.Tabbed (tG2 K) H H') : Gr K H H' := by
  obtain ⟨n12, n13, n14, n23, n24, n34⟩ := tabs_apart m
  obtain ⟨hg, he⟩ := h
  refine ⟨fun b o hb hn => ?_, ?_, hg, tabS_but he t.a2 n23 t.a3, tabS_but he t.a2 n24 t.a4⟩
  · have : b ≠ tG2 K := fun z => by
      obtain ⟨ps, p1, _⟩ := t.a2
      rw [z, p1] at hb
      exact hn ps (Option.some.inj hb).symm
    rw [he b this]
    exact hb
  · obtain ⟨ps, p1, p2⟩ := t.a1
    exact ⟨ps, by rw [he _ n12]; exact p1, p2⟩
end Kt
set_option maxHeartbeats 4000000
/-! The errors: BadBox(index), BadLine(line). -/
namespace Kt
open PySem PySem.Spec PyProof.Rows L2 SX Km
section
variable {K : PySem.W.Frag} {mg : Str → Option Value} {base : Heap} {P : Program} {w : World}
theorem oexIn_ok {C : Addr} (h : oexIn K C = true) : ∃ nm q N bs bm sn sub ab col dd k0 k1 k2 k3 k5, K.lookup C = some (excClassObj nm q C N bs bm true sn sub ab col dd k0 k1 k2 k3 k5 "ValueError.__new__") ∧ PySem.HandSPX.refsVE bm = true := by
  unfold oexIn at h
  cases lk : K.lookup C with
  | none =>
    rw [lk] at h
    cases h
  | some o =>
    obtain ⟨oc, od, dt, sl⟩ := o
    rw [lk] at h
    cases oc with
    | type t =>
      cases dt with
      | cls cd =>
        obtain ⟨nm, bs, mro, N, q, hd, sn, sub, ab, col, del⟩ := cd
        obtain ⟨h1, h2⟩ := Bool.and_eq_true_iff.mp h
        have e1 := of_decide_eq_true h1
        dsimp only at h2
        cases mro with
        | nil => simp at h2
        | cons m0 bm =>
          cases m0 with
          | ref C' =>
            obtain ⟨l, hl⟩ : ∃ l, sl.toList = l := ⟨_, rfl⟩
            rw [hl] at h2
            match l, hl, h2 with
            | [k0, k1, k2, k3, some (.builtin n), k5], hl, h2 =>
              simp only [Bool.and_eq_true, decide_eq_true_eq, Bool.not_eq_true'] at h2
              obtain ⟨e2, e3, e4, e5, e6⟩ := h2
              subst e1 e2 e3 e4 e5
              have es : sl = #[k0, k1, k2, k3, some (.builtin "ValueError.__new__"), k5] := by
                apply Array.toList_inj.mp
                rw [hl]
              subst es
              exact ⟨_, _, _, _, _, _, _, _, _, _, _, _, _, _, _, rfl, e6⟩
          | _ => simp at h2
      | _ => cases h
    | _ => cases dt <;> cases h
/-- an error class of the program: one field, set by its own __init__ -/
structure BadC (K : PySem.W.Frag) (C fI : Addr) (f : Str) : Prop where
  o : OexC K C
  iC : PySem.W.findIn K (.ref C) "__init__" = some (some (.ref fI))
  tI : PySem.W.typeIn K (.ref fI) = some (.type "function")
  no : PySem.W.findIn K (.ref C) f = some none
  me : PySem.W.exmOne K (.ref C) (.ref C) = some true
  xf : XfC K C
theorem excF_ok {x f : Str} (h : excF K x f = true) : BadC K (He.ga K x) (He.ma K (He.ga K x) "__init__") f := by
  unfold excF at h
  simp only [Bool.and_eq_true, decide_eq_true_eq] at h
  obtain ⟨h1, h2, h3, h4, h5, h6, h7, h8, h9, h10⟩ := h
  exact ⟨⟨oexIn_ok h1, h2, h3, h4, h5⟩, h6, h7, h8, h9, xfB_ok h10⟩
abbrev cBox (K : PySem.W.Frag) : Addr := He.ga K "BadBox"
abbrev cLine (K : PySem.W.Frag) : Addr := He.ga K "BadLine"
theorem Fx.box (T : Fx K mg base) : BadC K (cBox K) (He.ma K (cBox K) "__init__") "index" := by
  have h := T.m
  unfold ex at h
  simp only [Bool.and_eq_true, decide_eq_true_eq] at h
  exact excF_ok h.1
theorem Fx.line (T : Fx K mg base) : BadC K (cLine K) (He.ma K (cLine K) "__init__") "line" := by
  have h := T.m
  unfold ex at h
  simp only [Bool.and_eq_true, decide_eq_true_eq] at h
  exact excF_ok h.2.1
theorem Fx.isVE (T : Fx K mg base) : PySem.W.kitOne K (.ref (cLine K)) (.type "ValueError") = some true := by
  have h := T.m
  unfold ex at h
  simp only [Bool.and_eq_true, decide_eq_true_eq] at h
  exact h.2.2.1
theorem Fx.isC (T : Fx K mg base) : Kr.IsC K (cLine K) := by
  have h := T.m
  unfold ex at h
  simp only [Bool.and_eq_true, decide_eq_true_eq] at h
  exact Kr.isB_ok h.2.2.2.1
theorem Fx.words (T : Fx K mg base) : He.tupB K "WORDS" [.str "find", .str "lose", .str "weigh"] = true := by
  have h := T.m
  unfold ex at h
  simp only [Bool.and_eq_true, decide_eq_true_eq] at h
  exact h.2.2.2.2.1
/-- __init__(self, v): self.f = v -/
def spIni (K : PySem.W.Frag) (f : Str) : Sp := fun vs H Q _ => ∃ (a C : Addr) (y : V), vs = [.ref a, y] ∧ OexC K C ∧ PySem.W.findIn K (.ref C) f = some none ∧ H a = some (exo a C none) ∧
  ∀ dx, H dx = none → dx ≠ a → Q .non (upd (upd H dx (exd dx [(f, y)])) a (exo a C (some dx)))
theorem scIB : FnScope ["self", "index"] ["self", "index"] (defScope sIniBox) := ⟨rfl, rfl, rfl, by decide +kernel, rfl, by decide +kernel, by decide +kernel⟩
theorem scIL : FnScope ["self", "line"] ["self", "line"] (defScope sIniLine) := ⟨rfl, rfl, rfl, by decide +kernel, rfl, by decide +kernel, by decide +kernel⟩
theorem ok_iniB {fd : FuncData} {f : Addr} (F : FunD K "__init__" "BadBox.__init__" (defArgs sIniBox) (defBody sIniBox) (defScope sIniBox) [] [] f fd) : FnOk P w K mg base (L2.CX P w) 1 f fd ["self", "index"] (spIni K "index") := by
  refine F.ok scIB (fun vs H Q E h => ?_) (fun cdv A outer s H vs Q E hr h => ?_)
  · obtain ⟨a, C, y, rfl, _⟩ := h
    rfl
  · obtain ⟨a, C, y, rfl, hO, hno, ha, hQ⟩ := h
    refine ⟨_, pss_one (ps_ost (pv 0) (pv 1)), ?_⟩
    exact ⟨_, rfl, _, rfl, a, C, rfl, hO, hno, .inl ⟨ha, hQ⟩⟩
theorem ok_iniL {fd : FuncData} {f : Addr} (F : FunD K "__init__" "BadLine.__init__" (defArgs sIniLine) (defBody sIniLine) (defScope sIniLine) [] [] f fd) : FnOk P w K mg base (L2.CX P w) 1 f fd ["self", "line"] (spIni K "line") := by
  refine F.ok scIL (fun vs H Q E h => ?_) (fun cdv A outer s H vs Q E hr h => ?_)
  · obtain ⟨a, C, y, rfl, _⟩ := h
    rfl
  · obtain ⟨a, C, y, rfl, hO, hno, ha, hQ⟩ := h
    refine ⟨_, pss_one (ps_ost (pv 0) (pv 1)), ?_⟩
    exact ⟨_, rfl, _, rfl, a, C, rfl, hO, hno, .inl ⟨ha, hQ⟩⟩
end
/-- a reading, closed under what is weaker -/
def tMono (te : TE) : TE := fun σ H Q => ∃ Q0 : VK, te σ H Q0 ∧ ∀ v H', Q0 v H' → Q v H'
theorem PE.mono {X : Cx} {e : Expr} {te : TE} (h : PE X e te) : PE X e (tMono te) := by
  refine ⟨fun pins s σ H Q I ⟨Q0, h1, h2⟩ => ?_⟩
  exact thn (h.run pins s σ H Q0 I h1) fun u s' ⟨v, H', J, r, q⟩ => ⟨v, H', J, r, h2 v H' q⟩
/-- C(e), what is made -/
def tBad (C : Addr) (f : Str) (te : TE) : L2.St → Hp → XK → Prop := fun σ H Q => te σ H fun y H1 => ∀ d, H1 d = none → Q (.ref C) (some d) (upd H1 d (.xd [(f, y)]))
section
variable {X : Cx} {e : Expr} {te : TE} {p pos : Pos} {k : Nat}
theorem pmk_bad {x f : Str} {C fI : Addr} {fd : FuncData} {ps : List Str} (B : BadC X.K C fI f) (F1 : FnOk X.prog X.w X.K X.mg X.base (L2.CX X.prog X.w) 1 fI fd ps (spIni X.K f)) (hb : Binds X.K fd ps []) (hr : Room 2 X.A) (hg : Gl X x) (hm : X.mg x = some (.ref C)) (he : PE X e te)
    (hdb : (x == ("__debug__" : Str)) = false := by decide) (hs : starEach [e] X.env = (false, eval e X.env) :: starEach [] X.env := by rfl) : PMk X (.Call (.Name x p) [e] [] pos) (tBad C f te) := by
  intro pins s σ H Q I h
  refine pmk_oex (k := 1) (sp := spIni X.K f) B.o B.iC B.tI F1 hr hb .nil (fun _ _ _ _ _ _ _ ⟨_, _, _, _, _, _, _, _, _, _, _, _, z⟩ => z.elim) hg hm (pa_cons (PE.mono he) pa_nil hs) hdb hs rfl pins s σ H Q I ?_
  refine ⟨_, h, fun y H1 hq => ⟨Nat.succ_le_succ (Nat.zero_le _), fun a na => ⟨a, C, y, rfl, B.o, B.no, upd_same, fun dx nd hda => ?_⟩⟩⟩
  have nd1 : H1 dx = none := by rw [upd_ne hda] at nd; exact nd
  refine ⟨rfl, dx, [(f, y)], upd_same, by rw [upd_ne hda, upd_same], nd1, ?_⟩
  have e : upd (del (upd (upd (upd H1 a (exo a C none)) dx (exd dx [(f, y)])) a (exo a C (some dx))) a) dx (.xd [(f, y)]) = upd H1 dx (.xd [(f, y)]) := by
    funext b
    by_cases h1 : b = dx
    · rw [h1, upd_same, upd_same]
    · rw [upd_ne h1, upd_ne h1]
      by_cases h2 : b = a
      · rw [h2, del_same, na]
      · rw [del_ne h2, upd_ne h2, upd_ne h1, upd_ne h2]
  rw [e]
  exact hq dx nd1
end
section
variable {K : PySem.W.Frag} {mg : Str → Option Value} {base : Heap} {P : Program} {w : World} {X : Cx} {e : Expr} {te : TE} {p pos : Pos}
theorem raise_box (T : Fx X.K X.mg X.base) (hr : Room 2 X.A) (hg : Gl X "BadBox") (he : PE X e te) (hs : starEach [e] X.env = (false, eval e X.env) :: starEach [] X.env) : PMk X (.Call (.Name "BadBox" p) [e] [] pos) (tBad (cBox X.K) "index" te) := by
  obtain ⟨fd, F⟩ := T.d_BadBox_init
  exact pmk_bad T.box (ok_iniB F) (F.bindsN fun _ _ _ _ _ _ us hl => match us, hl with | [_, _], _ => rfl) hr hg T.g_BadBox he (by decide) hs
theorem raise_line (T : Fx X.K X.mg X.base) (hr : Room 2 X.A) (hg : Gl X "BadLine") (he : PE X e te) (hs : starEach [e] X.env = (false, eval e X.env) :: starEach [] X.env) : PMk X (.Call (.Name "BadLine" p) [e] [] pos) (tBad (cLine X.K) "line" te) := by
  obtain ⟨fd, F⟩ := T.d_BadLine_init
  exact pmk_bad T.line (ok_iniL F) (F.bindsN fun _ _ _ _ _ _ us hl => match us, hl with | [_, _], _ => rfl) hr hg T.g_BadLine he (by decide) hs
end
end Kt
/-! need_box and is_loss step by step. -/
namespace Km
open SX
theorem all_get {os : List (Option Nat)} {ns : List Nat} (h : allSome os = some ns) {i : Nat} {o : Option Nat} (e : os[i]? = some o) : ∃ n, o = some n ∧ ns[i]? = some n := by
  have h2 := (allSome_iff os ns).mp h
  rw [h2, List.getElem?_map] at e
  obtain ⟨n, h3, h4⟩ := Option.map_eq_some_iff.mp e
  exact ⟨n, h4.symm, h3⟩
/-- rising step by step is rising -/
theorem rise_le : ∀ {ns : List Nat}, (∀ i x y, ns[i]? = some x → ns[i + 1]? = some y → x ≤ y) → ns.Pairwise (· ≤ ·)
  | [], _ => .nil
  | [x], _ => List.pairwise_singleton _ _
  | x :: y :: r, h => by
    have ih : (y :: r).Pairwise (· ≤ ·) := rise_le fun i a b h1 h2 => h (i + 1) a b h1 h2
    have h0 : x ≤ y := h 0 x y rfl rfl
    refine .cons (fun z hz => ?_) ih
    rcases List.mem_cons.mp hz with e | e
    · rw [e]; exact h0
    · cases ih with
      | cons a b => exact Nat.le_trans h0 (a z e)
theorem rise_lt : ∀ {ns : List Nat}, (∀ i x y, ns[i]? = some x → ns[i + 1]? = some y → x < y) → ns.Pairwise (· < ·)
  | [], _ => .nil
  | [x], _ => List.pairwise_singleton _ _
  | x :: y :: r, h => by
    have ih : (y :: r).Pairwise (· < ·) := rise_lt fun i a b h1 h2 => h (i + 1) a b h1 h2
    have h0 : x < y := h 0 x y rfl rfl
    refine .cons (fun z hz => ?_) ih
    rcases List.mem_cons.mp hz with e | e
    · rw [e]; exact h0
    · cases ih with
      | cons a b => exact Nat.lt_trans h0 (a z e)
theorem fall_le {ns : List Nat} (h : ns.Pairwise (· ≤ ·)) {i x y : Nat} (h1 : ns[i]? = some x) (h2 : ns[i + 1]? = some y) : x ≤ y := by
  obtain ⟨l1, e1⟩ := List.getElem?_eq_some_iff.mp h1
  obtain ⟨l2, e2⟩ := List.getElem?_eq_some_iff.mp h2
  have := List.pairwise_iff_getElem.mp h i (i + 1) l1 l2 (Nat.lt_succ_self _)
  rw [e1, e2] at this
  exact this
theorem fall_lt {ns : List Nat} (h : ns.Pairwise (· < ·)) {i x y : Nat} (h1 : ns[i]? = some x) (h2 : ns[i + 1]? = some y) : x < y := by
  obtain ⟨l1, e1⟩ := List.getElem?_eq_some_iff.mp h1
  obtain ⟨l2, e2⟩ := List.getElem?_eq_some_iff.mp h2
  have := List.pairwise_iff_getElem.mp h i (i + 1) l1 l2 (Nat.lt_succ_self _)
  rw [e1, e2] at this
  exact this
/-- the places ahead of i are well -/
def BoxTo (os : List (Option Nat)) (i : Nat) : Prop := ∀ j, j < i → ∃ n, os[j]? = some (some n) ∧ 1 ≤ n ∧ n ≤ 1000 ∧ ∀ m, 0 < j → os[j - 1]? = some (some m) → m ≤ n
theorem box_yes {os : List (Option Nat)} (h1 : 1 ≤ os.length) (h2 : os.length ≤ 10) (h : BoxTo os os.length) : boxV os = true := by
  have hs : ∀ o ∈ os, ∃ n, o = some n := fun o ho => by
    obtain ⟨j, hj, e⟩ := List.getElem_of_mem ho
    obtain ⟨n, e1, _⟩ := h j hj
    rw [List.getElem?_eq_getElem hj, e] at e1
    exact ⟨n, Option.some.inj e1⟩
  have hn : allSome os ≠ none := fun z => by
    obtain ⟨n, e⟩ := hs _ (allSome_none z)
    cases e
  obtain ⟨ns, e⟩ := Option.ne_none_iff_exists'.mp hn
  have eo := (allSome_iff os ns).mp e
  unfold boxV
  rw [e]
  have hl : os.length = ns.length := by rw [eo, List.length_map]
  have at_ : ∀ {j x : Nat}, ns[j]? = some x → os[j]? = some (some x) := fun {j x} q => by rw [eo, List.getElem?_map, q]; rfl
  show isBox ns = true
  unfold isBox
  simp only [Bool.and_eq_true, decide_eq_true_eq, List.all_eq_true]
  refine ⟨by omega, by omega, fun n hn' => ?_, rise_le fun i x y hx hy => ?_⟩
  · obtain ⟨j, hj, ej⟩ := List.getElem_of_mem hn'
    obtain ⟨n', e1, a, b, _⟩ := h j (by omega)
    rw [at_ (x := n) (by rw [List.getElem?_eq_getElem hj, ej])] at e1
    cases e1
    exact ⟨a, b⟩
  · have hj := (List.getElem?_eq_some_iff.mp hy).1
    obtain ⟨n', e1, a, b, c⟩ := h (i + 1) (by omega)
    rw [at_ hy] at e1
    cases e1
    exact c x (Nat.succ_pos _) (at_ hx)
theorem box_parts {os : List (Option Nat)} (h : boxV os = true) : 1 ≤ os.length ∧ os.length ≤ 10 ∧ BoxTo os os.length := by
  unfold boxV at h
  cases e : allSome os with
  | none => rw [e] at h; cases h
  | some ns =>
    rw [e] at h
    have h : isBox ns = true := h
    have eo := (allSome_iff os ns).mp e
    have hl : os.length = ns.length := by rw [eo, List.length_map]
    unfold isBox at h
    simp only [Bool.and_eq_true, decide_eq_true_eq, List.all_eq_true] at h
    obtain ⟨h1, h2, h3, h4⟩ := h
    refine ⟨by omega, by omega, fun j hj => ?_⟩
    have hj2 : j < ns.length := by omega
    have ej : ns[j]? = some ns[j] := List.getElem?_eq_getElem hj2
    refine ⟨ns[j], by rw [eo, List.getElem?_map, ej]; rfl, (h3 _ (List.getElem_mem hj2)).1, (h3 _ (List.getElem_mem hj2)).2, fun m h0 hm => ?_⟩
    rw [eo, List.getElem?_map] at hm
    obtain ⟨m', e1, e2⟩ := Option.map_eq_some_iff.mp hm
    cases e2
    have : j - 1 + 1 = j := by omega
    exact fall_le h4 e1 (by rw [this]; exact ej)
theorem box_some {os : List (Option Nat)} (h : boxV os = true) : ∃ ns, os = ns.map some ∧ isBox ns = true := by
  unfold boxV at h
  cases e : allSome os with
  | none => rw [e] at h; cases h
  | some ns => rw [e] at h; exact ⟨ns, (allSome_iff os ns).mp e, h⟩
theorem allSome_map (ns : List Nat) : allSome (ns.map some) = some ns := (allSome_iff _ ns).mpr rfl
theorem boxV_map (ns : List Nat) : boxV (ns.map some) = isBox ns := by
  unfold boxV
  rw [allSome_map]
theorem lossV_map (m : Nat) (ns : List Nat) : lossV m (ns.map some) = isLoss m ns := by
  unfold lossV
  rw [allSome_map]
theorem loss_some {m : Nat} {os : List (Option Nat)} (h : lossV m os = true) : ∃ ns, os = ns.map some ∧ isLoss m ns = true := by
  unfold lossV at h
  cases e : allSome os with
  | none => rw [e] at h; cases h
  | some ns => rw [e] at h; exact ⟨ns, (allSome_iff os ns).mp e, h⟩
/-- a place of a loss, by itself -/
def inLoss (m : Nat) (o : Option Nat) : Bool := match o with
  | some n => decide (n < m)
  | none => false
theorem loss_one {m : Nat} {os : List (Option Nat)} (h : os.all (inLoss m) = true) : ∃ ns : List Nat, os = ns.map some ∧ ∀ n ∈ ns, n < m := by
  cases e : allSome os with
  | none =>
    have := List.all_eq_true.mp h _ (allSome_none e)
    cases this
  | some ns =>
    have eo := (allSome_iff os ns).mp e
    refine ⟨ns, eo, fun n hn => ?_⟩
    have := List.all_eq_true.mp h (some n) (by rw [eo]; exact List.mem_map.mpr ⟨n, hn, rfl⟩)
    exact of_decide_eq_true this
theorem loss_not {m : Nat} {os : List (Option Nat)} (h : os.all (inLoss m) = false) : lossV m os = false := by
  cases e : lossV m os with
  | false => rfl
  | true =>
    obtain ⟨ns, eo, h2⟩ := loss_some e
    have : os.all (inLoss m) = true := List.all_eq_true.mpr fun o ho => by
      rw [eo] at ho
      obtain ⟨n, hn, rfl⟩ := List.mem_map.mp ho
      exact decide_eq_true (isLoss_small h2 n hn)
    rw [this] at h
    cases h
theorem loss_two {m : Nat} {ns : List Nat} (h : ∀ n ∈ ns, n < m) : isLoss m ns = (List.range (ns.length - 1)).all fun k => decide (ns[k]?.getD 0 < ns[k + 1]?.getD 0) := by
  rw [Bool.eq_iff_iff]
  unfold isLoss
  simp only [Bool.and_eq_true, decide_eq_true_eq, List.all_eq_true, List.mem_range]
  constructor
  · rintro ⟨_, h2⟩ k hk
    have l1 : k < ns.length := by omega
    have l2 : k + 1 < ns.length := by omega
    have e1 : ns[k]? = some ns[k] := List.getElem?_eq_getElem l1
    have e2 : ns[k + 1]? = some ns[k + 1] := List.getElem?_eq_getElem l2
    have := fall_lt h2 e1 e2
    rw [e1, e2]
    exact this
  · intro h2
    refine ⟨h, rise_lt fun i x y hx hy => ?_⟩
    have l2 := (List.getElem?_eq_some_iff.mp hy).1
    have := h2 i (by omega)
    rw [hx, hy] at this
    exact this
end Km
set_option maxHeartbeats 4000000
/-! Short words over the layer's rules. -/
namespace Kt
open PySem PySem.Spec PyProof.Rows L2 SX Km
section
variable {K : PySem.W.Frag} {H : Hp}
theorem ty_tup {a : Addr} {xs : List V} (h : SqT K H a xs) : TyX K H (.ref a) (.type "tuple") := by
  rcases h with (h | ⟨o, h⟩) | ⟨o, its, n, h, hc, _⟩
  · exact .base (.tup h)
  · exact .fTuple h
  · exact .kTuple h hc
theorem ty_lst {a : Addr} {xs : List V} (h : SqL K H a xs) : TyX K H (.ref a) (.type "list") := by
  rcases h with (h | ⟨o, h⟩) | ⟨o, its, n, h, hc, _⟩
  · exact .base (.lst h)
  · exact .base (.frz h)
  · exact .kList h hc
end
/-- isinstance(e, T), T a built-in class -/
def tIs (K : PySem.W.Frag) (T : String) (te : TE) : TE := fun σ H Q => te σ H fun x H1 => ∃ (t : String) (b : Bool), TyX K H1 x (.type t) ∧ kitB t T = some b ∧ Q (.bl b) H1
section
variable {X : Cx} {e e1 e2 : Expr} {te : TE} {p p2 pos : Pos} {x : Str} {T : String}
theorem pe_is (hg : Gl X "isinstance") (hm : X.mg "isinstance" = none) (hgT : Gl X x) (hmT : X.mg x = none) (hv : bootBuiltins x = some (.type T)) (he : PE X e te) (hn : x ≠ "__name__" := by decide) (hd : (x == ("__debug__" : Str)) = false := by decide)
    (hs : starEach [e, .Name x p2] X.env = (false, eval e X.env) :: starEach [.Name x p2] X.env := by rfl) (hs2 : starEach [.Name x p2] X.env = (false, eval (.Name x p2) X.env) :: starEach [] X.env := by rfl) :
    PE X (.Call (.Name "isinstance" p) [e, .Name x p2] [] pos) (tIs X.K T te) := by
  refine ⟨fun pins s σ H Q I h => ?_⟩
  refine (pe_callB call_isi hg hm (by decide +kernel) (pa_cons (PE.mono he) (pa_cons (pe_bltn (v := .ty T) hgT hmT hv rfl hn hd) pa_nil hs2) hs) (by decide) (by decide) hs (by rfl)).run pins s σ H Q I ?_
  refine ⟨_, h, fun v H1 ⟨t, b, ty, k, q⟩ => ⟨v, .ty T, .type t, .type T, b, rfl, .ty T, ty, kit_ty k, q⟩⟩
end
/-! ### slices -/
theorem cut_tail (xs : List V) : cutV xs (some 1) none = xs.drop 1 := by
  unfold cutV
  rw [show HT.sIx xs.length 0 (some 1) = min 1 xs.length from HT.sIx_nat xs.length 0 1, HT.sIx_none]
  cases xs with
  | nil => rfl
  | cons x r =>
    have e : min 1 (x :: r).length = 1 := by
      rw [List.length_cons]
      omega
    rw [e]
    exact List.take_of_length_le (by simp)
/-- t[1:], t a tuple -/
def tTailT (K : PySem.W.Frag) (te : TE) : TE := fun σ H Q => te σ H fun x H1 => ∃ (a : Addr) (xs : List V), x = .ref a ∧ SqT K H1 a xs ∧ ∀ (b : Addr) (H2 : Hp), Same H1 H2 → SqT K H2 b (xs.drop 1) → Q (.ref b) H2
theorem pe_tailT {X : Cx} {e : Expr} {te : TE} {p1 p2 p3 : Pos} {j : Nat} (he : PE X e te) : PE X (.Subscript e (.Slice (some (.Constant (.int 1) j p1)) none none p2) p3) (tTailT X.K te) := by
  refine ⟨fun pins s σ H Q I h => ?_⟩
  refine (pe_slice sl_tupA (PE.mono he) (po_some pe_int) po_none).run pins s σ H Q I ⟨_, h, fun x H1 ⟨a, xs, e, hT, hQ⟩ => ?_⟩
  refine ⟨1, rfl, a, xs, e, hT, fun hw => ?_, fun _ p np => ?_⟩
  · have h0 : HT.sIx xs.length 0 (some 1) = 0 := hw.1
    rw [show HT.sIx xs.length 0 (some 1) = min 1 xs.length from HT.sIx_nat xs.length 0 1] at h0
    have hx : xs = [] := List.length_eq_zero_iff.mp (by omega)
    subst hx
    exact hQ a H1 (Same.refl H1) hT
  · rw [cut_tail]
    exact hQ p _ (same_new np) (.inl (.inl upd_same))
/-! ### generator expressions: their scopes -/
def genSB (sc scope : Scope) (x : Str) : Bool := decide (scope.kind = .function) && (!scope.isCoroutine && (scope.names.all (fun y => !decide (y.2 = .cell)) && (decide (scope.names.lookup (".0" : Str) = some NameKind.local) && (decide (scope.names.lookup x = some .local) &&
  scope.names.all (fun y => !decide (y.2 = .free) || decide (sc.names.lookup y.1 = some .cell))))))
theorem genS_by {q : Str} {sc scope : Scope} {L f : Addr} {cd : Value} {x : Str} (h : genSB sc scope x = true) : GxR.GenS (envOfC q sc L f cd) scope x := by
  unfold genSB at h
  simp only [Bool.and_eq_true, decide_eq_true_eq, Bool.not_eq_true', List.all_eq_true, Bool.or_eq_true, decide_eq_false_iff_not] at h
  obtain ⟨h1, h2, h3, h4, h5, h6⟩ := h
  refine ⟨h1, h2, h3, h4, h5, fun y hy e => ?_⟩
  rcases h6 y hy with z | z
  · exact absurd e z
  · exact Option.isSome_iff_exists.mp (PySem.W.cellsFrom_some _ _ _ (.inl z))
theorem Fx.tabB {K : PySem.W.Frag} {mg : Str → Option Value} {base : Heap} (T : Fx K mg base) {q : He.Defn} (h : q ∈ tf) : GxR.TabB base mg (He.cT K q).1 (He.cT K q).2 := by
  obtain ⟨a, b, c⟩ := T.tb _ (List.mem_map.mpr ⟨q, h, rfl⟩)
  exact ⟨a, b, c⟩
end Kt
set_option maxHeartbeats 4000000
/-! is_number, need_box. -/
namespace Kt
open PySem PySem.Spec PyProof.Rows L2 SX Km
section
variable {P : Program} {w : World} {K : PySem.W.Frag} {mg : Str → Option Value} {base : Heap}
/-! ### is_number -/
def spIsNum : Sp := fun vs H Q _ => ∃ (v : V) (lo hi : Int), vs = [v, .int lo, .int hi] ∧ (v = .non ∨ ∃ i, v = .int i) ∧ Q (.bl (Kg.numB v lo hi)) H
theorem scNum : FnScope ["value", "low", "high"] ["value", "low", "high"] (defScope sIsNum) := ⟨rfl, rfl, rfl, by decide +kernel, rfl, by decide +kernel, by decide +kernel⟩
theorem cl_is_number (T : Fx K mg base) : Cl P w K mg base 1 "is_number" spIsNum := by
  refine cl_of T.d_is_number T.g_is_number scNum (fun _ _ _ _ _ _ us hl => match us, hl with | [_, _, _], _ => rfl) (fun vs H Q E h => ?_) (fun A outer s H vs Q E hr h => ?_)
  · obtain ⟨v, lo, hi, rfl, _⟩ := h
    rfl
  · obtain ⟨v, lo, hi, rfl, hv, hQ⟩ := h
    refine ⟨_, pss_one (ps_ret (pe_and (pe_is (T := "int") (by rfl) T.n_isinstance (by rfl) T.n_int (by decide +kernel) (pv 0)) (pe_and (pe_not (pe_is (T := "bool") (by rfl) T.n_isinstance (by rfl) T.n_bool (by decide +kernel) (pv 0))) (pe_one (pe_chain op_le op_le (pv 1) (pv 0) (pv 2)))))), ?_⟩
    rcases hv with rfl | ⟨i, rfl⟩
    · exact ⟨_, rfl, "NoneType", false, .base .non, by decide +kernel, false, rfl, hQ⟩
    · refine ⟨_, rfl, "int", true, .base (.int i), by decide +kernel, true, rfl, ?_⟩
      refine iteT ⟨_, rfl, "int", false, .base (.int i), by decide +kernel, false, rfl, true, rfl, ?_⟩
      refine iteT ⟨_, rfl, _, rfl, lo, i, rfl, rfl, _, rfl, ?_⟩
      have e : Kg.numB (.int i) lo hi = (decide (lo ≤ i) && decide (i ≤ hi)) := rfl
      rw [e] at hQ
      by_cases hc : lo ≤ i
      · rw [decide_eq_true hc] at hQ ⊢
        exact iteT ⟨_, rfl, i, hi, rfl, rfl, by rw [Bool.true_and] at hQ; exact hQ⟩
      · rw [decide_eq_false hc] at hQ ⊢
        exact iteF hQ
/-! ### need_box -/
def spNeedBox (K : PySem.W.Frag) : Sp := fun vs H Q E => ∃ (v : V) (os : List (Option Nat)), vs = [v] ∧ TupO K H v os ∧ (boxV os = true → ∀ H', Same H H' → Q .non H') ∧
  (boxV os = false → ∀ (d : Addr) (y : V) (H' : Hp), Same H H' → H' d = some (.xd [("index", y)]) → E (.ref (cBox K)) (some d) H')
theorem scBox : FnScope ["value", "index", "weight"] ["value"] (defScope sNeedBox) := ⟨rfl, rfl, rfl, by decide +kernel, rfl, by decide +kernel, by decide +kernel⟩
theorem cl_need_box (T : Fx K mg base) : Cl P w K mg base 3 "need_box" (spNeedBox K) := by
  refine cl_of T.d_need_box T.g_need_box scBox (fun _ _ _ _ _ _ us hl => match us, hl with | [_], _ => rfl) (fun vs H Q E h => ?_) (fun A outer s H vs Q E hr h => ?_)
  · obtain ⟨v, os, rfl, _⟩ := h
    rfl
  · obtain ⟨v, os, rfl, ⟨a, rfl, hT⟩, hyes, hno⟩ := h
    obtain ⟨t10, m10⟩ := T.i_MOST_WEIGHTS
    obtain ⟨t1000, m1000⟩ := T.i_MOST_WEIGHT
    have cn := cl_is_number (P := P) (w := w) T
    refine ⟨_, pss_cons (ps_if (PW.pt (pw_or (pt_not (pt_val (pe_is (T := "tuple") (by rfl) T.n_isinstance (by rfl) T.n_tuple (by decide +kernel) (pv 0)))) (pw_or1 (pt_not (pt_chain op_le op_le pe_int (pe_callB call_len (by rfl) T.n_len (by decide +kernel) (pa_cons (pv 0) pa_nil)) (pe_glob (v := .int 10) (by rfl) m10 ⟨_, rfl⟩))))))
        (pss_one (ps_raise rfl (takes_of rfl rfl rfl rfl) (raise_box T hr (by rfl) pe_non rfl))) pss_nil)
      (pss_one (ps_for (passes_of rfl) rfl (Kr.pi_enumT (by rfl) T.n_enumerate (pa_cons (pv 0) pa_nil)) (pg_tup rfl (pgs_cons (pg_name (i := 1) scBox.nd rfl (.inl rfl)) (pgs_cons (pg_name (i := 2) scBox.nd rfl (.inl rfl)) pgs_nil)))
        (pss_one (ps_if (PW.pt (pw_or (pt_not (pt_val (pe_cl cn hr (by decide) (by rfl) quiet (pa_cons (pv 2) (pa_cons pe_int (pa_cons (pe_glob (v := .int 1000) (by rfl) m1000 ⟨_, rfl⟩) pa_nil))))))
            (pw_or1 (PW.pt (pw_and (pt_cmpR op_gt (pv 1) pe_int (nomark _)) (pw_and1 (pt_cmpR op_lt (pv 2) (pe_ix ix_tup (pv 0) (pe_op op_sub (pv 1) pe_int) (fun _ _ => rfl)) (nomark _))))))))
          (pss_one (ps_raise rfl (takes_of rfl rfl rfl rfl) (raise_box T hr (by rfl) (pv 1) rfl))) pss_nil)))), ?_⟩
    have raise : ∀ (y : V) (H' : Hp), boxV os = false → Same H H' → ∀ d, H' d = none → E (.ref (cBox K)) (some d) (upd H' d (.xd [("index", y)])) := fun y H' hb sm d nd => hno hb d y _ (sm.trans (same_new nd)) upd_same
    have hl : (os.map oV).length = os.length := List.length_map _
    refine ⟨_, rfl, "tuple", true, ty_tup hT, by decide +kernel, true, rfl, iteF ?_⟩
    refine ⟨_, rfl, _, _, rfl, .inr ⟨_, hT, rfl⟩, _, _, rfl, rfl, _, rfl, ?_⟩
    by_cases h1 : 1 ≤ os.length
    · have e1 : decide ((1 : Int) ≤ ((os.map oV).length : Int)) = true := decide_eq_true (by rw [hl]; omega)
      rw [e1]
      refine iteT ⟨_, _, rfl, rfl, _, rfl, ?_⟩
      by_cases h2 : os.length ≤ 10
      · have e2 : decide (((os.map oV).length : Int) ≤ 10) = true := decide_eq_true (by rw [hl]; omega)
        rw [e2]
        refine iteF ?_
        refine ⟨_, rfl, a, _, rfl, hT, Kr.for_enumT (xs := os.map oV) (fun i σ H3 => ∃ y1 y2, σ = [some (.ref a), y1, y2] ∧ Same H H3 ∧ BoxTo os i) ⟨none, none, rfl, Same.refl H, fun j hj => absurd hj (Nat.not_lt_zero _)⟩ (fun i σ H3 ⟨_, _, _, sm, _⟩ => ?_) (fun i x t σ H3 hx ⟨y1, y2, es, sm, hb⟩ nt => ?_) (fun σ H3 ⟨y1, y2, es, sm, hb⟩ => ?_)⟩
        · exact seqT_ext (LamX.ExtN.of sm) hT
        · subst es
          rw [List.getElem?_map] at hx
          obtain ⟨o, ho, rfl⟩ := Option.map_eq_some_iff.mp hx
          have smt : Same H (upd H3 t (.tup [.int (i : Nat), oV o])) := sm.trans (same_new nt)
          have hT3 : SqT K (upd H3 t (.tup [.int (i : Nat), oV o])) a (os.map oV) := seqT_ext (LamX.ExtN.of smt) hT
          refine ⟨t, _, rfl, .inl (.inl upd_same), rfl, _, _, rfl, _, _, rfl, rfl, ?_⟩
          refine ⟨_, rfl, oV o, 1, 1000, rfl, oV_num o, _, rfl, ?_⟩
          cases o with
          | none =>
            refine iteT ⟨_, rfl, fun d nd => raise _ _ ?_ smt d nd⟩
            cases e : boxV os with
            | false => rfl
            | true =>
              obtain ⟨n, e1, _⟩ := (box_parts e).2.2 i (List.getElem?_eq_some_iff.mp ho).1
              rw [ho] at e1
              cases e1
          | some n =>
            by_cases hn : 1 ≤ n ∧ n ≤ 1000
            · have e1 : Kg.numB (oV (some n)) 1 1000 = true := by
                show (decide ((1 : Int) ≤ (n : Int)) && decide ((n : Int) ≤ 1000)) = true
                simp
                omega
              rw [e1]
              refine iteF ⟨_, rfl, _, _, rfl, rfl, _, rfl, ?_⟩
              by_cases h0 : 0 < i
              · have e2 : decide ((i : Int) > 0) = true := decide_eq_true (by omega)
                rw [e2]
                obtain ⟨m, em, _, _, _⟩ := hb (i - 1) (by omega)
                refine iteT ⟨_, rfl, _, rfl, _, rfl, _, _, rfl, rfl, a, _, _, _, rfl, rfl, hT3, (by
                  have e9 : (i : Int) - 1 = ((i - 1 : Nat) : Int) := by omega
                  rw [e9]
                  exact atI_nat (v := oV (some m)) (by rw [List.getElem?_map, em]; rfl)), _, _, rfl, rfl, _, rfl, ?_⟩
                by_cases hmn : n < m
                · have e3 : decide ((n : Int) < (m : Int)) = true := decide_eq_true (by omega)
                  rw [e3]
                  refine iteT ⟨_, rfl, fun d nd => raise _ _ ?_ smt d nd⟩
                  cases e : boxV os with
                  | false => rfl
                  | true =>
                    obtain ⟨n', e1, _, _, hle⟩ := (box_parts e).2.2 i (List.getElem?_eq_some_iff.mp ho).1
                    rw [ho] at e1
                    cases e1
                    exact absurd (hle m h0 em) (by omega)
                · have e3 : decide ((n : Int) < (m : Int)) = false := decide_eq_false (by omega)
                  rw [e3]
                  refine iteF ⟨_, _, rfl, smt, fun j hj => ?_⟩
                  by_cases hji : j < i
                  · exact hb j hji
                  · obtain rfl : j = i := by omega
                    refine ⟨n, ho, hn.1, hn.2, fun m' _ em' => ?_⟩
                    rw [em] at em'
                    cases em'
                    omega
              · have e2 : decide ((i : Int) > 0) = false := decide_eq_false (by omega)
                rw [e2]
                refine iteF (iteF ⟨_, _, rfl, smt, fun j hj => ?_⟩)
                obtain rfl : j = i := by omega
                exact ⟨n, ho, hn.1, hn.2, fun m' h9 _ => absurd h9 h0⟩
            · have e1 : Kg.numB (oV (some n)) 1 1000 = false := by
                show (decide ((1 : Int) ≤ (n : Int)) && decide ((n : Int) ≤ 1000)) = false
                simp
                omega
              rw [e1]
              refine iteT (iteT ⟨_, rfl, fun d nd => raise _ _ ?_ smt d nd⟩)
              cases e : boxV os with
              | false => rfl
              | true =>
                obtain ⟨n', e1, h8, h9, _⟩ := (box_parts e).2.2 i (List.getElem?_eq_some_iff.mp ho).1
                rw [ho] at e1
                cases e1
                exact absurd ⟨h8, h9⟩ hn
        · exact hyes (box_yes h1 h2 (by rw [hl] at hb; exact hb)) H3 sm
      · have e2 : decide (((os.map oV).length : Int) ≤ 10) = false := decide_eq_false (by rw [hl]; omega)
        rw [e2]
        refine iteT fun d nd => raise .non H ?_ (Same.refl H) d nd
        cases e : boxV os with
        | false => rfl
        | true => exact absurd (box_parts e).2.1 h2
    · have e1 : decide ((1 : Int) ≤ ((os.map oV).length : Int)) = false := decide_eq_false (by rw [hl]; omega)
      rw [e1]
      refine iteF ⟨_, rfl, iteT fun d nd => raise .non H ?_ (Same.refl H) d nd⟩
      cases e : boxV os with
      | false => rfl
      | true => exact absurd (box_parts e).1 h1
end
end Kt
set_option maxHeartbeats 4000000
/-! is_loss, need_loss. -/
namespace Kt
open PySem PySem.Spec PyProof.Rows L2 SX Km
section
variable {P : Program} {w : World} {K : PySem.W.Frag} {mg : Str → Option Value} {base : Heap}
theorem num_loss (o : Option Nat) (m : Nat) : Kg.numB (oV o) 0 ((m : Int) - 1) = inLoss m o := by
  cases o with
  | none => rfl
  | some n =>
    show (decide ((0 : Int) ≤ (n : Int)) && decide ((n : Int) ≤ (m : Int) - 1)) = decide (n < m)
    rw [Bool.eq_iff_iff]
    simp
    omega
theorem all_get (os : List (Option Nat)) (p : Option Nat → Bool) : ((List.range os.length).all fun i => p (os[i]?.getD none)) = os.all p := by
  rw [Bool.eq_iff_iff, List.all_eq_true, List.all_eq_true]
  constructor
  · intro h o ho
    obtain ⟨j, hj, e⟩ := List.getElem_of_mem ho
    have := h j (List.mem_range.mpr hj)
    rw [List.getElem?_eq_getElem hj, e] at this
    exact this
  · intro h j hj
    have hj := List.mem_range.mp hj
    rw [List.getElem?_eq_getElem hj]
    exact h _ (List.getElem_mem hj)
def spIsLoss (K : PySem.W.Frag) : Sp := fun vs H Q _ => ∃ (b : Addr) (bs : List V) (v : V) (os : List (Option Nat)), vs = [.ref b, v] ∧ SqT K H b bs ∧ TupO K H v os ∧ TabOk K H ∧ ∀ H', Gr K H H' → Q (.bl (lossV bs.length os)) H'
theorem scLoss : FnScope ["box", "value"] ["box", "value"] (defScope sIsLoss) := ⟨rfl, rfl, rfl, by decide +kernel, rfl, by decide +kernel, by decide +kernel⟩
theorem cl_is_loss (T : Fx K mg base) : Cl P w K mg base 3 "is_loss" (spIsLoss K) := by
  refine cl_of T.d_is_loss T.g_is_loss scLoss (fun _ _ _ _ _ _ us hl => match us, hl with | [_, _], _ => rfl) (fun vs H Q E h => ?_) (fun A outer s H vs Q E hr h => ?_)
  · obtain ⟨b, bs, v, os, rfl, _⟩ := h
    rfl
  · obtain ⟨b, bs, v, os, rfl, hb, ⟨a, rfl, hT⟩, hG, hQ⟩ := h
    obtain ⟨fd, F⟩ := T.d_is_number
    have TB := T.tabB (q := ("is_loss", none)) (by simp [tf])
    refine ⟨_, pss_cons (ps_if (PW.pt (pw_or (pt_not (pt_val (pe_is (T := "tuple") (by rfl) T.n_isinstance (by rfl) T.n_tuple (by decide +kernel) (pv 1)))) (pw_or1 (pt_not (pt_val
        (Kg.pe_allT (P := tG1 K) hr (by rfl) T.n_all TB rfl (genS_by (by decide +kernel)) (pv 1) (Kg.elt_num (ib := 0) (k := 1) F hr T.g_is_number F.kp T.n_isinstance T.n_int T.n_bool T.n_len rfl rfl rfl rfl rfl rfl rfl (fun _ => rfl)) (fun _ => rfl)))))))
        (pss_one (ps_ret pe_bl)) pss_nil)
      (pss_one (ps_ret (Kg.pe_allZ (P := tG1 K) hr (by rfl) T.n_all (by rfl) T.n_zip TB rfl (genS_by (by decide +kernel)) rfl (by decide) (pa_cons (pv 1) (pa_cons (pe_tailT (pv 1)) pa_nil)) (Kg.elt_lt rfl rfl rfl) (fun _ => rfl)))), ?_⟩
    refine ⟨_, rfl, "tuple", true, ty_tup hT, by decide +kernel, true, rfl, iteF ?_⟩
    refine ⟨_, rfl, a, os.map oV, fun i => inLoss bs.length (os[i]?.getD none), rfl, hT, hG.a1, ⟨b, bs, rfl, hb, fun v hv => ?_, fun i v hv => ?_⟩, fun H2 hTab => ?_⟩
    · obtain ⟨o, _, rfl⟩ := List.mem_map.mp hv
      exact oV_num o
    · rw [List.getElem?_map] at hv
      obtain ⟨o, ho, rfl⟩ := Option.map_eq_some_iff.mp hv
      rw [num_loss]
      show inLoss bs.length (os[i]?.getD none) = _
      rw [ho]
      rfl
    · have g2 : Gr K H H2 := gr_tab1 T.m hG hTab
      refine ⟨_, rfl, ?_⟩
      rw [List.length_map, Kt.all_get os (inLoss bs.length)]
      cases e : os.all (inLoss bs.length) with
      | false =>
        refine iteT ?_
        have := hQ H2 g2
        rw [loss_not e] at this
        exact this
      | true =>
        refine iteF ?_
        obtain ⟨ns, rfl, hns⟩ := loss_one e
        have hT2 : SqT K H2 a (ns.map nV) := by
          have := seqT_ext g2.ext hT
          rw [oV_some] at this
          exact this
        refine ⟨_, rfl, _, rfl, a, _, rfl, hT2, fun c H3 sm hc => ?_⟩
        have g3 : Gr K H2 H3 := Gr.same g2.tab sm
        refine ⟨a, c, _, _, fun k => decide (ns[k]?.getD 0 < ns[k + 1]?.getD 0), rfl, seqT_ext g3.ext hT2, hc, g3.tab.a1, ⟨fun v hv => ?_, fun v hv => ?_, fun k i j hi hj => ?_⟩, fun H4 hTab4 => ?_⟩
        · obtain ⟨n, _, rfl⟩ := List.mem_map.mp hv
          exact ⟨_, rfl⟩
        · obtain ⟨n, _, rfl⟩ := List.mem_map.mp (List.mem_of_mem_drop hv)
          exact ⟨_, rfl⟩
        · rw [List.getElem?_map] at hi
          rw [List.getElem?_drop, List.getElem?_map] at hj
          obtain ⟨x, hx, ex⟩ := Option.map_eq_some_iff.mp hi
          obtain ⟨y, hy, ey⟩ := Option.map_eq_some_iff.mp hj
          cases ex
          cases ey
          show decide (ns[k]?.getD 0 < ns[k + 1]?.getD 0) = _
          rw [show k + 1 = 1 + k by omega, hx, hy]
          simp
        · have e2 : min (ns.map nV).length ((ns.map nV).drop 1).length = ns.length - 1 := by
            rw [List.length_drop, List.length_map]
            omega
          rw [e2, ← loss_two hns, ← lossV_map]
          exact hQ H4 ((g2.trans g3).trans (gr_tab1 T.m g3.tab hTab4))
/-! ### need_loss, of a loss -/
def spNeedLoss (K : PySem.W.Frag) : Sp := fun vs H Q _ => ∃ (b : Addr) (bs : List V) (v : V) (os : List (Option Nat)), vs = [.ref b, v] ∧ SqT K H b bs ∧ TupO K H v os ∧ TabOk K H ∧ lossV bs.length os = true ∧ ∀ H', Gr K H H' → Q .non H'
theorem scNLoss : FnScope ["box", "value"] ["box", "value"] (defScope sNeedLoss) := ⟨rfl, rfl, rfl, by decide +kernel, rfl, by decide +kernel, by decide +kernel⟩
theorem cl_need_loss (T : Fx K mg base) : Cl P w K mg base 4 "need_loss" (spNeedLoss K) := by
  refine cl_of T.d_need_loss T.g_need_loss scNLoss (fun _ _ _ _ _ _ us hl => match us, hl with | [_, _], _ => rfl) (fun vs H Q E h => ?_) (fun A outer s H vs Q E hr h => ?_)
  · obtain ⟨b, bs, v, os, rfl, _⟩ := h
    rfl
  · obtain ⟨b, bs, v, os, rfl, hb, hT, hG, hl, hQ⟩ := h
    refine ⟨_, pss_one (ps_if (pt_not (pt_val (pe_cl (cl_is_loss T) hr (by decide) (by rfl) quiet (pa_cons (pv 0) (pa_cons (pv 1) pa_nil))))) (pss_one ps_never) pss_nil), ?_⟩
    refine ⟨_, rfl, _, rfl, b, bs, v, os, rfl, hb, hT, hG, fun H' g => ⟨_, rfl, ?_⟩⟩
    rw [hl]
    exact iteF (hQ H' g)
end
end Kt
set_option maxHeartbeats 4000000
/-! is_order, need_orders. -/
namespace Kt
open PySem PySem.Spec PyProof.Rows L2 SX Km
theorem s_find : ("find" : Str) = S wFind := by decide +kernel
theorem s_lose : ("lose" : Str) = S wLose := by decide +kernel
theorem s_weigh : ("weigh" : Str) = S wWeigh := by decide +kernel
theorem s_box : ("box" : Str) = S wBox := by decide +kernel
theorem s_lost : ("lost" : Str) = S wLost := by decide +kernel
theorem str_eq (a b : List Nat) : decide (V.str (S a) = V.str (S b)) = decide (a = b) := by
  rw [Bool.eq_iff_iff, decide_eq_true_eq, decide_eq_true_eq]
  constructor
  · intro h
    exact S_inj (V.str.inj h)
  · intro h
    rw [h]
def isWord (w : List Nat) : Bool := decide (w = wFind) || (decide (w = wLose) || decide (w = wWeigh))
theorem in_words (wd : List Nat) : inV (.str (S wd)) [.str (S wFind), .str (S wLose), .str (S wWeigh)] = isWord wd := by
  have e : ∀ a : List Nat, eqV (.str (S a)) (.str (S wd)) = decide (wd = a) := fun a => by
    show (S a == S wd) = decide (wd = a)
    rw [S_beq_eq]
    rw [Bool.eq_iff_iff, decide_eq_true_eq, decide_eq_true_eq]
    exact eq_comm
  unfold inV isWord
  rw [List.any_cons, List.any_cons, List.any_cons, List.any_nil, e, e, e, Bool.or_false]
/-- a word, then what its numbers are -/
def ordV (m : Nat) (w : List Nat) (os : List (Option Nat)) : Bool := match os with
  | [some n] => isOrd m (w, n)
  | _ => false
section
variable {P : Program} {w : World} {K : PySem.W.Frag} {mg : Str → Option Value} {base : Heap}
theorem words_at (T : Fx K mg base) (H : Hp) : SqT K H (He.ga K "WORDS") [.str (S wFind), .str (S wLose), .str (S wWeigh)] := by
  have h := He.tupB_ok T.words H
  rw [← s_find, ← s_lose, ← s_weigh]
  exact h
def spIsOrder (K : PySem.W.Frag) : Sp := fun vs H Q _ => ∃ (b : Addr) (bs : List V) (a : Addr) (wd : List Nat) (os : List (Option Nat)), vs = [.ref b, .ref a] ∧ SqT K H b bs ∧ SqT K H a (.str (S wd) :: os.map oV) ∧ bs.length ≤ 10000 ∧ Q (.bl (ordV bs.length wd os)) H
theorem scIsOrd : FnScope ["box", "value"] ["box", "value"] (defScope sIsOrder) := ⟨rfl, rfl, rfl, by decide +kernel, rfl, by decide +kernel, by decide +kernel⟩
theorem cl_is_order (T : Fx K mg base) : Cl P w K mg base 2 "is_order" (spIsOrder K) := by
  refine cl_of T.d_is_order T.g_is_order scIsOrd (fun _ _ _ _ _ _ us hl => match us, hl with | [_, _], _ => rfl) (fun vs H Q E h => ?_) (fun A outer s H vs Q E hr h => ?_)
  · obtain ⟨b, bs, a, wd, os, rfl, _⟩ := h
    rfl
  · obtain ⟨b, bs, a, wd, os, rfl, hb, hT, hz, hQ⟩ := h
    obtain ⟨tl, ml⟩ := T.i_MOST_LOAD
    refine ⟨_, pss_cons (ps_if (PW.pt (pw_or (pt_not (pt_val (pe_is (T := "tuple") (by rfl) T.n_isinstance (by rfl) T.n_tuple (by decide +kernel) (pv 1))))
        (pw_or (pt_cmpR op_ne (pe_callB call_len (by rfl) T.n_len (by decide +kernel) (pa_cons (pv 1) pa_nil)) pe_int (nomark _))
        (pw_or (pt_not (pt_val (pe_is (T := "str") (by rfl) T.n_isinstance (by rfl) T.n_str (by decide +kernel) (pe_ix ix_tup (pv 1) pe_int (fun _ _ => rfl)))))
        (pw_or1 (pt_cmpR op_notIn_seq (pe_ix ix_tup (pv 1) pe_int (fun _ _ => rfl)) (pe_glob (v := .ref (He.ga K "WORDS")) (by rfl) T.g_WORDS rfl) (by rfl))))))) (pss_one (ps_ret pe_bl)) pss_nil)
      (pss_one (ps_ret (pe_cl (cl_is_number T) hr (by decide) (by rfl) quiet (pa_cons (pe_ix ix_tup (pv 1) pe_int (fun _ _ => rfl)) (pa_cons pe_int (pa_cons
        (pe_ifExp (pt_cmpR op_eq (pe_ix ix_tup (pv 1) pe_int (fun _ _ => rfl)) pe_str (nomark _)) (pe_glob (v := .int 10000) (by rfl) ml ⟨_, rfl⟩) (pe_op op_sub (pe_callB call_len (by rfl) T.n_len (by decide +kernel) (pa_cons (pv 0) pa_nil)) pe_int)) pa_nil)))))), ?_⟩
    have h0 : atI (V.str (S wd) :: os.map oV) 0 = some (.str (S wd)) := atI_nat (j := 0) rfl
    refine ⟨_, rfl, "tuple", true, ty_tup hT, by decide +kernel, true, rfl, iteF ?_⟩
    refine ⟨_, rfl, _, _, rfl, .inr ⟨_, hT, rfl⟩, rfl, _, rfl, ?_⟩
    by_cases h1 : os.length = 1
    · have e1 : (!decide (V.int (((V.str (S wd) :: os.map oV).length : Nat) : Int) = V.int 2)) = false := by
        simp [h1]
      rw [e1]
      refine iteF ⟨_, rfl, _, _, 0, _, rfl, rfl, hT, h0, "str", true, .base (.str _), by decide +kernel, true, rfl, iteF ?_⟩
      refine ⟨_, rfl, _, _, 0, _, rfl, rfl, hT, h0, _, _, rfl, .inr (words_at T H), rfl, rfl, _, rfl, ?_⟩
      obtain ⟨o, rfl⟩ := List.length_eq_one_iff.mp h1
      have h2 : atI [V.str (S wd), oV o] 1 = some (oV o) := atI_nat (j := 1) rfl
      have h3 : atI [V.str (S wd), oV o] 0 = some (.str (S wd)) := atI_nat (j := 0) rfl
      show (if (!inV (V.str (S wd)) [V.str (S wFind), V.str (S wLose), V.str (S wWeigh)]) = true then _ else _)
      rw [in_words]
      cases hw : isWord wd with
      | false =>
        refine iteT ?_
        have e : ordV bs.length wd [o] = false := by
          cases o with
          | none => rfl
          | some n =>
            show isOrd bs.length (wd, n) = false
            unfold isOrd
            unfold isWord at hw
            rw [hw, Bool.false_and]
        rw [e] at hQ
        exact hQ
      | true =>
        refine iteF ?_
        refine ⟨_, rfl, _, _, 1, _, rfl, rfl, hT, h2, _, rfl, _, _, 0, _, rfl, rfl, hT, h3, rfl, _, rfl, ?_⟩
        have eq : decide (V.str (S wd) = V.str ("weigh" : Str)) = decide (wd = wWeigh) := by
          rw [s_weigh]
          exact str_eq wd wWeigh
        rw [eq]
        have fin : ∀ hi : Int, (∀ n, o = some n → (decide ((n : Int) ≤ hi) = decide (n < (if wd = wWeigh then 10001 else bs.length)))) → Kg.numB (oV o) 0 hi = ordV bs.length wd [o] := fun hi hh => by
          cases o with
          | none => rfl
          | some n =>
            show (decide ((0 : Int) ≤ (n : Int)) && decide ((n : Int) ≤ hi)) = isOrd bs.length (wd, n)
            unfold isOrd
            have hw2 : (decide (wd = wFind) || (decide (wd = wLose) || decide (wd = wWeigh))) = true := hw
            rw [hh n rfl, hw2, Bool.true_and, decide_eq_true (Int.natCast_nonneg n), Bool.true_and]
        by_cases hc : wd = wWeigh
        · rw [decide_eq_true hc]
          refine iteT ⟨oV o, 0, 10000, rfl, oV_num o, ?_⟩
          rw [fin 10000 fun n _ => by
            rw [if_pos hc, Bool.eq_iff_iff, decide_eq_true_eq, decide_eq_true_eq]
            omega]
          exact hQ
        · rw [decide_eq_false hc]
          refine iteF ⟨_, rfl, _, _, rfl, .inr ⟨_, hb, rfl⟩, _, _, rfl, rfl, oV o, 0, _, rfl, oV_num o, ?_⟩
          rw [fin _ fun n _ => by
            rw [if_neg hc, Bool.eq_iff_iff, decide_eq_true_eq, decide_eq_true_eq]
            omega]
          exact hQ
    · have e1 : (!decide (V.int (((V.str (S wd) :: os.map oV).length : Nat) : Int) = V.int 2)) = true := by
        simp [h1]
        omega
      rw [e1]
      refine iteT ?_
      have e : ordV bs.length wd os = false := by
        unfold ordV
        split
        · exact absurd rfl h1
        · rfl
      rw [e] at hQ
      exact hQ
/-! ### need_orders, of orders -/
/-- what the values of orders are -/
def OrdsAt (K : PySem.W.Frag) (H : Hp) (os : List Ord) (vs : List V) : Prop := ∃ as : List Addr, vs = as.map V.ref ∧ as.length = os.length ∧ ∀ (i : Nat) (a : Addr) (o : Ord), as[i]? = some a → os[i]? = some o → SqT K H a [.str (S o.1), nV o.2]
theorem OrdsAt.ext {H H' : Hp} {os : List Ord} {vs : List V} (e : LamX.ExtN H H') (h : OrdsAt K H os vs) : OrdsAt K H' os vs := by
  obtain ⟨as, h1, h2, h3⟩ := h
  exact ⟨as, h1, h2, fun i a o ha ho => seqT_ext e (h3 i a o ha ho)⟩
theorem OrdsAt.len {H : Hp} {os : List Ord} {vs : List V} (h : OrdsAt K H os vs) : vs.length = os.length := by
  obtain ⟨as, h1, h2, h3⟩ := h
  rw [h1, List.length_map, h2]
theorem OrdsAt.get {H : Hp} {os : List Ord} {vs : List V} (h : OrdsAt K H os vs) {i : Nat} {x : V} (e : vs[i]? = some x) : ∃ (a : Addr) (o : Ord), x = .ref a ∧ os[i]? = some o ∧ SqT K H a [.str (S o.1), nV o.2] := by
  obtain ⟨as, h1, h2, h3⟩ := h
  rw [h1, List.getElem?_map] at e
  obtain ⟨a, ha, rfl⟩ := Option.map_eq_some_iff.mp e
  have hl := (List.getElem?_eq_some_iff.mp ha).1
  have ho : os[i]? = some os[i] := List.getElem?_eq_getElem (by omega)
  exact ⟨a, _, rfl, ho, h3 i a _ ha ho⟩
def spNeedOrds (K : PySem.W.Frag) : Sp := fun vs H Q _ => ∃ (b : Addr) (bs : List V) (a : Addr) (xs : List V) (os : List Ord), vs = [.ref b, .ref a] ∧ SqT K H b bs ∧ SqT K H a xs ∧ OrdsAt K H os xs ∧ os.length ≤ 200 ∧ bs.length ≤ 10000 ∧ (∀ o ∈ os, isOrd bs.length o = true) ∧ ∀ H', Same H H' → Q .non H'
theorem scNOrd : FnScope ["box", "value", "index", "order"] ["box", "value"] (defScope sNeedOrders) := ⟨rfl, rfl, rfl, by decide +kernel, rfl, by decide +kernel, by decide +kernel⟩
theorem cl_need_orders (T : Fx K mg base) : Cl P w K mg base 3 "need_orders" (spNeedOrds K) := by
  refine cl_of T.d_need_orders T.g_need_orders scNOrd (fun _ _ _ _ _ _ us hl => match us, hl with | [_, _], _ => rfl) (fun vs H Q E h => ?_) (fun A outer s H vs Q E hr h => ?_)
  · obtain ⟨b, bs, a, xs, os, rfl, _⟩ := h
    rfl
  · obtain ⟨b, bs, a, xs, os, rfl, hb, ha, hO, hl, hz, hok, hQ⟩ := h
    obtain ⟨tl, ml⟩ := T.i_MOST_ORDERS
    refine ⟨_, pss_cons (ps_if (PW.pt (pw_or (pt_not (pt_val (pe_is (T := "tuple") (by rfl) T.n_isinstance (by rfl) T.n_tuple (by decide +kernel) (pv 1)))) (pw_or1 (pt_cmpR op_gt (pe_callB call_len (by rfl) T.n_len (by decide +kernel) (pa_cons (pv 1) pa_nil)) (pe_glob (v := .int 200) (by rfl) ml ⟨_, rfl⟩) (nomark _)))))
        (pss_one ps_never) pss_nil)
      (pss_one (ps_for (passes_of rfl) rfl (Kr.pi_enumT (by rfl) T.n_enumerate (pa_cons (pv 1) pa_nil)) (pg_tup rfl (pgs_cons (pg_name (i := 2) scNOrd.nd rfl (.inl rfl)) (pgs_cons (pg_name (i := 3) scNOrd.nd rfl (.inl rfl)) pgs_nil)))
        (pss_one (ps_if (pt_not (pt_val (pe_cl (cl_is_order T) hr (by decide) (by rfl) quiet (pa_cons (pv 0) (pa_cons (pv 3) pa_nil))))) (pss_one ps_never) pss_nil)))), ?_⟩
    refine ⟨_, rfl, "tuple", true, ty_tup ha, by decide +kernel, true, rfl, iteF ?_⟩
    refine ⟨_, rfl, _, _, rfl, .inr ⟨_, ha, rfl⟩, _, _, rfl, rfl, _, rfl, ?_⟩
    have hlx := hO.len
    have e1 : decide (((xs.length : Nat) : Int) > 200) = false := decide_eq_false (by omega)
    rw [e1]
    refine iteF ?_
    refine ⟨_, rfl, a, _, rfl, ha, Kr.for_enumT (xs := xs) (fun i σ H3 => ∃ y1 y2, σ = [some (.ref b), some (.ref a), y1, y2] ∧ Same H H3) ⟨none, none, rfl, Same.refl H⟩ (fun i σ H3 ⟨_, _, _, sm⟩ => ?_) (fun i x t σ H3 hx ⟨y1, y2, es, sm⟩ nt => ?_) (fun σ H3 ⟨y1, y2, es, sm⟩ => hQ H3 sm)⟩
    · exact seqT_ext (LamX.ExtN.of sm) ha
    · subst es
      obtain ⟨c, o, rfl, ho, hc⟩ := hO.get hx
      have smt : Same H (upd H3 t (.tup [.int (i : Nat), .ref c])) := sm.trans (same_new nt)
      refine ⟨t, _, rfl, .inl (.inl upd_same), rfl, _, _, rfl, _, _, rfl, rfl, ?_⟩
      refine ⟨_, rfl, _, rfl, b, bs, c, o.1, [some o.2], rfl, seqT_ext (LamX.ExtN.of smt) hb, seqT_ext (LamX.ExtN.of smt) hc, hz, _, rfl, ?_⟩
      have e2 : ordV bs.length o.1 [some o.2] = true := hok o (List.mem_of_getElem? ho)
      rw [e2]
      exact iteF ⟨_, _, rfl, smt⟩
end
end Kt
set_option maxHeartbeats 4000000
/-! Comprehensions over a tuple or a list, no test; texts of words; joins. -/
namespace Kt
open PySem PySem.Spec PyProof.Rows L2 SX Km
/-- what does not lean on lists or tables stays -/
def ExtL (H H' : Hp) : Prop := ∀ b o, H b = some o → (∀ ps, o ≠ .tbl ps) → (∀ l, o ≠ .lst l) → H' b = some o
theorem ExtL.of {H H' : Hp} (e : LamX.ExtN H H') : ExtL H H' := fun b o h n _ => e b o h n
theorem ExtL.trans {H H1 H2 : Hp} (a : ExtL H H1) (b : ExtL H1 H2) : ExtL H H2 := fun c o h n m => b c o (a c o h n m) n m
theorem ExtL.upd {H : Hp} {D : Addr} {l l' : List V} (h : H D = some (.lst l)) : ExtL H (upd H D (.lst l')) := fun b o e n m => by
  have : b ≠ D := fun z => by
    rw [z, h] at e
    exact m l (Option.some.inj e).symm
  rw [upd_ne this]
  exact e
/-- the list at D, new since H1, changes; the rest grows -/
theorem gr_push {K : PySem.W.Frag} {H1 H4 : Hp} {D : Addr} {l : List V} (nD : H1 D = none) (h4 : ∃ l0, H4 D = some (.lst l0)) (g : Gr K H1 H4) : Gr K H1 (upd H4 D (.lst l)) := by
  obtain ⟨l0, h4⟩ := h4
  have ne : ∀ b o, H1 b = some o → b ≠ D := fun b o e => ne_of_none e nD
  have nt : ∀ {b : Addr} {ps : Array Value}, H4 b = some (.tbl ps) → b ≠ D := fun {b ps} e z => by
    rw [z, h4] at e
    cases e
  have tg : ∀ {Q : Addr}, GxR.TabG H4 Q → GxR.TabG (upd H4 D (.lst l)) Q := fun {Q} ⟨ps, a, b⟩ => ⟨ps, by rw [upd_ne (nt a)]; exact a, b⟩
  have ts : ∀ {Q : Addr} {q : Str}, LamX.TabS H4 Q q → LamX.TabS (upd H4 D (.lst l)) Q q := fun {Q q} ⟨ps, a, b, c⟩ => ⟨ps, by rw [upd_ne (nt a)]; exact a, b, fun pos cv hc => by
    obtain ⟨c0, e1, e2⟩ := c pos cv hc
    refine ⟨c0, e1, ?_⟩
    have : c0 ≠ D := fun z => by
      rw [z, h4] at e2
      unfold LamX.CodeO at e2
      cases e2
    rw [upd_ne this]
    exact e2⟩
  refine ⟨fun b o e n => by rw [upd_ne (ne b o e)]; exact g.ext b o e n, tg g.tab.a1, tg g.tab.a2, ts g.tab.a3, ts g.tab.a4⟩
section
variable {K : PySem.W.Frag} {a : Addr} {xs : List V} {te : TE} {i : Nat} {σ : L2.St} {H1 : Hp} {D : Addr} {Qd : Hp → Prop}
/-- [te for x in the tuple at a]: f tells of each result -/
theorem lc_mapT (t1 : TabOk K H1) (nD : H1 D = none) (hT : SqT K H1 a xs) (hz : xs.length ≤ 100000) (f : Nat → V → Hp → Prop) (st : ∀ j y H2 H3, f j y H2 → ExtL H2 H3 → f j y H3)
    (hs : ∀ j x H2 (Qe : VK), xs[j]? = some x → Gr K H1 H2 → (∀ y H3, Gr K H2 H3 → f j y H3 → Qe y H3) → te ((wipe σ [i]).set i (some x)) H2 Qe)
    (hd : ∀ ys H2, Gr K H1 H2 → H2 D = some (.lst ys) → ys.length = xs.length → (∀ j y, ys[j]? = some y → f j y H2) → Qd H2) :
    ∃ W : Nat → Nat → Hp → Prop, (∃ m, W 0 m (upd H1 D (.lst []))) ∧ ∀ k m H, W k m H →
      ((Itt K a).stop k H ∧ Qd H) ∨ ((Itt K a).go k H ∧ ∃ Nx : Hp → Prop, (∀ H', Nx H' → ∃ m', m' < m ∧ W (k + 1) m' H') ∧ ∀ x H', (Itt K a).yld k H x H' → gName i x (wipe σ [i]) H' fun σ2 H2 => wipe σ2 [i] = wipe σ [i] ∧ tYes σ2 H2 fun b H3 =>
        if b = true then te σ2 H3 fun y H4 => ∃ acc, H4 D = some (.lst acc) ∧ acc.length < sizeLine ∧ Nx (upd H4 D (.lst (acc ++ [y]))) else Nx H3) := by
  refine lc_tup (xs := xs) (fun k H => Gr K H1 H ∧ ∃ ys : List V, H D = some (.lst ys) ∧ ys.length = k ∧ ∀ j y, ys[j]? = some y → f j y H) ⟨(Gr.refl t1).new nD, [], upd_same, rfl, fun j y h => by simp at h⟩ (fun k H _ ⟨g, _⟩ => seqT_ext g.ext hT) (fun k x H hx ⟨g, ys, hy, hl, hf⟩ => ?_) (fun H ⟨g, ys, hy, hl, hf⟩ => hd ys H g hy hl hf)
  have hk := (List.getElem?_eq_some_iff.mp hx).1
  refine ⟨by simp [wipe], ?_⟩
  refine @id (te ((wipe σ [i]).set i (some x)) H _) ?_
  refine hs k x H _ hx g fun y H3 g3 f3 => ?_
  have h3 : H3 D = some (.lst ys) := g3.ext D _ hy (fun _ z => nomatch z)
  have h9 : sizeLine > 100000 := by decide
  refine ⟨ys, h3, by omega, gr_push nD ⟨ys, h3⟩ (g.trans g3), ys ++ [y], upd_same, by rw [List.length_append]; simp [hl], fun j z hj => ?_⟩
  rw [List.getElem?_append] at hj
  split at hj
  · exact st j z H3 _ (st j z H H3 (hf j z hj) (ExtL.of g3.ext)) (ExtL.upd h3)
  · rename_i hlt
    have hj2 := (List.getElem?_eq_some_iff.mp hj).1
    simp at hj2
    have e : j = ys.length := by omega
    subst e
    simp at hj
    subst hj
    rw [hl]
    exact st k y H3 _ f3 (ExtL.upd h3)
/-- [te for x in the list at a] -/
theorem lc_mapL (t1 : TabOk K H1) (nD : H1 D = none) (hT : SqL K H1 a xs) (hz : xs.length ≤ 100000) (f : Nat → V → Hp → Prop) (st : ∀ j y H2 H3, f j y H2 → ExtL H2 H3 → f j y H3)
    (hs : ∀ j x H2 (Qe : VK), xs[j]? = some x → Gr K H1 H2 → (∀ y H3, Gr K H2 H3 → f j y H3 → Qe y H3) → te ((wipe σ [i]).set i (some x)) H2 Qe)
    (hd : ∀ ys H2, Gr K H1 H2 → H2 D = some (.lst ys) → ys.length = xs.length → (∀ j y, ys[j]? = some y → f j y H2) → Qd H2) :
    ∃ W : Nat → Nat → Hp → Prop, (∃ m, W 0 m (upd H1 D (.lst []))) ∧ ∀ k m H, W k m H →
      ((Itl K a).stop k H ∧ Qd H) ∨ ((Itl K a).go k H ∧ ∃ Nx : Hp → Prop, (∀ H', Nx H' → ∃ m', m' < m ∧ W (k + 1) m' H') ∧ ∀ x H', (Itl K a).yld k H x H' → gName i x (wipe σ [i]) H' fun σ2 H2 => wipe σ2 [i] = wipe σ [i] ∧ tYes σ2 H2 fun b H3 =>
        if b = true then te σ2 H3 fun y H4 => ∃ acc, H4 D = some (.lst acc) ∧ acc.length < sizeLine ∧ Nx (upd H4 D (.lst (acc ++ [y]))) else Nx H3) := by
  refine lc_list (xs := xs) (fun k H => Gr K H1 H ∧ ∃ ys : List V, H D = some (.lst ys) ∧ ys.length = k ∧ ∀ j y, ys[j]? = some y → f j y H) ⟨(Gr.refl t1).new nD, [], upd_same, rfl, fun j y h => by simp at h⟩ (fun k H _ ⟨g, _⟩ => seqL_ext g.ext hT) (fun k x H hx ⟨g, ys, hy, hl, hf⟩ => ?_) (fun H ⟨g, ys, hy, hl, hf⟩ => hd ys H g hy hl hf)
  have hk := (List.getElem?_eq_some_iff.mp hx).1
  refine ⟨by simp [wipe], ?_⟩
  refine @id (te ((wipe σ [i]).set i (some x)) H _) ?_
  refine hs k x H _ hx g fun y H3 g3 f3 => ?_
  have h3 : H3 D = some (.lst ys) := g3.ext D _ hy (fun _ z => nomatch z)
  have h9 : sizeLine > 100000 := by decide
  refine ⟨ys, h3, by omega, gr_push nD ⟨ys, h3⟩ (g.trans g3), ys ++ [y], upd_same, by rw [List.length_append]; simp [hl], fun j z hj => ?_⟩
  rw [List.getElem?_append] at hj
  split at hj
  · exact st j z H3 _ (st j z H H3 (hf j z hj) (ExtL.of g3.ext)) (ExtL.upd h3)
  · rename_i hlt
    have hj2 := (List.getElem?_eq_some_iff.mp hj).1
    simp at hj2
    have e : j = ys.length := by omega
    subst e
    simp at hj
    subst hj
    rw [hl]
    exact st k y H3 _ f3 (ExtL.upd h3)
end
/-! ### words: texts and numbers -/
def WdOk (v : V) (t : List Nat) : Prop := v = .str (S t) ∨ ∃ n : Nat, n < 100000 ∧ v = nV n ∧ t = TL.numL n
def WdAll (xs : List V) (ts : List (List Nat)) : Prop := xs.length = ts.length ∧ ∀ (i : Nat) (x : V) (t : List Nat), xs[i]? = some x → ts[i]? = some t → WdOk x t
theorem WdAll.cons {v : V} {t : List Nat} {xs : List V} {ts : List (List Nat)} (h : WdOk v t) (hs : WdAll xs ts) : WdAll (v :: xs) (t :: ts) := by
  refine ⟨by rw [List.length_cons, List.length_cons, hs.1], fun i x u hx hu => ?_⟩
  cases i with
  | zero =>
    cases hx
    cases hu
    exact h
  | succ i => exact hs.2 i x u hx hu
theorem WdAll.nil : WdAll [] [] := ⟨rfl, fun i x t h _ => by simp at h⟩
theorem wd_nums {ns : List Nat} (h : ∀ n ∈ ns, n < 100000) : WdAll (ns.map nV) (ns.map TL.numL) := by
  refine ⟨by simp, fun i x t hx ht => ?_⟩
  rw [List.getElem?_map] at hx ht
  obtain ⟨n, hn, rfl⟩ := Option.map_eq_some_iff.mp hx
  rw [hn] at ht
  cases ht
  exact .inr ⟨n, h n (List.mem_of_getElem? hn), rfl, rfl⟩
theorem small_log {n : Nat} (h : n < 100000) : ((n : Int).natAbs).log2 < 1920 := by
  show n.log2 < 1920
  by_cases h0 : n = 0
  · subst h0
    decide
  · have h1 : n.log2 ≤ 20 := by
      refine Nat.le_of_lt_succ ((Nat.log2_lt h0).mpr ?_)
      have : (2 : Nat) ^ 21 = 2097152 := by decide
      omega
    omega
theorem num_text (n : Nat) : toString ((n : Nat) : Int) = S (TL.numL n) := num_S n
def tStr (te : TE) : TE := fun σ H Q => te σ H fun x H1 => ∃ t, WdOk x t ∧ Q (.str (S t)) H1
theorem call_strW {X : Cx} : CallR X (.type "str") (fun xs H Q => ∃ x t, xs = [x] ∧ WdOk x t ∧ Q (.str (S t)) H) := by
  intro pins s σ H xs us Q I r h
  obtain ⟨x, t, rfl, hw, q⟩ := h
  rcases hw with rfl | ⟨n, hn, rfl, rfl⟩
  · exact SkE.call_str_str pins s σ H _ us Q I r ⟨_, rfl, q⟩
  · exact call_str_int pins s σ H _ us Q I r ⟨_, rfl, small_log hn, by rw [num_text]; exact q⟩
end Kt
set_option maxHeartbeats 4000000
/-! line_of, _law_line. -/
namespace Kt
open PySem PySem.Spec PyProof.Rows L2 SX Km
theorem s_blank : (" " : Str) = S [32] := by decide +kernel
theorem s_nl : ("\n" : Str) = S [10] := by decide +kernel
theorem s_none : ("" : Str) = S [] := by decide +kernel
section
variable {P : Program} {w : World} {K : PySem.W.Frag} {mg : Str → Option Value} {base : Heap}
/-- words made a line -/
def spLine (K : PySem.W.Frag) : Sp := fun vs H Q _ => ∃ (a : Addr) (xs : List V) (ts : List (List Nat)), vs = [.ref a] ∧ SqT K H a xs ∧ WdAll xs ts ∧ xs.length ≤ 1000 ∧ (ts.map List.length).sum ≤ 1000000 ∧ TabOk K H ∧ ∀ H', Gr K H H' → Q (.str (S (lineT ts))) H'
theorem scLine : FnScope ["words", "word"] ["words"] (defScope sLineOf) := ⟨rfl, rfl, rfl, by decide +kernel, rfl, by decide +kernel, by decide +kernel⟩
theorem scLLine : FnScope ["_law_words", "_law_word"] ["_law_words"] (defScope sLLine) := ⟨rfl, rfl, rfl, by decide +kernel, rfl, by decide +kernel, by decide +kernel⟩
/-- what both do, told once -/
theorem line_read {σ : L2.St} {H : Hp} {Q : VK} {a : Addr} {xs : List V} {ts : List (List Nat)} (hT : SqT K H a xs) (hw : WdAll xs ts) (hz : xs.length ≤ 1000) (hl : (ts.map List.length).sum ≤ 1000000) (t0 : TabOk K H) (hQ : ∀ H', Gr K H H' → Q (.str (S (lineT ts))) H')
    (te : TE) (i : Nat) (hs : ∀ x H2 Q, te ((wipe σ [i]).set i (some x)) H2 Q ↔ ∃ t, WdOk x t ∧ Q (.str (S t)) H2) :
    ∀ D, H D = none → ∃ W : Nat → Nat → Hp → Prop, (∃ m, W 0 m (upd H D (.lst []))) ∧ ∀ k m H, W k m H →
      ((Itt K a).stop k H ∧ (∃ a' p, ∃ ys : List Str, V.str " " = .str a' ∧ [V.ref D] = [.ref p] ∧ (SqL K H p (ys.map V.str) ∨ SqT K H p (ys.map V.str)) ∧ (ys.map (·.length)).sum + ys.length * a'.length ≤ 16777216 ∧ Q (.str (Txt.join a' ys)) H)) ∨
      ((Itt K a).go k H ∧ ∃ Nx : Hp → Prop, (∀ H', Nx H' → ∃ m', m' < m ∧ W (k + 1) m' H') ∧ ∀ x H', (Itt K a).yld k H x H' → gName i x (wipe σ [i]) H' fun σ2 H2 => wipe σ2 [i] = wipe σ [i] ∧ tYes σ2 H2 fun b H3 =>
        if b = true then te σ2 H3 fun y H4 => ∃ acc, H4 D = some (.lst acc) ∧ acc.length < sizeLine ∧ Nx (upd H4 D (.lst (acc ++ [y]))) else Nx H3) := by
  intro D nD
  refine lc_mapT t0 nD hT (by omega) (fun j y _ => ∃ t, ts[j]? = some t ∧ y = .str (S t)) (fun j y H2 H3 h _ => h) (fun j x H2 Qe hx g hq => ?_) (fun ys H2 g hy hl2 hf => ?_)
  · have hj := (List.getElem?_eq_some_iff.mp hx).1
    have ht : ts[j]? = some (ts[j]'(by rw [← hw.1]; exact hj)) := List.getElem?_eq_getElem _
    exact (hs x H2 Qe).mpr ⟨_, hw.2 j x _ hx ht, hq _ H2 (Gr.refl g.tab) ⟨_, ht, rfl⟩⟩
  · have e : ys = (ts.map S).map V.str := by
      refine List.ext_getElem? fun j => ?_
      rw [List.map_map, List.getElem?_map]
      cases hj : ys[j]? with
      | none =>
        have := List.getElem?_eq_none_iff.mp hj
        rw [List.getElem?_eq_none (by rw [← hw.1]; omega)]
        rfl
      | some y =>
        obtain ⟨t, ht, rfl⟩ := hf j y hj
        rw [ht]
        rfl
    refine ⟨" ", D, ts.map S, rfl, rfl, .inl (.of (by rw [← e]; exact hy)), ?_, ?_⟩
    · rw [lens, List.length_map]
      have : (" " : Str).length = 1 := by decide +kernel
      rw [this, ← hw.1]
      have e3 : (List.map (fun x : List Nat => x.length) ts).sum = (ts.map List.length).sum := rfl
      omega
    · rw [s_blank, join_S]
      exact hQ H2 g
theorem cl_line_of (T : Fx K mg base) : Cl P w K mg base 1 "line_of" (spLine K) := by
  refine cl_of T.d_line_of T.g_line_of scLine (fun _ _ _ _ _ _ us hl => match us, hl with | [_], _ => rfl) (fun vs H Q E h => ?_) (fun A outer s H vs Q E hr h => ?_)
  · obtain ⟨a, xs, ts, rfl, _⟩ := h
    rfl
  · obtain ⟨a, xs, ts, rfl, hT, hw, hz, hl, t0, hQ⟩ := h
    refine ⟨_, pss_one (ps_ret (pe_join pe_str (pe_lc (own := [("word", 1)]) (g := gName 1) (tt := tYes) rfl scLine.nd (pi_tup (pv 0)) (blkOk_by (own := [("word", 1)]) (N := ["words", "word"]) (sc := defScope sLineOf) (by decide +kernel)) (fun _ _ _ _ _ => pg_name (i := 1) scLine.nd rfl (.inl rfl)) (fun _ _ _ _ _ => pts_nil)
      (fun _ _ _ _ _ => pe_callTy call_strW (by rfl) T.n_str (by decide +kernel) (pa_cons (pv 1) pa_nil))))), ?_⟩
    refine ⟨⟨_, rfl⟩, _, rfl, a, rfl, ⟨_, hT⟩, line_read hT hw hz hl t0 hQ _ 1 (fun x H2 Q => ⟨fun h => ?_, fun h => ?_⟩)⟩
    · obtain ⟨v, hv, x', t, e, hw, q⟩ := h
      cases hv
      cases e
      exact ⟨t, hw, q⟩
    · obtain ⟨t, hw, q⟩ := h
      exact ⟨x, rfl, x, t, rfl, hw, q⟩
theorem cl_law_line (T : Fx K mg base) : Cl P w K mg base 1 "_law_line" (spLine K) := by
  refine cl_of T.d_law_line T.g_law_line scLLine (fun _ _ _ _ _ _ us hl => match us, hl with | [_], _ => rfl) (fun vs H Q E h => ?_) (fun A outer s H vs Q E hr h => ?_)
  · obtain ⟨a, xs, ts, rfl, _⟩ := h
    rfl
  · obtain ⟨a, xs, ts, rfl, hT, hw, hz, hl, t0, hQ⟩ := h
    refine ⟨_, pss_one (ps_ret (pe_join pe_str (pe_lc (own := [("_law_word", 1)]) (g := gName 1) (tt := tYes) rfl scLLine.nd (pi_tup (pv 0)) (blkOk_by (own := [("_law_word", 1)]) (N := ["_law_words", "_law_word"]) (sc := defScope sLLine) (by decide +kernel)) (fun _ _ _ _ _ => pg_name (i := 1) scLLine.nd rfl (.inl rfl)) (fun _ _ _ _ _ => pts_nil)
      (fun _ _ _ _ _ => pe_callTy call_strW (by rfl) T.n_str (by decide +kernel) (pa_cons (pv 1) pa_nil))))), ?_⟩
    refine ⟨⟨_, rfl⟩, _, rfl, a, rfl, ⟨_, hT⟩, line_read hT hw hz hl t0 hQ _ 1 (fun x H2 Q => ⟨fun h => ?_, fun h => ?_⟩)⟩
    · obtain ⟨v, hv, x', t, e, hw, q⟩ := h
      cases hv
      cases e
      exact ⟨t, hw, q⟩
    · obtain ⟨t, hw, q⟩ := h
      exact ⟨x, rfl, x, t, rfl, hw, q⟩
/-! ### box_text, loss_text -/
theorem len_num5 {n : Nat} (h : n < 100000) : (TL.numL n).length ≤ 5 := by
  have h1 := num_ok h
  unfold numOk at h1
  simp only [Bool.and_eq_true, decide_eq_true_eq] at h1
  exact h1.2.1
theorem sum_nums : ∀ {ns : List Nat}, (∀ n ∈ ns, n < 100000) → ((ns.map TL.numL).map List.length).sum ≤ 5 * ns.length
  | [], _ => Nat.le_refl _
  | n :: ns, h => by
    have h1 := len_num5 (h n List.mem_cons_self)
    have h2 := sum_nums fun m hm => h m (List.mem_cons_of_mem _ hm)
    rw [List.map_cons, List.map_cons, List.sum_cons, List.length_cons]
    omega
theorem joinL_len : ∀ (ws : List (List Nat)), (TL.joinL [32] ws).length ≤ (ws.map List.length).sum + ws.length
  | [] => Nat.le_refl _
  | [w] => by
    show w.length ≤ _
    simp
  | w :: x :: r => by
    have ih := joinL_len (x :: r)
    have e : TL.joinL [32] (w :: x :: r) = w ++ [32] ++ TL.joinL [32] (x :: r) := by
      first
        | rfl
        | simp [TL.joinL]
    rw [e, List.length_append, List.length_append, List.map_cons, List.sum_cons, List.length_cons (a := w)]
    simp only [List.length_cons, List.length_nil] at ih ⊢
    omega
end
end Kt
set_option maxHeartbeats 4000000
/-! box_text, loss_text, orders_text. -/
namespace Kt
open PySem PySem.Spec PyProof.Rows L2 SX Km
/-- (e1,) + e2 -/
def tCatW (K : PySem.W.Frag) (t1 t2 : TE) : TE := fun σ H Q => t1 σ H fun x H0 => ∀ t, H0 t = none → t2 σ (upd H0 t (.tup [x])) fun y H1 => ∃ (a : Addr) (ys : List V), y = .ref a ∧ SqT K H1 a ys ∧ ys.length ≤ 100000 ∧ H1 t = some (.tup [x]) ∧
  ∀ (p : Addr) (H2 : Hp), Same H1 H2 → SqT K H2 p (x :: ys) → Q (.ref p) H2
theorem pe_catW {X : Cx} {e1 e2 : Expr} {t1 t2 : TE} {k : Nat} {p1 pos : Pos} (h1 : PE X e1 t1) (h2 : PE X e2 t2) (hs : starEach [e1] X.env = (false, eval e1 X.env) :: starEach [] X.env := by rfl) : PE X (.BinOp (.Tuple [e1] k p1) .Add e2 pos) (tCatW X.K t1 t2) := by
  refine ⟨fun pins s σ H Q I h => ?_⟩
  refine (pe_op op_catA (pe_tup (pa_cons (PE.mono h1) pa_nil hs)) (PE.mono h2)).run pins s σ H Q I ?_
  refine ⟨_, h, fun x H0 h0 => ⟨by show 1 ≤ sizeLine; decide, fun t nt => ⟨_, h0 t nt, fun y H1 ⟨a, ys, e, ha, hz, ht, hq⟩ => ?_⟩⟩⟩
  have h9 : 100001 ≤ sizeLine := by decide
  refine ⟨t, a, [x], ys, rfl, e, .inl (.inl ht), ha, by simp; omega, fun z => (by cases z), fun _ ey => ?_, fun _ _ p np => ?_⟩
  · subst ey
    exact hq t H1 (Same.refl H1) (.inl (.inl ht))
  · exact hq p _ (same_new np) (.inl (.inl upd_same))
section
variable {P : Program} {w : World} {K : PySem.W.Frag} {mg : Str → Option Value} {base : Heap}
def spBoxText (K : PySem.W.Frag) : Sp := fun vs H Q _ => ∃ (a : Addr) (ns : List Nat), vs = [.ref a] ∧ SqT K H a (ns.map nV) ∧ isBox ns = true ∧ TabOk K H ∧ ∀ H', Gr K H H' → Q (.str (S (boxL ns ++ [10]))) H'
theorem scBoxT : FnScope ["box"] ["box"] (defScope sBoxText) := ⟨rfl, rfl, rfl, by decide +kernel, rfl, by decide +kernel, by decide +kernel⟩
theorem box_sum {ns : List Nat} (h : isBox ns = true) : (ns.map nV).length ≤ 10 ∧ ((ns.map TL.numL).map List.length).sum ≤ 50 ∧ ∀ n ∈ ns, n < 100000 := by
  have h1 := isBox_len h
  have h3 : ∀ n ∈ ns, n < 100000 := fun n hn => by
    have := isBox_small h n hn
    omega
  have h2 := sum_nums h3
  exact ⟨by rw [List.length_map]; exact h1.2, by omega, h3⟩
theorem boxL_len {ns : List Nat} (h : isBox ns = true) : (boxL ns).length ≤ 100 := by
  have h1 := box_sum h
  have h2 := isBox_len h
  have := joinL_len (wBox :: ns.map TL.numL)
  have e : (wBox :: ns.map TL.numL).length = ns.length + 1 := by simp
  have e2 : ((wBox :: ns.map TL.numL).map List.length).sum = 3 + ((ns.map TL.numL).map List.length).sum := by
    rw [List.map_cons, List.sum_cons]
    rfl
  unfold boxL lineT
  omega
theorem cl_box_text (T : Fx K mg base) : Cl P w K mg base 4 "box_text" (spBoxText K) := by
  refine cl_of T.d_box_text T.g_box_text scBoxT (fun _ _ _ _ _ _ us hl => match us, hl with | [_], _ => rfl) (fun vs H Q E h => ?_) (fun A outer s H vs Q E hr h => ?_)
  · obtain ⟨a, ns, rfl, _⟩ := h
    rfl
  · obtain ⟨a, ns, rfl, hT, hb, t0, hQ⟩ := h
    refine ⟨_, pss_cons (ps_expr (pe_cl (cl_need_box T) hr (by decide) (by rfl) quiet (pa_cons (pv 0) pa_nil)))
      (pss_one (ps_ret (pe_op op_add_str (pe_cl (cl_line_of T) hr (by decide) (by rfl) quiet (pa_cons (pe_catW pe_str (pv 0)) pa_nil)) pe_str))), ?_⟩
    obtain ⟨z1, z2, z3⟩ := box_sum hb
    refine ⟨_, rfl, .ref a, ns.map some, rfl, TupN.o ⟨a, rfl, hT⟩, fun _ H1 s1 => ?_, fun hn => by rw [boxV_map, hb] at hn; cases hn⟩
    refine fun t nt => ⟨_, rfl, a, ns.map nV, rfl, seqT_ext (LamX.ExtN.of (s1.trans (same_new nt))) hT, by omega, upd_same, fun p H2 s2 hp => ?_⟩
    have g2 : Gr K H H2 := Gr.same t0 ((s1.trans (same_new nt)).trans s2)
    refine ⟨p, _, wBox :: ns.map TL.numL, rfl, hp, WdAll.cons (.inl (by rw [s_box])) (wd_nums z3), by simp at z1 ⊢; omega, ?_, g2.tab, fun H3 g3 => ?_⟩
    · rw [List.map_cons, List.sum_cons]
      have : wBox.length = 3 := rfl
      omega
    · refine ⟨_, _, rfl, rfl, ?_, ?_⟩
      · have h1 := boxL_len hb
        unfold boxL at h1
        have h2 : ("\n" : Str).length = 1 := by decide +kernel
        have h3 : (200 : Nat) ≤ sizeLine := by decide
        rw [S_len, h2]
        omega
      · rw [s_nl, S_cat]
        exact hQ H3 (g2.trans g3)
def spLossText (K : PySem.W.Frag) : Sp := fun vs H Q _ => ∃ (b a : Addr) (bs ns : List Nat), vs = [.ref b, .ref a] ∧ SqT K H b (bs.map nV) ∧ isBox bs = true ∧ SqT K H a (ns.map nV) ∧ isLoss bs.length ns = true ∧ ns.length ≤ 10 ∧ TabOk K H ∧ ∀ H', Gr K H H' → Q (.str (S (lossL ns ++ [10]))) H'
theorem scLossT : FnScope ["box", "loss"] ["box", "loss"] (defScope sLossText) := ⟨rfl, rfl, rfl, by decide +kernel, rfl, by decide +kernel, by decide +kernel⟩
theorem lossL_len {ns : List Nat} (hl : ns.length ≤ 10) (h3 : ∀ n ∈ ns, n < 100000) : (lossL ns).length ≤ 100 := by
  have h2 := sum_nums h3
  have := joinL_len (wLost :: ns.map TL.numL)
  have e : (wLost :: ns.map TL.numL).length = ns.length + 1 := by simp
  have e2 : ((wLost :: ns.map TL.numL).map List.length).sum = 4 + ((ns.map TL.numL).map List.length).sum := by
    rw [List.map_cons, List.sum_cons]
    rfl
  unfold lossL lineT
  omega
theorem cl_loss_text (T : Fx K mg base) : Cl P w K mg base 5 "loss_text" (spLossText K) := by
  refine cl_of T.d_loss_text T.g_loss_text scLossT (fun _ _ _ _ _ _ us hl => match us, hl with | [_, _], _ => rfl) (fun vs H Q E h => ?_) (fun A outer s H vs Q E hr h => ?_)
  · obtain ⟨b, a, bs, ns, rfl, _⟩ := h
    rfl
  · obtain ⟨b, a, bs, ns, rfl, hB, hb, hT, hl, hz, t0, hQ⟩ := h
    refine ⟨_, pss_cons (ps_expr (pe_cl (cl_need_box T) hr (by decide) (by rfl) quiet (pa_cons (pv 0) pa_nil)))
      (pss_cons (ps_expr (pe_cl (cl_need_loss T) hr (by decide) (by rfl) quiet (pa_cons (pv 0) (pa_cons (pv 1) pa_nil))))
      (pss_one (ps_ret (pe_op op_add_str (pe_cl (cl_line_of T) hr (by decide) (by rfl) quiet (pa_cons (pe_catW pe_str (pv 1)) pa_nil)) pe_str)))), ?_⟩
    have z0 := isBox_len hb
    have z3 : ∀ n ∈ ns, n < 100000 := fun n hn => by
      have := isLoss_small hl n hn
      omega
    have z4 := sum_nums z3
    have hlz : (ns.map nV).length = ns.length := List.length_map _
    refine ⟨_, rfl, .ref b, bs.map some, rfl, TupN.o ⟨b, rfl, hB⟩, fun _ H1 s1 => ?_, fun hn => by rw [boxV_map, hb] at hn; cases hn⟩
    have g1 : Gr K H H1 := Gr.same t0 s1
    refine ⟨_, rfl, _, rfl, b, bs.map nV, .ref a, ns.map some, rfl, seqT_ext g1.ext hB, TupN.o ⟨a, rfl, seqT_ext g1.ext hT⟩, g1.tab, by rw [List.length_map, lossV_map]; exact hl, fun H2 g2 => ?_⟩
    refine fun t nt => ⟨_, rfl, a, ns.map nV, rfl, seqT_ext (LamX.ExtN.of (same_new nt)) (seqT_ext (g1.trans g2).ext hT), by omega, upd_same, fun p H3 s3 hp => ?_⟩
    have g3 : Gr K H H3 := (g1.trans g2).trans (Gr.same g2.tab ((same_new nt).trans s3))
    refine ⟨p, _, wLost :: ns.map TL.numL, rfl, hp, WdAll.cons (.inl (by rw [s_lost])) (wd_nums z3), by simp; omega, ?_, g3.tab, fun H4 g4 => ?_⟩
    · rw [List.map_cons, List.sum_cons]
      have : wLost.length = 4 := rfl
      omega
    · refine ⟨_, _, rfl, rfl, ?_, ?_⟩
      · have h1 := lossL_len hz z3
        unfold lossL at h1
        have h2 : ("\n" : Str).length = 1 := by decide +kernel
        have h3 : (200 : Nat) ≤ sizeLine := by decide
        rw [S_len, h2]
        omega
      · rw [s_nl, S_cat]
        exact hQ H4 (g3.trans g4)
/-! ### orders_text -/
theorem joinL_nil : ∀ ys : List (List Nat), TL.joinL [] ys = ys.flatten
  | [] => rfl
  | [y] => by
    show y = _
    simp
  | y :: x :: r => by
    have ih := joinL_nil (x :: r)
    have e : TL.joinL [] (y :: x :: r) = y ++ [] ++ TL.joinL [] (x :: r) := by
      first
        | rfl
        | simp [TL.joinL]
    rw [e, ih, List.append_nil]
    rfl
theorem texts_of {ys : List V} {ts : List (List Nat)} (hl : ys.length = ts.length) (h : ∀ (j : Nat) (y : V), ys[j]? = some y → ∃ t, ts[j]? = some t ∧ y = .str (S t)) : ys = (ts.map S).map V.str := by
  refine List.ext_getElem? fun j => ?_
  rw [List.map_map, List.getElem?_map]
  cases hj : ys[j]? with
  | none =>
    have := List.getElem?_eq_none_iff.mp hj
    rw [List.getElem?_eq_none (by omega)]
    rfl
  | some y =>
    obtain ⟨t, ht, rfl⟩ := h j y hj
    rw [ht]
    rfl
theorem wd_ord {m : Nat} {o : Ord} (hm : m ≤ 10) (h : isOrd m o = true) : WdAll [.str (S o.1), nV o.2] [o.1, TL.numL o.2] ∧ ([o.1, TL.numL o.2].map List.length).sum ≤ 10 ∧ (ordL o).length ≤ 12 := by
  have h1 := ord_small hm h
  have h2 : o.2 < 100000 := by omega
  have h3 := len_num5 h2
  have h4 : o.1.length ≤ 5 := by
    rcases ord_word h with e | e | e <;> rw [e] <;> decide
  have h5 : ([o.1, TL.numL o.2].map List.length).sum ≤ 10 := by
    simp
    omega
  refine ⟨.cons (.inl rfl) (.cons (.inr ⟨_, h2, rfl, rfl⟩) .nil), h5, ?_⟩
  have := joinL_len [o.1, TL.numL o.2]
  have e : [o.1, TL.numL o.2].length = 2 := rfl
  unfold ordL lineT
  omega
theorem sum_le {ts : List (List Nat)} {k : Nat} (h : ∀ t ∈ ts, t.length ≤ k) : (ts.map List.length).sum ≤ k * ts.length := by
  induction ts with
  | nil => exact Nat.zero_le _
  | cons t ts ih =>
    have h1 := h t List.mem_cons_self
    have h2 := ih fun u hu => h u (List.mem_cons_of_mem _ hu)
    rw [List.map_cons, List.sum_cons, List.length_cons, Nat.mul_succ]
    omega
theorem flat_len (ts : List (List Nat)) : ts.flatten.length = (ts.map List.length).sum := List.length_flatten
def spOrdText (K : PySem.W.Frag) : Sp := fun vs H Q _ => ∃ (b a : Addr) (bs : List Nat) (xs : List V) (os : List Ord), vs = [.ref b, .ref a] ∧ SqT K H b (bs.map nV) ∧ isBox bs = true ∧ SqT K H a xs ∧ OrdsAt K H os xs ∧ os.length ≤ 200 ∧ (∀ o ∈ os, isOrd bs.length o = true) ∧ TabOk K H ∧
  ∀ H', Gr K H H' → Q (.str (S (textT (boxL bs :: os.map ordL)))) H'
theorem scOrdT : FnScope ["box", "orders", "order"] ["box", "orders"] (defScope sOrdersText) := ⟨rfl, rfl, rfl, by decide +kernel, rfl, by decide +kernel, by decide +kernel⟩
theorem cl_orders_text (T : Fx K mg base) : Cl P w K mg base 5 "orders_text" (spOrdText K) := by
  refine cl_of T.d_orders_text T.g_orders_text scOrdT (fun _ _ _ _ _ _ us hl => match us, hl with | [_, _], _ => rfl) (fun vs H Q E h => ?_) (fun A outer s H vs Q E hr h => ?_)
  · obtain ⟨b, a, bs, xs, os, rfl, _⟩ := h
    rfl
  · obtain ⟨b, a, bs, xs, os, rfl, hB, hb, hT, hO, hz, hok, t0, hQ⟩ := h
    refine ⟨_, pss_cons (ps_expr (pe_cl (cl_need_box T) hr (by decide) (by rfl) quiet (pa_cons (pv 0) pa_nil)))
      (pss_cons (ps_expr (pe_cl (cl_need_orders T) hr (by decide) (by rfl) quiet (pa_cons (pv 0) (pa_cons (pv 1) pa_nil))))
      (pss_one (ps_ret (pe_op op_add_str (pe_cl (cl_box_text T) hr (by decide) (by rfl) quiet (pa_cons (pv 0) pa_nil))
        (pe_join pe_str (pe_lc (own := [("order", 2)]) (g := gName 2) (tt := tYes) rfl scOrdT.nd (pi_tup (pv 1)) (blkOk_by (own := [("order", 2)]) (N := ["box", "orders", "order"]) (sc := defScope sOrdersText) (by decide +kernel)) (fun _ _ _ _ _ => pg_name (i := 2) scOrdT.nd rfl (.inl rfl)) (fun _ _ _ _ _ => pts_nil)
          (fun _ _ _ _ _ => pe_op op_add_str (pe_cl (cl_line_of T) hr (by decide) (by rfl) quiet (pa_cons (pv 2) pa_nil)) pe_str))))))), ?_⟩
    have z0 := isBox_len hb
    have hlx := hO.len
    have hlb : (bs.map nV).length = bs.length := List.length_map _
    refine ⟨_, rfl, .ref b, bs.map some, rfl, TupN.o ⟨b, rfl, hB⟩, fun _ H1 s1 => ?_, fun hn => by rw [boxV_map, hb] at hn; cases hn⟩
    have g1 : Gr K H H1 := Gr.same t0 s1
    refine ⟨_, rfl, _, rfl, b, bs.map nV, a, xs, os, rfl, seqT_ext g1.ext hB, seqT_ext g1.ext hT, hO.ext g1.ext, hz, by omega, by rw [hlb]; exact hok, fun H2 s2 => ?_⟩
    have g2 : Gr K H H2 := g1.trans (Gr.same g1.tab s2)
    refine ⟨_, rfl, b, bs, rfl, seqT_ext g2.ext hB, hb, g2.tab, fun H3 g3' => ?_⟩
    have g3 : Gr K H H3 := g2.trans g3'
    refine ⟨⟨_, rfl⟩, _, rfl, a, rfl, ⟨_, seqT_ext g3.ext hT⟩, fun D nD => ?_⟩
    refine lc_mapT (xs := xs) g3.tab nD (seqT_ext g3.ext hT) (by omega) (fun j y _ => ∃ t, (os.map fun o => ordL o ++ [10])[j]? = some t ∧ y = .str (S t)) (fun j y _ _ h _ => h) (fun j x H4 Qe hx g hq => ?_) (fun ys H4 g hy hl2 hf => ?_)
    · obtain ⟨c, o, rfl, ho, hc⟩ := hO.get hx
      have g4 : Gr K H H4 := g3.trans g
      obtain ⟨w1, w2, w3⟩ := wd_ord (by omega) (hok o (List.mem_of_getElem? ho))
      refine ⟨_, rfl, c, _, _, rfl, seqT_ext g4.ext hc, w1, by simp, by omega, g4.tab, fun H5 g5 => ⟨_, _, rfl, rfl, ?_, ?_⟩⟩
      · have h2 : ("\n" : Str).length = 1 := by decide +kernel
        have h3 : (200 : Nat) ≤ sizeLine := by decide
        unfold ordL at w3
        rw [S_len, h2]
        omega
      · rw [s_nl, S_cat]
        exact hq _ H5 g5 ⟨_, by rw [List.getElem?_map, ho]; rfl, rfl⟩
    · have e := texts_of (ts := os.map fun o => ordL o ++ [10]) (by rw [List.length_map]; omega) hf
      have hs : ((os.map fun o => ordL o ++ [10]).map List.length).sum ≤ 13 * 200 := by
        have h1 := sum_le (ts := os.map fun o => ordL o ++ [10]) (k := 13) (fun t ht => by
          obtain ⟨o, ho, rfl⟩ := List.mem_map.mp ht
          have := (wd_ord (by omega) (hok o ho)).2.2
          rw [List.length_append]
          show _ + 1 ≤ 13
          omega)
        rw [List.length_map] at h1
        omega
      refine ⟨"", D, (os.map fun o => ordL o ++ [10]).map S, rfl, rfl, .inl (.of (by rw [← e]; exact hy)), ?_, ?_⟩
      · rw [lens, List.length_map]
        have h1 : ("" : Str).length = 0 := by decide +kernel
        rw [h1]
        have e3 : (List.map (fun x : List Nat => x.length) (os.map fun o => ordL o ++ [10])).sum = ((os.map fun o => ordL o ++ [10]).map List.length).sum := rfl
        omega
      · rw [s_none, join_S, joinL_nil]
        refine ⟨_, _, rfl, rfl, ?_, ?_⟩
        · have h1 := boxL_len hb
          have h3 : (10000 : Nat) ≤ sizeLine := by decide
          rw [S_len, S_len, flat_len, List.length_append]
          show _ + 1 + _ ≤ _
          omega
        · rw [S_cat]
          have e5 : boxL bs ++ [10] ++ (os.map fun o => ordL o ++ [10]).flatten = textT (boxL bs :: os.map ordL) := by
            unfold textT
            rw [List.map_cons, List.flatten_cons, List.map_map]
            rfl
          rw [e5]
          exact hQ H4 (g3.trans g)
end
end Kt
set_option maxHeartbeats 4000000
/-! Texts cut at a sign, counted, sliced; lists sliced. -/
namespace Kt
open PySem PySem.Spec PyProof.Rows L2 SX Km
/-- a value that is a text, or none -/
def TxOk (v : V) : Option (List Nat) → Prop
  | some l => v = .str (S l)
  | none => v = .non ∨ v = .int 5
abbrev sV (l : List Nat) : V := .str (S l)
theorem count_cut (c : Nat) (l : List Nat) : Txt.count (S l) (S [c]) = (((cut c l).length - 1 : Nat) : Int) := by
  have h : ∀ l : List Nat, PyProof.Rows.cnt c l = ((l.filter (· == c)).length : Int) := by
    intro l
    induction l with
    | nil => exact PyProof.Rows.cnt_nil c
    | cons x r ih =>
      rw [PyProof.Rows.cnt_cons, ih]
      by_cases e : x = c
      · subst e
        simp
        omega
      · have e2 : (x == c) = false := by simp [e]
        rw [if_neg e, List.filter_cons, e2]
        simp
  have h1 := PyProof.Rows.count_cnt (S l) c
  have h2 : Txt.count (S l) (S [c]) = PyProof.Rows.cnt c l := h1
  rw [h2, h, cut_count]
  simp
/-! ### slices of lists -/
theorem cut_from (xs : List V) (k : Nat) : cutV xs (some (k : Int)) none = xs.drop k := by
  unfold cutV
  rw [HT.sIx_nat, HT.sIx_none]
  by_cases h : k ≤ xs.length
  · rw [Nat.min_eq_left h]
    exact List.take_of_length_le (by simp)
  · rw [Nat.min_eq_right (by omega), Nat.sub_self, List.take_zero]
    exact (List.drop_eq_nil_of_le (by omega)).symm
theorem cut_to (xs : List V) (k : Nat) : cutV xs none (some (k : Int)) = xs.take k := by
  unfold cutV
  rw [HT.sIx_nat, HT.sIx_none, List.drop_zero, Nat.sub_zero]
  by_cases h : k ≤ xs.length
  · rw [Nat.min_eq_left h]
  · rw [Nat.min_eq_right (by omega), List.take_of_length_le (Nat.le_refl _), List.take_of_length_le (by omega)]
theorem cut_mid (xs : List V) (j k : Nat) : cutV xs (some (j : Int)) (some (k : Int)) = (xs.take k).drop j := by
  unfold cutV
  rw [HT.sIx_nat, HT.sIx_nat, List.drop_take]
  by_cases hj : j ≤ xs.length
  · have e1 : min j xs.length = j := by omega
    rw [e1]
    by_cases hk : k ≤ xs.length
    · have e2 : min k xs.length = k := by omega
      rw [e2]
    · have e2 : min k xs.length = xs.length := by omega
      rw [e2, List.take_of_length_le (by simp), List.take_of_length_le (by simp; omega)]
  · have e1 : min j xs.length = xs.length := by omega
    rw [e1, List.drop_eq_nil_of_le (Nat.le_refl _), List.drop_eq_nil_of_le (by omega), List.take_nil, List.take_nil]
theorem cut_butlast (xs : List V) (h : xs ≠ []) : cutV xs none (some (-1)) = xs.dropLast := by
  have hp := List.length_pos_iff.mpr h
  unfold cutV
  rw [HT.sIx_none, List.drop_zero, Nat.sub_zero]
  have e : HT.sIx xs.length xs.length (some (-1)) = xs.length - 1 := by
    show (if (-1 : Int) < 0 then ((-1 : Int) + (xs.length : Int)).toNat else min (-1 : Int).toNat xs.length) = _
    rw [if_pos (by omega)]
    omega
  rw [e, List.dropLast_eq_take]
def tSpl (c : Nat) (te : TE) : TE := fun σ H Q => te σ H fun x H1 => ∃ l, x = sV l ∧ l.length ≤ 100000 ∧ ∀ D, H1 D = none → Q (.ref D) (upd H1 D (.lst ((cut c l).map sV)))
section
variable {X : Cx} {e : Expr} {te : TE} {p apos pos : Pos} {j : Nat}
/-- e.split(one sign) -/
theorem pe_spl {sep : Str} {c : Nat} (hsep : sep = S [c]) (hc : c < 256) (he : PE X e te) (hbase : attributeBase e "split" X.env (eval e X.env) = eval e X.env := by rfl) (hline : (apos.endLine == pos.line) = true := by rfl) :
    PE X (.Call (.Attribute e "split" apos) [.Constant (.str sep) j p] [] pos) (tSpl c te) := by
  refine ⟨fun pins s σ H Q I h => ?_⟩
  refine (pe_split (PE.mono he) pe_str rfl hbase hline).run pins s σ H Q I ⟨_, h, fun x H1 ⟨l, hx, hz, hq⟩ => ?_⟩
  have h9 : 100002 ≤ sizeLine := by decide
  refine ⟨⟨_, hx⟩, _, _, hx, rfl, by rw [hsep, S_len]; rfl, by rw [S_len]; omega, fun D nD => ?_⟩
  rw [hsep, split_is hc, List.map_map]
  exact hq D nD
end
/-- e[..] of a list, by naturals: a new list -/
theorem sl_new {H : Hp} {l l' : List V} (h : l = l') {Q : VK} (hq : ∀ p, H p = none → Q (.ref p) (upd H p (.lst l'))) : ∀ p, H p = none → Q (.ref p) (upd H p (.lst l)) := by
  subst h
  exact hq
end Kt
set_option maxHeartbeats 4000000
/-! lines_of, number_of, numbers_of. -/
namespace Kt
open PySem PySem.Spec PyProof.Rows L2 SX Km
section
variable {P : Program} {w : World} {K : PySem.W.Frag} {mg : Str → Option Value} {base : Heap}
/-- an error BadLine i is raised -/
def BadAt (K : PySem.W.Frag) (H : Hp) (E : XK) (i : Nat) : Prop := ∀ (d : Addr) (H' : Hp), Gr K H H' → H' d = some (.xd [("line", nV i)]) → E (.ref (cLine K)) (some d) H'
def spLinesOf (K : PySem.W.Frag) : Sp := fun vs H Q E => ∃ (v : V) (tx : Option (List Nat)), vs = [v] ∧ TxOk v tx ∧ (∀ l, tx = some l → l.length ≤ 100000) ∧ TabOk K H ∧
  (∀ ls, linesR tx = .ok ls → ∀ (D : Addr) (H' : Hp), Gr K H H' → H' D = some (.lst (ls.map sV)) → Q (.ref D) H') ∧ (∀ i, linesR tx = .error i → BadAt K H E i)
theorem scLines : FnScope ["text"] ["text"] (defScope sLinesOf) := ⟨rfl, rfl, rfl, by decide +kernel, rfl, by decide +kernel, by decide +kernel⟩
theorem cl_lines_of (T : Fx K mg base) : Cl P w K mg base 3 "lines_of" (spLinesOf K) := by
  refine cl_of T.d_lines_of T.g_lines_of scLines (fun _ _ _ _ _ _ us hl => match us, hl with | [_], _ => rfl) (fun vs H Q E h => ?_) (fun A outer s H vs Q E hr h => ?_)
  · obtain ⟨v, tx, rfl, _⟩ := h
    rfl
  · obtain ⟨v, tx, rfl, hv, hz, t0, hQ, hE⟩ := h
    refine ⟨_, pss_cons (ps_if (PW.pt (pw_or (pt_not (pt_val (pe_is (T := "str") (by rfl) T.n_isinstance (by rfl) T.n_str (by decide +kernel) (pv 0)))) (pw_or1 (pt_cmpR op_eq (pv 0) pe_str (nomark _)))))
        (pss_one (ps_raise rfl (takes_of rfl rfl rfl rfl) (raise_line T hr (by rfl) pe_int rfl))) pss_nil)
      (pss_cons (ps_if (pt_cmpR op_ne (pe_ix ix_str (pv 0) (pe_un un_neg pe_int) (fun _ _ => rfl)) pe_str (nomark _))
        (pss_one (ps_raise rfl (takes_of rfl rfl rfl rfl) (raise_line T hr (by rfl) (pe_m1 F.slot_str_count F.type_str_count mt_count (pv 0) pe_str) rfl))) pss_nil)
      (pss_one (ps_ret (pe_slice sl_list (pe_spl s_nl (by decide) (pv 0)) po_none (po_some (pe_un un_neg pe_int)))))), ?_⟩
    have bad : ∀ (i : Nat), linesR tx = .error i → ∀ (y : V), y = nV i → ∀ d, H d = none → E (.ref (cLine K)) (some d) (upd H d (.xd [("line", y)])) := fun i hi y hy d nd => hE i hi d _ ((Gr.refl t0).new nd) (by rw [hy, upd_same])
    cases tx with
    | none =>
      have hv : v = .non ∨ v = .int 5 := hv
      rcases hv with rfl | rfl
      · exact ⟨_, rfl, "NoneType", false, .base .non, by decide +kernel, false, rfl, iteT (iteT fun d nd => bad 0 rfl _ rfl d nd)⟩
      · exact ⟨_, rfl, "int", false, .base (.int 5), by decide +kernel, false, rfl, iteT (iteT fun d nd => bad 0 rfl _ rfl d nd)⟩
    | some l =>
      obtain rfl : v = sV l := hv
      have hl := hz l rfl
      refine ⟨_, rfl, "str", true, .base (.str _), by decide +kernel, true, rfl, iteF ⟨_, rfl, rfl, _, rfl, ?_⟩⟩
      have e0 : decide (sV l = V.str ("" : Str)) = decide (l = []) := by
        rw [s_none]
        exact str_eq l []
      rw [e0]
      by_cases h0 : l = []
      · rw [decide_eq_true h0]
        refine iteT fun d nd => bad 0 ?_ _ rfl d nd
        rw [h0]
        rfl
      · rw [decide_eq_false h0]
        obtain ⟨l0, c, rfl⟩ : ∃ l0 c, l = l0 ++ [c] := ⟨l.dropLast, l.getLast h0, (List.dropLast_concat_getLast h0).symm⟩
        have h9 : 100000 ≤ sizeLine := by decide
        have hlast : (l0 ++ [c]).getLast? = some c := by simp
        have hR : linesR (some (l0 ++ [c])) = if c = 10 then .ok (cut 10 (l0 ++ [c])).dropLast else .error ((cut 10 (l0 ++ [c])).length - 1) := by
          unfold linesR
          dsimp only
          rw [if_neg h0, hlast]
          by_cases hc : c = 10
          · rw [if_pos hc, if_pos (by rw [hc])]
          · rw [if_neg hc, if_neg (fun z => hc (Option.some.inj z))]
        refine iteF ⟨_, rfl, _, rfl, S (l0 ++ [c]), -1, c, rfl, rfl, by rw [S_len]; omega, atI_last l0 c, rfl, _, rfl, ?_⟩
        have e1 : decide (V.str ⟨#[c]⟩ = V.str ("\n" : Str)) = decide (c = 10) := by
          rw [s_nl]
          have h := str_eq [c] [10]
          rw [Bool.eq_iff_iff, decide_eq_true_eq, decide_eq_true_eq] at h ⊢
          exact h.trans ⟨fun z => by simpa using z, fun z => by rw [z]⟩
        rw [e1]
        by_cases hc : c = 10
        · rw [decide_eq_true hc]
          refine iteF ⟨_, rfl, _, rfl, hl, fun D nD => ⟨1, rfl, _, rfl, D, _, rfl, .inl (.inl upd_same), fun D2 nD2 => ?_⟩⟩
          have hne : (cut 10 (l0 ++ [c])).map sV ≠ [] := by
            have := cut_ne 10 (l0 ++ [c])
            simp [this]
          have g2 : Gr K H (upd (upd H D (.lst ((cut 10 (l0 ++ [c])).map sV))) D2 (.lst (cutV ((cut 10 (l0 ++ [c])).map sV) none (some (-1))))) := ((Gr.refl t0).new nD).new nD2
          refine hQ (cut 10 (l0 ++ [c])).dropLast (by rw [hR, if_pos hc]) D2 _ g2 ?_
          rw [upd_same, cut_butlast _ hne, List.map_dropLast]
        · rw [decide_eq_false hc]
          refine iteT ⟨_, rfl, ⟨_, rfl⟩, _, _, rfl, rfl, fun d nd => ?_⟩
          refine bad _ (by rw [hR, if_neg hc]) _ ?_ d nd
          rw [s_nl, count_cut]
/-! ### number_of, numbers_of -/
theorem figs : (("0123456789" : Str).cps.toList) = [48, 49, 50, 51, 52, 53, 54, 55, 56, 57] := by decide +kernel
theorem in_figs (c : Nat) : decide (c ∈ ("0123456789" : Str).cps.toList) = dig c := by
  rw [figs]
  unfold dig
  rw [Bool.eq_iff_iff]
  simp
  omega
def spNumOf (K : PySem.W.Frag) : Sp := fun vs H Q _ => ∃ (wd : List Nat), vs = [sV wd] ∧ wd.length ≤ 100000 ∧ TabOk K H ∧ ∀ H', Gr K H H' → Q (oV (numW wd)) H'
theorem scNumOf : FnScope ["word"] ["word"] (defScope sNumberOf) := ⟨rfl, rfl, rfl, by decide +kernel, rfl, by decide +kernel, by decide +kernel⟩
theorem cl_number_of (T : Fx K mg base) : Cl P w K mg base 2 "number_of" (spNumOf K) := by
  refine cl_of T.d_number_of T.g_number_of scNumOf (fun _ _ _ _ _ _ us hl => match us, hl with | [_], _ => rfl) (fun vs H Q E h => ?_) (fun A outer s H vs Q E hr h => ?_)
  · obtain ⟨wd, rfl, _⟩ := h
    rfl
  · obtain ⟨wd, rfl, hz, t0, hQ⟩ := h
    obtain ⟨tf', mf⟩ := T.s_FIGURES
    have TB := T.tabB (q := ("number_of", none)) (by simp [tf])
    refine ⟨_, pss_cons (ps_if (PW.pt (pw_or (pt_not (pt_chain op_le op_le pe_int (pe_callB call_len (by rfl) T.n_len (by decide +kernel) (pa_cons (pv 0) pa_nil)) pe_int))
        (pw_or (pt_not (pt_val (Kg.pe_allX (P := tG2 K) (k := 1) hr (by rfl) T.n_all TB rfl (genS_by (by decide +kernel)) (pv 0) (Kg.elt_in rfl rfl rfl mf) (fun _ => rfl))))
        (pw_or1 (PW.pt (pw_and (pt_cmpR op_gt (pe_callB call_len (by rfl) T.n_len (by decide +kernel) (pa_cons (pv 0) pa_nil)) pe_int (nomark _)) (pw_and1 (pt_cmpR op_eq (pe_ix ix_str (pv 0) pe_int (fun _ _ => rfl)) pe_str (nomark _))))))))) (pss_one (ps_ret pe_non)) pss_nil)
      (pss_one (ps_ret (pe_callTy call_int_str (by rfl) T.n_int (by decide +kernel) (pa_cons (pv 0) pa_nil)))), ?_⟩
    have h9 : 100000 ≤ sizeLine := by decide
    have no : numOk wd = false → ∀ H', Gr K H H' → Q .non H' := fun e H' g => by
      have := hQ H' g
      unfold numW at this
      rw [e] at this
      exact this
    refine ⟨_, rfl, _, wd.length, rfl, ⟨by rw [S_len]; omega, by rw [S_len]⟩, _, _, rfl, rfl, _, rfl, ?_⟩
    by_cases h1 : 1 ≤ wd.length
    · have e1 : decide ((1 : Int) ≤ (wd.length : Int)) = true := decide_eq_true (by omega)
      rw [e1]
      refine iteT ⟨_, _, rfl, rfl, _, rfl, ?_⟩
      by_cases h2 : wd.length ≤ 5
      · have e2 : decide ((wd.length : Int) ≤ 5) = true := decide_eq_true (by omega)
        rw [e2]
        refine iteF ⟨_, rfl, S wd, rfl, t0.a2, fun H2 hT => ⟨_, rfl, ?_⟩⟩
        have g2 : Gr K H H2 := gr_tab2 T.m t0 hT
        have e3 : (S wd).cps.toList.all (fun c => decide (c ∈ ("0123456789" : Str).cps.toList)) = wd.all dig := by
          have : (fun c => decide (c ∈ ("0123456789" : Str).cps.toList)) = dig := funext in_figs
          rw [this]
        rw [e3]
        cases hd : wd.all dig with
        | false =>
          refine iteT (no ?_ H2 g2)
          unfold numOk
          rw [hd, Bool.false_and, Bool.and_false, Bool.and_false]
        | true =>
          refine iteF ⟨_, rfl, _, wd.length, rfl, ⟨by rw [S_len]; omega, by rw [S_len]⟩, _, _, rfl, rfl, _, rfl, ?_⟩
          have good : (decide (1 < wd.length) && decide (wd.head? = some 48)) = false → Q (.int ((NumText.digitsVal wd : Nat) : Int)) H2 := fun e => by
            have h := hQ H2 g2
            have e5 : numOk wd = true := by
              unfold numOk
              rw [hd, e, decide_eq_true h1, decide_eq_true h2]
              rfl
            unfold numW at h
            rw [if_pos e5] at h
            exact h
          have ne : wd ≠ [] := fun z => by rw [z] at h1; exact absurd h1 (by decide)
          have fin : (decide (1 < wd.length) && decide (wd.head? = some 48)) = false → ∃ v, (start ["word"] [sV wd])[0]? = some (some v) ∧ ∃ a n, [v] = [V.str a] ∧ PySem.intText? a = some n ∧ a.length ≤ 640 ∧ Q (.int n) H2 := fun e => by
            refine ⟨_, rfl, S wd, _, rfl, int_S (a := wd) hd ne (by omega), by rw [S_len]; omega, good e⟩
          by_cases h3 : 1 < wd.length
          · have e4 : decide ((wd.length : Int) > 1) = true := decide_eq_true (by omega)
            rw [e4]
            obtain ⟨c, r, rfl⟩ : ∃ c r, wd = c :: r := List.exists_cons_of_ne_nil ne
            refine iteT ⟨_, rfl, S (c :: r), 0, c, rfl, rfl, by rw [S_len]; omega, atI_nat (j := 0) rfl, rfl, _, rfl, ?_⟩
            have e6 : decide (V.str ⟨#[c]⟩ = V.str ("0" : Str)) = decide (c = 48) := by
              have s0 : ("0" : Str) = S [48] := by decide +kernel
              rw [s0]
              have h := str_eq [c] [48]
              rw [Bool.eq_iff_iff, decide_eq_true_eq, decide_eq_true_eq] at h ⊢
              exact h.trans ⟨fun z => by simpa using z, fun z => by rw [z]⟩
            rw [e6]
            by_cases hc : c = 48
            · rw [decide_eq_true hc]
              refine iteT (no ?_ H2 g2)
              unfold numOk
              rw [hc, decide_eq_true (show 1 < (48 :: r).length by rw [← hc]; exact h3)]
              simp
            · rw [decide_eq_false hc]
              refine iteF (fin ?_)
              have : decide ((c :: r).head? = some 48) = false := decide_eq_false (fun z => hc (Option.some.inj z))
              rw [this, Bool.and_false]
          · have e4 : decide ((wd.length : Int) > 1) = false := decide_eq_false (by omega)
            rw [e4]
            refine iteF (iteF (fin ?_))
            rw [decide_eq_false h3, Bool.false_and]
      · have e2 : decide ((wd.length : Int) ≤ 5) = false := decide_eq_false (by omega)
        rw [e2]
        refine iteT (no ?_ H (Gr.refl t0))
        unfold numOk
        rw [decide_eq_false h2, Bool.false_and, Bool.and_false]
    · have e1 : decide ((1 : Int) ≤ (wd.length : Int)) = false := decide_eq_false (by omega)
      rw [e1]
      refine iteF ⟨_, rfl, iteT (no ?_ H (Gr.refl t0))⟩
      unfold numOk
      rw [decide_eq_false h1, Bool.false_and]
end
end Kt
set_option maxHeartbeats 4000000
/-! numbers_of, box_in, order_in. -/
namespace Kt
open PySem PySem.Spec PyProof.Rows L2 SX Km
section
variable {X : Cx} {k j : Nat} {x : Str} {sp : Sp} {p pos : Pos} {e : Expr} {es : List Expr} {t : TA} {E : L2.St → XK}
/-- the same within a try's body -/
theorem pe_clS (c : Cl X.prog X.w X.K X.mg X.base k x sp) (hr : Room j X.A) (hk : k ≤ j) (hg : Gl X x) (hx : ∀ σ, PassesAt (L2.CX X.prog X.w) X σ (E σ)) (ha : PA X (e :: es) t)
    (hdb : (x == ("__debug__" : Str)) = false := by decide) (he : starEach (e :: es) X.env = (false, eval e X.env) :: starEach es X.env := by rfl) (hpl : (backTo pos (starEach es X.env)).any (·.1) = false := by rfl) :
    PE X (.Call (.Name x p) (e :: es) [] pos) (tCallS sp E t) := by
  obtain ⟨f, fd, ps, F, hm, kp, b⟩ := c.ex
  exact pe_callS F (hr.mono hk) hg hm kp b hx ha hdb he hpl
end
section
variable {P : Program} {w : World} {K : PySem.W.Frag} {mg : Str → Option Value} {base : Heap}
def spNumsOf (K : PySem.W.Frag) : Sp := fun vs H Q _ => ∃ (D : Addr) (ws : List (List Nat)), vs = [.ref D] ∧ SqL K H D (ws.map sV) ∧ (∀ u ∈ ws, u.length ≤ 100000) ∧ ws.length ≤ 100000 ∧ TabOk K H ∧ ∀ v H', Gr K H H' → TupO K H' v (ws.map numW) → Q v H'
theorem scNums : FnScope ["words", "word"] ["words"] (defScope sNumbersOf) := ⟨rfl, rfl, rfl, by decide +kernel, rfl, by decide +kernel, by decide +kernel⟩
theorem cl_numbers_of (T : Fx K mg base) : Cl P w K mg base 3 "numbers_of" (spNumsOf K) := by
  refine cl_of T.d_numbers_of T.g_numbers_of scNums (fun _ _ _ _ _ _ us hl => match us, hl with | [_], _ => rfl) (fun vs H Q E h => ?_) (fun A outer s H vs Q E hr h => ?_)
  · obtain ⟨D, ws, rfl, _⟩ := h
    rfl
  · obtain ⟨D0, ws, rfl, hL, hz, hz2, t0, hQ⟩ := h
    refine ⟨_, pss_one (ps_ret (pe_callTy call_tuple_of (by rfl) T.n_tuple (by decide +kernel) (pa_cons (pe_lc (own := [("word", 1)]) (g := gName 1) (tt := tYes) rfl scNums.nd (pi_list (pv 0)) (blkOk_by (own := [("word", 1)]) (N := ["words", "word"]) (sc := defScope sNumbersOf) (by decide +kernel)) (fun _ _ _ _ _ => pg_name (i := 1) scNums.nd rfl (.inl rfl)) (fun _ _ _ _ _ => pts_nil)
      (fun _ _ _ _ _ => pe_cl (cl_number_of T) hr (by decide) (by rfl) quiet (pa_cons (pv 1) pa_nil))) pa_nil))), ?_⟩
    refine ⟨_, rfl, D0, rfl, ⟨_, hL⟩, fun D nD => ?_⟩
    refine lc_mapL (xs := ws.map sV) t0 nD hL (by rw [List.length_map]; exact hz2) (fun j y _ => ∃ u, ws[j]? = some u ∧ y = oV (numW u)) (fun j y _ _ h _ => h) (fun j x H2 Qe hx g hq => ?_) (fun ys H2 g hy hl2 hf => ?_)
    · rw [List.getElem?_map] at hx
      obtain ⟨u, hu, rfl⟩ := Option.map_eq_some_iff.mp hx
      exact ⟨_, rfl, u, rfl, hz u (List.mem_of_getElem? hu), g.tab, fun H3 g3 => hq _ H3 g3 ⟨u, hu, rfl⟩⟩
    · have e : ys = (ws.map numW).map oV := by
        rw [List.length_map] at hl2
        refine List.ext_getElem? fun j => ?_
        rw [List.map_map, List.getElem?_map]
        cases hj : ys[j]? with
        | none =>
          have := List.getElem?_eq_none_iff.mp hj
          rw [List.getElem?_eq_none (by omega)]
          rfl
        | some y =>
          obtain ⟨u, hu, rfl⟩ := hf j y hj
          rw [hu]
          rfl
      refine ⟨D, ys, rfl, .inl ⟨.of hy, fun l nl => hQ _ _ (g.new nl) ⟨l, rfl, .inl (.inl ?_)⟩⟩⟩
      rw [upd_same, e]
/-! ### box_in, order_in -/
theorem words_small {l : List Nat} (h : l.length ≤ 100000) : (wordsOf l).length ≤ 100001 ∧ ∀ u ∈ wordsOf l, u.length ≤ 100000 := by
  have h1 : ∀ (l : List Nat), (cut 32 l).length ≤ l.length + 1 := fun l => by
    rw [cut_count]
    have := List.length_filter_le (· == 32) l
    omega
  have h2 : ∀ (l : List Nat), ∀ u ∈ cut 32 l, u.length ≤ l.length := by
    intro l
    induction l with
    | nil =>
      intro u hu
      have e : cut 32 ([] : List Nat) = [[]] := rfl
      rw [e] at hu
      rw [List.mem_singleton.mp hu]
      exact Nat.le_refl _
    | cons x r ih =>
      intro u hu
      by_cases hx : x = 32
      · subst hx
        rw [cut_hit] at hu
        rcases List.mem_cons.mp hu with e | hu
        · rw [e]
          exact Nat.zero_le _
        · have := ih u hu
          rw [List.length_cons]
          omega
      · obtain ⟨p, ps, e⟩ := List.exists_cons_of_ne_nil (cut_ne 32 r)
        rw [cut_miss hx e] at hu
        rcases List.mem_cons.mp hu with e2 | hu
        · rw [e2, List.length_cons, List.length_cons]
          have := ih p (by rw [e]; exact List.mem_cons_self)
          omega
        · have := ih u (by rw [e]; exact List.mem_cons_of_mem _ hu)
          rw [List.length_cons]
          omega
  refine ⟨Nat.le_trans (h1 l) (by omega), fun u hu => Nat.le_trans (h2 l u hu) h⟩
/-- what a line told: the value of an Option -/
def BoxV (K : PySem.W.Frag) (H : Hp) (v : V) : Option (List Nat) → Prop
  | some ns => TupN K H v ns
  | none => v = .non
def spBoxIn (K : PySem.W.Frag) : Sp := fun vs H Q _ => ∃ (l : List Nat), vs = [sV l] ∧ l.length ≤ 90000 ∧ TabOk K H ∧ ∀ v H', Gr K H H' → BoxV K H' v (boxIn l) → Q v H'
theorem scBoxIn : FnScope ["line", "words", "found"] ["line"] (defScope sBoxIn) := ⟨rfl, rfl, rfl, by decide +kernel, rfl, by decide +kernel, by decide +kernel⟩
theorem cl_box_in (T : Fx K mg base) : Cl P w K mg base 4 "box_in" (spBoxIn K) := by
  refine cl_of T.d_box_in T.g_box_in scBoxIn (fun _ _ _ _ _ _ us hl => match us, hl with | [_], _ => rfl) (fun vs H Q E h => ?_) (fun A outer s H vs Q E hr h => ?_)
  · obtain ⟨l, rfl, _⟩ := h
    rfl
  · obtain ⟨l, rfl, hz, t0, hQ⟩ := h
    refine ⟨_, pss_cons (ps_set (i := 1) scBoxIn.nd rfl (.inl rfl) (pe_spl s_blank (by decide) (pv 0)))
      (pss_cons (ps_set (i := 2) scBoxIn.nd rfl (.inl rfl) (pe_cl (cl_numbers_of T) hr (by decide) (by rfl) quiet (pa_cons (pe_slice sl_list (pv 1) (po_some pe_int) po_none) pa_nil)))
      (pss_cons (ps_try_only rfl rfl ⟨rfl, by decide, .inl T.g_BadBox⟩ takes0 (fun W pn xe tk _ => pss_one (ps_expr (pe_clS (cl_need_box T) hr (by decide) (by rfl) (fun σ => passAt tk σ) (pa_cons (pv 2) pa_nil)))) (fun a oe cls d pn _ _ => pss_one (ps_ret pe_non)))
      (pss_one (ps_ret (pe_ifExp (pt_cmpR op_eq (pe_ix ix_list (pv 1) pe_int (fun _ _ => rfl)) pe_str (nomark _)) (pv 2) pe_non))))), ?_⟩
    obtain ⟨h, t, ew⟩ : ∃ h t, wordsOf l = h :: t := List.exists_cons_of_ne_nil (cut_ne 32 l)
    have ew' : cut 32 l = h :: t := ew
    obtain ⟨sz1, sz2⟩ := words_small (l := l) (by omega)
    rw [ew] at sz1 sz2
    rw [List.length_cons] at sz1
    have hB : boxIn l = match numsW t with
        | none => none
        | some ns => if h = wBox ∧ isBox ns = true then some ns else none := by
      unfold boxIn
      rw [ew] <;> rfl
    refine ⟨_, rfl, l, rfl, by omega, fun D nD => ?_⟩
    have g1 : Gr K H (upd H D (.lst ((cut 32 l).map sV))) := (Gr.refl t0).new nD
    have hD : (upd H D (.lst ((cut 32 l).map sV))) D = some (.lst (sV h :: t.map sV)) := by rw [upd_same, ew']; rfl
    refine ⟨_, rfl, 1, rfl, D, _, rfl, .of hD, fun D2 nD2 => ?_⟩
    have g2 := g1.new (o := .lst (cutV (sV h :: t.map sV) (some 1) none)) nD2
    refine ⟨D2, t, rfl, .of (by rw [upd_same, cut_tail]; rfl), fun u hu => sz2 u (List.mem_cons_of_mem _ hu), by omega, g2.tab, fun v H3 g3' hv => ?_⟩
    have g3 := g2.trans g3'
    have hD3 : SqL K H3 D (sV h :: t.map sV) := seqL_ext (g3'.ext) (seqL_ext (LamX.ExtN.of (same_new nD2)) (.of hD))
    refine ⟨_, rfl, v, t.map numW, rfl, hv, fun hyes H4 s4 => ?_, fun hno d y H4 s4 hd => ?_⟩
    · have g4 := g3.trans (Gr.same g3.tab s4)
      obtain ⟨ns, en, hb⟩ := box_some hyes
      have hN : numsW t = some ns := (allSome_iff _ _).mpr en
      have hv4 : TupN K H4 v ns := TupO.n (by rw [← en]; exact hv.ext (LamX.ExtN.of s4))
      have e0 : boxIn l = if h = wBox then some ns else none := by
        rw [hB, hN]
        show (if h = wBox ∧ isBox ns = true then some ns else none) = _
        by_cases hh : h = wBox
        · rw [if_pos hh, if_pos ⟨hh, hb⟩]
        · rw [if_neg hh, if_neg fun z => hh z.1]
      refine ⟨_, rfl, D, _, 0, sV h, rfl, rfl, seqL_ext (LamX.ExtN.of s4) hD3, atI_nat (j := 0) rfl, rfl, _, rfl, ?_⟩
      have e1 : decide (sV h = V.str ("box" : Str)) = decide (h = wBox) := by
        rw [s_box]
        exact str_eq h wBox
      rw [e1]
      by_cases hh : h = wBox
      · rw [decide_eq_true hh]
        exact iteT ⟨_, rfl, hQ v H4 g4 (by rw [e0, if_pos hh]; exact hv4)⟩
      · rw [decide_eq_false hh]
        exact iteF (hQ .non H4 g4 (by rw [e0, if_neg hh]; rfl))
    · have g4 := g3.trans (Gr.same g3.tab s4)
      refine ⟨true, T.box.me, fun _ a _ => hQ .non H4 g4 ?_, fun z => nomatch z⟩
      have e0 : boxIn l = none := by
        rw [hB]
        cases hN : numsW t with
        | none => rfl
        | some ns =>
          have hb : boxV (t.map numW) = isBox ns := by
            unfold boxV
            have : allSome (t.map numW) = some ns := hN
            rw [this]
          rw [hno] at hb
          exact if_neg fun z => by rw [← hb] at z; cases z.2
      rw [e0]
      rfl
/-- an order's value -/
def OrdV (K : PySem.W.Frag) (H : Hp) (v : V) : Option Ord → Prop
  | some o => ∃ a, v = .ref a ∧ SqT K H a [sV o.1, nV o.2]
  | none => v = .non
def spOrdIn (K : PySem.W.Frag) : Sp := fun vs H Q _ => ∃ (b : Addr) (bs : List V) (l : List Nat), vs = [.ref b, sV l] ∧ SqT K H b bs ∧ bs.length ≤ 10000 ∧ l.length ≤ 90000 ∧ TabOk K H ∧ ∀ v H', Gr K H H' → OrdV K H' v (ordIn bs.length l) → Q v H'
theorem scOrdIn : FnScope ["box", "line", "words", "order"] ["box", "line"] (defScope sOrderIn) := ⟨rfl, rfl, rfl, by decide +kernel, rfl, by decide +kernel, by decide +kernel⟩
theorem cl_order_in (T : Fx K mg base) : Cl P w K mg base 4 "order_in" (spOrdIn K) := by
  refine cl_of T.d_order_in T.g_order_in scOrdIn (fun _ _ _ _ _ _ us hl => match us, hl with | [_, _], _ => rfl) (fun vs H Q E h => ?_) (fun A outer s H vs Q E hr h => ?_)
  · obtain ⟨b, bs, l, rfl, _⟩ := h
    rfl
  · obtain ⟨b, bs, l, rfl, hb, hbz, hz, t0, hQ⟩ := h
    refine ⟨_, pss_cons (ps_set (i := 2) scOrdIn.nd rfl (.inl rfl) (pe_spl s_blank (by decide) (pv 1)))
      (pss_cons (ps_set (i := 3) scOrdIn.nd rfl (.inl rfl) (pe_catW (pe_ix ix_list (pv 2) pe_int (fun _ _ => rfl)) (pe_cl (cl_numbers_of T) hr (by decide) (by rfl) quiet (pa_cons (pe_slice sl_list (pv 2) (po_some pe_int) po_none) pa_nil))))
      (pss_one (ps_ret (pe_ifExp (pt_val (pe_cl (cl_is_order T) hr (by decide) (by rfl) quiet (pa_cons (pv 0) (pa_cons (pv 3) pa_nil)))) (pv 3) pe_non)))), ?_⟩
    obtain ⟨h, t, ew⟩ : ∃ h t, wordsOf l = h :: t := List.exists_cons_of_ne_nil (cut_ne 32 l)
    have ew' : cut 32 l = h :: t := ew
    obtain ⟨sz1, sz2⟩ := words_small (l := l) (by omega)
    rw [ew] at sz1 sz2
    rw [List.length_cons] at sz1
    have szt : t.length ≤ 90001 := by
      have h1 := cut_count 32 l
      have h2 := List.length_filter_le (· == 32) l
      rw [ew', List.length_cons] at h1
      omega
    have hB : ordIn bs.length l = if ordV bs.length h (t.map numW) = true then (match t.map numW with
        | [some n] => some (h, n)
        | _ => none) else none := by
      unfold ordIn numsW
      rw [ew]
      show (match allSome (t.map numW) with
        | some [n] => if isOrd bs.length (h, n) = true then some (h, n) else none
        | _ => none) = _
      generalize t.map numW = os
      unfold ordV
      cases os with
      | nil => rfl
      | cons o r =>
        cases r with
        | nil =>
          cases o with
          | none => rfl
          | some n => rfl
        | cons o2 r2 =>
          refine Eq.trans (b := none) ?_ (by cases o <;> rfl)
          cases e : allSome (o :: o2 :: r2) with
          | none => rfl
          | some ns =>
            have := (allSome_iff _ _).mp e
            match ns, this with
            | [], z => cases z
            | [x], z => cases z
            | x :: y :: q, z => rfl
    refine ⟨_, rfl, l, rfl, by omega, fun D nD => ?_⟩
    have g1 : Gr K H (upd H D (.lst ((cut 32 l).map sV))) := (Gr.refl t0).new nD
    have hD : (upd H D (.lst ((cut 32 l).map sV))) D = some (.lst (sV h :: t.map sV)) := by rw [upd_same, ew']; rfl
    refine ⟨_, rfl, D, _, 0, sV h, rfl, rfl, .of hD, atI_nat (j := 0) rfl, fun q nq => ?_⟩
    have g1b := g1.new (o := .tup [sV h]) nq
    have hDb : SqL K (upd (upd H D (.lst ((cut 32 l).map sV))) q (.tup [sV h])) D (sV h :: t.map sV) := seqL_ext (LamX.ExtN.of (same_new nq)) (.of hD)
    refine ⟨_, rfl, 1, rfl, D, _, rfl, hDb, fun D2 nD2 => ?_⟩
    have g2 := g1b.new (o := .lst (cutV (sV h :: t.map sV) (some 1) none)) nD2
    refine ⟨D2, t, rfl, .of (by rw [upd_same, cut_tail]; rfl), fun u hu => sz2 u (List.mem_cons_of_mem _ hu), by omega, g2.tab, fun v H3 g3' hv => ?_⟩
    have g3 := g2.trans g3'
    obtain ⟨a, rfl, ha⟩ := hv
    have hq3 : H3 q = some (.tup [sV h]) := g3'.ext _ _ (by rw [upd_ne (ne_of_none upd_same nD2), upd_same]) (fun _ z => nomatch z)
    refine ⟨a, _, rfl, ha, by rw [List.length_map, List.length_map]; omega, hq3, fun p H4 s4 hp => ?_⟩
    have g4 := g3.trans (Gr.same g3.tab s4)
    refine ⟨_, rfl, _, rfl, b, bs, p, h, t.map numW, rfl, seqT_ext g4.ext hb, hp, hbz, _, rfl, ?_⟩
    cases ho : ordV bs.length h (t.map numW) with
    | false => exact iteF (hQ .non H4 g4 (by rw [hB, ho]; rfl))
    | true =>
      refine iteT ⟨_, rfl, hQ _ H4 g4 ?_⟩
      rw [hB, ho, if_pos rfl]
      unfold ordV at ho
      split at ho
      · rename_i n e
        rw [e] at hp
        first
          | exact ⟨p, rfl, hp⟩
          | (rw [e]; exact ⟨p, rfl, hp⟩)
      · cases ho
end
end Kt
set_option maxHeartbeats 4000000
/-! read_box, read_loss, read_orders. -/
namespace Kt
open PySem PySem.Spec PyProof.Rows L2 SX Km
theorem cut_small (c : Nat) : ∀ (l : List Nat), ∀ u ∈ cut c l, u.length ≤ l.length := by
  intro l
  induction l with
  | nil =>
    intro u hu
    have e : cut c ([] : List Nat) = [[]] := rfl
    rw [e] at hu
    rw [List.mem_singleton.mp hu]
    exact Nat.le_refl _
  | cons x r ih =>
    intro u hu
    by_cases hx : x = c
    · subst hx
      rw [cut_hit] at hu
      rcases List.mem_cons.mp hu with e | hu
      · rw [e]
        exact Nat.zero_le _
      · have := ih u hu
        rw [List.length_cons]
        omega
    · obtain ⟨p, ps, e⟩ := List.exists_cons_of_ne_nil (cut_ne c r)
      rw [cut_miss hx e] at hu
      rcases List.mem_cons.mp hu with e2 | hu
      · rw [e2, List.length_cons, List.length_cons]
        have := ih p (by rw [e]; exact List.mem_cons_self)
        omega
      · have := ih u (by rw [e]; exact List.mem_cons_of_mem _ hu)
        rw [List.length_cons]
        omega
theorem lines_small {tx : Option (List Nat)} {ls : List (List Nat)} (hz : ∀ l, tx = some l → l.length ≤ 90000) (h : linesR tx = .ok ls) : ls.length ≤ 90000 ∧ ∀ u ∈ ls, u.length ≤ 90000 := by
  cases tx with
  | none => cases h
  | some l =>
    have hl := hz l rfl
    unfold linesR at h
    dsimp only at h
    split at h
    · cases h
    · split at h
      · injection h with h
        subst h
        have h1 := cut_count 10 l
        have h2 := List.length_filter_le (· == 10) l
        refine ⟨by rw [List.length_dropLast]; omega, fun u hu => ?_⟩
        have := cut_small 10 l u (List.dropLast_subset _ hu)
        omega
      · cases h
section
variable {P : Program} {w : World} {K : PySem.W.Frag} {mg : Str → Option Value} {base : Heap}
theorem BadAt.go {H H1 : Hp} {E : XK} {i : Nat} (h : BadAt K H E i) (g : Gr K H H1) : BadAt K H1 E i := fun d H' g' hd => h d H' (g.trans g') hd
def spReadBox (K : PySem.W.Frag) : Sp := fun vs H Q E => ∃ (v : V) (tx : Option (List Nat)), vs = [v] ∧ TxOk v tx ∧ (∀ l, tx = some l → l.length ≤ 90000) ∧ TabOk K H ∧
  (∀ ns, readBoxR tx = .ok ns → ∀ v' H', Gr K H H' → TupN K H' v' ns → Q v' H') ∧ (∀ i, readBoxR tx = .error i → BadAt K H E i)
theorem scReadBox : FnScope ["text", "lines", "found"] ["text"] (defScope sReadBox) := ⟨rfl, rfl, rfl, by decide +kernel, rfl, by decide +kernel, by decide +kernel⟩
theorem cl_read_box (T : Fx K mg base) : Cl P w K mg base 5 "read_box" (spReadBox K) := by
  refine cl_of T.d_read_box T.g_read_box scReadBox (fun _ _ _ _ _ _ us hl => match us, hl with | [_], _ => rfl) (fun vs H Q E h => ?_) (fun A outer s H vs Q E hr h => ?_)
  · obtain ⟨v, tx, rfl, _⟩ := h
    rfl
  · obtain ⟨v, tx, rfl, hv, hz, t0, hQ, hE⟩ := h
    refine ⟨_, pss_cons (ps_set (i := 1) scReadBox.nd rfl (.inl rfl) (pe_cl (cl_lines_of T) hr (by decide) (by rfl) (passes_call (takes_of rfl rfl rfl rfl) (fun _ _ _ _ h => h)) (pa_cons (pv 0) pa_nil)))
      (pss_cons (ps_set (i := 2) scReadBox.nd rfl (.inl rfl) (pe_cl (cl_box_in T) hr (by decide) (by rfl) quiet (pa_cons (pe_ix ix_list (pv 1) pe_int (fun _ _ => rfl)) pa_nil)))
      (pss_cons (ps_if (PW.pt (pw_or (pt_cmpR op_isN (pv 2) pe_non (nomark _)) (pw_or1 (pt_cmpR op_gt (pe_callB call_len (by rfl) T.n_len (by decide +kernel) (pa_cons (pv 1) pa_nil)) pe_int (nomark _)))))
        (pss_one (ps_raise rfl (takes_of rfl rfl rfl rfl) (raise_line T (hr.mono (by decide)) (by rfl) (pe_ifExp (pt_cmpR op_isN (pv 2) pe_non (nomark _)) pe_int pe_int) rfl))) pss_nil)
      (pss_one (ps_ret (pv 2))))), ?_⟩
    refine ⟨_, rfl, v, tx, rfl, hv, fun l e => Nat.le_trans (hz l e) (by decide), t0, fun ls hls D H1 g1 hD => ?_, fun i hi => hE i (by unfold readBoxR; rw [hi])⟩
    obtain ⟨l, r, rfl⟩ : ∃ l r, ls = l :: r := List.exists_cons_of_ne_nil (lines_ne hls)
    have hR : readBoxR tx = match boxIn l with
        | none => .error 0
        | some ns => if r = [] then .ok ns else .error 1 := by
      unfold readBoxR
      rw [hls] <;> rfl
    obtain ⟨z1, z2⟩ := lines_small hz hls
    refine ⟨_, rfl, D, _, 0, sV l, rfl, rfl, .of hD, atI_nat (j := 0) rfl, l, rfl, z2 l List.mem_cons_self, g1.tab, fun v' H2 g2' hb => ?_⟩
    have g2 := g1.trans g2'
    have hD2 : H2 D = some (.lst ((l :: r).map sV)) := g2'.ext _ _ hD (fun _ z => nomatch z)
    have fin : ∀ i, readBoxR tx = .error i → ∀ d, H2 d = none → E (.ref (cLine K)) (some d) (upd H2 d (.xd [("line", nV i)])) := fun i hi d nd => hE i hi d _ (g2.new nd) upd_same
    cases e : boxIn l with
    | none =>
      rw [e] at hR hb
      obtain rfl : v' = .non := hb
      exact ⟨_, rfl, rfl, _, rfl, iteT ⟨_, rfl, rfl, _, rfl, iteT fun d nd => fin 0 hR d nd⟩⟩
    | some ns =>
      rw [e] at hR hb
      obtain ⟨a, rfl, ha⟩ := (show TupN K H2 v' ns from hb)
      refine ⟨_, rfl, rfl, _, rfl, iteF ⟨_, rfl, _, _, rfl, .inl ⟨_, .of hD2, rfl⟩, _, _, rfl, rfl, _, rfl, ?_⟩⟩
      have e1 : decide ((((l :: r).map sV).length : Int) > 1) = !decide (r = []) := by
        cases r with
        | nil => rfl
        | cons x y =>
          have : decide ((((l :: x :: y).map sV).length : Int) > 1) = true := decide_eq_true (by simp; omega)
          rw [this]
          simp
      rw [e1]
      by_cases hr0 : r = []
      · have hR : readBoxR tx = .ok ns := by
          rw [hR]
          exact if_pos hr0
        rw [decide_eq_true hr0]
        exact iteF ⟨_, rfl, hQ ns hR _ H2 g2 ⟨a, rfl, ha⟩⟩
      · have hR : readBoxR tx = .error 1 := by
          rw [hR]
          exact if_neg hr0
        rw [decide_eq_false hr0]
        exact iteT ⟨_, rfl, rfl, _, rfl, iteF fun d nd => fin 1 hR d nd⟩
/-! ### read_loss -/
def spReadLoss (K : PySem.W.Frag) : Sp := fun vs H Q E => ∃ (b : Addr) (bs : List Nat) (v : V) (tx : Option (List Nat)), vs = [.ref b, v] ∧ SqT K H b (bs.map nV) ∧ isBox bs = true ∧ TxOk v tx ∧ (∀ l, tx = some l → l.length ≤ 90000) ∧ TabOk K H ∧
  (∀ ns, readLossR bs.length tx = .ok ns → ∀ v' H', Gr K H H' → TupN K H' v' ns → Q v' H') ∧ (∀ i, readLossR bs.length tx = .error i → BadAt K H E i)
theorem scReadLoss : FnScope ["box", "text", "lines", "words", "found", "is_fine"] ["box", "text"] (defScope sReadLoss) := ⟨rfl, rfl, rfl, by decide +kernel, rfl, by decide +kernel, by decide +kernel⟩
theorem cl_read_loss (T : Fx K mg base) : Cl P w K mg base 5 "read_loss" (spReadLoss K) := by
  refine cl_of T.d_read_loss T.g_read_loss scReadLoss (fun _ _ _ _ _ _ us hl => match us, hl with | [_, _], _ => rfl) (fun vs H Q E h => ?_) (fun A outer s H vs Q E hr h => ?_)
  · obtain ⟨b, bs, v, tx, rfl, _⟩ := h
    rfl
  · obtain ⟨b, bs, v, tx, rfl, hB, hb, hv, hz, t0, hQ, hE⟩ := h
    refine ⟨_, pss_cons (ps_expr (pe_cl (cl_need_box T) hr (by decide) (by rfl) quiet (pa_cons (pv 0) pa_nil)))
      (pss_cons (ps_set (i := 2) scReadLoss.nd rfl (.inl rfl) (pe_cl (cl_lines_of T) hr (by decide) (by rfl) (passes_call (takes_of rfl rfl rfl rfl) (fun _ _ _ _ h => h)) (pa_cons (pv 1) pa_nil)))
      (pss_cons (ps_set (i := 3) scReadLoss.nd rfl (.inl rfl) (pe_spl s_blank (by decide) (pe_ix ix_list (pv 2) pe_int (fun _ _ => rfl))))
      (pss_cons (ps_set (i := 4) scReadLoss.nd rfl (.inl rfl) (pe_cl (cl_numbers_of T) hr (by decide) (by rfl) quiet (pa_cons (pe_slice sl_list (pv 3) (po_some pe_int) po_none) pa_nil)))
      (pss_cons (ps_set (i := 5) scReadLoss.nd rfl (.inl rfl) (pe_and (pe_cmpR op_eq (pe_ix ix_list (pv 3) pe_int (fun _ _ => rfl)) pe_str (nomark _)) (pe_one (pe_cl (cl_is_loss T) hr (by decide) (by rfl) quiet (pa_cons (pv 0) (pa_cons (pv 4) pa_nil))))))
      (pss_cons (ps_if (PW.pt (pw_or (pt_not (pt_val (pv 5))) (pw_or1 (pt_cmpR op_gt (pe_callB call_len (by rfl) T.n_len (by decide +kernel) (pa_cons (pv 2) pa_nil)) pe_int (nomark _)))))
        (pss_one (ps_raise rfl (takes_of rfl rfl rfl rfl) (raise_line T (hr.mono (by decide)) (by rfl) (pe_ifExp (pt_val (pv 5)) pe_int pe_int) rfl))) pss_nil)
      (pss_one (ps_ret (pv 4)))))))), ?_⟩
    refine ⟨_, rfl, .ref b, bs.map some, rfl, TupN.o ⟨b, rfl, hB⟩, fun _ H0 s0 => ?_, fun hn => by rw [boxV_map, hb] at hn; cases hn⟩
    have g0 : Gr K H H0 := Gr.same t0 s0
    refine ⟨_, rfl, v, tx, rfl, hv, fun l e => Nat.le_trans (hz l e) (by decide), g0.tab, fun ls hls D H1 g1' hD => ?_, fun i hi => (hE i (by unfold readLossR; rw [hi])).go g0⟩
    have g1 := g0.trans g1'
    obtain ⟨l, r, rfl⟩ : ∃ l r, ls = l :: r := List.exists_cons_of_ne_nil (lines_ne hls)
    have hR : readLossR bs.length tx = match lossIn bs.length l with
        | none => .error 0
        | some ns => if r = [] then .ok ns else .error 1 := by
      unfold readLossR
      rw [hls] <;> rfl
    obtain ⟨z1, z2⟩ := lines_small hz hls
    have zl := z2 l List.mem_cons_self
    obtain ⟨h, t, ew⟩ : ∃ h t, wordsOf l = h :: t := List.exists_cons_of_ne_nil (cut_ne 32 l)
    have ew' : cut 32 l = h :: t := ew
    obtain ⟨sz1, sz2⟩ := words_small (l := l) (by omega)
    rw [ew] at sz1 sz2
    rw [List.length_cons] at sz1
    have szt : t.length ≤ 90001 := by
      have h1 := cut_count 32 l
      have h2 := List.length_filter_le (· == 32) l
      rw [ew', List.length_cons] at h1
      omega
    have hlb : (bs.map nV).length = bs.length := List.length_map _
    have hB2 : lossIn bs.length l = if h = wLost ∧ lossV bs.length (t.map numW) = true then allSome (t.map numW) else none := by
      unfold lossIn
      rw [ew]
      show (match allSome (t.map numW) with
        | none => none
        | some ns => if h = wLost ∧ isLoss bs.length ns = true then some ns else none) = _
      unfold lossV
      cases allSome (t.map numW) with
      | none =>
        show none = if h = wLost ∧ false = true then _ else _
        rw [if_neg fun z => nomatch z.2]
      | some ns => rfl
    refine ⟨_, rfl, D, _, 0, sV l, rfl, rfl, .of hD, atI_nat (j := 0) rfl, l, rfl, by omega, fun D1 nD1 => ?_⟩
    have g2 := g1.new (o := .lst ((cut 32 l).map sV)) nD1
    have hD1 : (upd H1 D1 (.lst ((cut 32 l).map sV))) D1 = some (.lst (sV h :: t.map sV)) := by rw [upd_same, ew']; rfl
    refine ⟨_, rfl, 1, rfl, D1, _, rfl, .of hD1, fun D2 nD2 => ?_⟩
    have g3 := g2.new (o := .lst (cutV (sV h :: t.map sV) (some 1) none)) nD2
    refine ⟨D2, t, rfl, .of (by rw [upd_same, cut_tail]; rfl), fun u hu => sz2 u (List.mem_cons_of_mem _ hu), by omega, g3.tab, fun v' H4 g4' hv' => ?_⟩
    have g4 := g3.trans g4'
    have hD4 : H4 D1 = some (.lst (sV h :: t.map sV)) := g4'.ext _ _ (by rw [upd_ne (ne_of_none hD1 nD2)]; exact hD1) (fun _ z => nomatch z)
    have hL4 : H4 D = some (.lst ((l :: r).map sV)) := by
      refine g4'.ext _ _ ?_ (fun _ z => nomatch z)
      have n1 : D ≠ D1 := ne_of_none hD nD1
      rw [upd_ne (ne_of_none (by rw [upd_ne n1]; exact hD) nD2), upd_ne n1]
      exact hD
    have fin : ∀ (H5 : Hp), Gr K H4 H5 → ∀ i, readLossR bs.length tx = .error i → ∀ d, H5 d = none → E (.ref (cLine K)) (some d) (upd H5 d (.xd [("line", nV i)])) := fun H5 g5 i hi d nd => hE i hi d _ ((g4.trans g5).new nd) upd_same
    refine ⟨_, rfl, D1, _, 0, sV h, rfl, rfl, .of hD4, atI_nat (j := 0) rfl, rfl, _, rfl, ?_⟩
    have e1 : decide (sV h = V.str ("lost" : Str)) = decide (h = wLost) := by
      rw [s_lost]
      exact str_eq h wLost
    rw [e1]
    by_cases hh : h = wLost
    · rw [decide_eq_true hh]
      refine iteT ⟨_, rfl, _, rfl, b, bs.map nV, v', t.map numW, rfl, seqT_ext g4.ext hB, hv', g4.tab, fun H5 g5 => ?_⟩
      rw [hlb]
      cases hf : lossV bs.length (t.map numW) with
      | false =>
        have hR0 : readLossR bs.length tx = .error 0 := by
          rw [hR, hB2, hf, if_neg fun z => nomatch z.2]
        exact ⟨_, rfl, _, rfl, iteT ⟨_, rfl, _, rfl, iteF fun d nd => fin H5 g5 0 hR0 d nd⟩⟩
      | true =>
        obtain ⟨ns, en, hl⟩ := loss_some hf
        have hA : allSome (t.map numW) = some ns := (allSome_iff _ _).mpr en
        have hv5 : TupN K H5 v' ns := TupO.n (by rw [← en]; exact hv'.ext g5.ext)
        have hL5 : H5 D = some (.lst ((l :: r).map sV)) := g5.ext _ _ hL4 (fun _ z => nomatch z)
        refine ⟨_, rfl, _, rfl, iteF ⟨_, rfl, _, _, rfl, .inl ⟨_, .of hL5, rfl⟩, _, _, rfl, rfl, _, rfl, ?_⟩⟩
        have e2 : decide ((((l :: r).map sV).length : Int) > 1) = !decide (r = []) := by
          cases r with
          | nil => rfl
          | cons x y =>
            have : decide ((((l :: x :: y).map sV).length : Int) > 1) = true := decide_eq_true (by simp; omega)
            rw [this]
            simp
        rw [e2]
        by_cases hr0 : r = []
        · have hR1 : readLossR bs.length tx = .ok ns := by
            rw [hR, hB2, hf, if_pos ⟨hh, rfl⟩, hA]
            exact if_pos hr0
          rw [decide_eq_true hr0]
          exact iteF ⟨_, rfl, hQ ns hR1 _ H5 (g4.trans g5) hv5⟩
        · have hR1 : readLossR bs.length tx = .error 1 := by
            rw [hR, hB2, hf, if_pos ⟨hh, rfl⟩, hA]
            exact if_neg hr0
          rw [decide_eq_false hr0]
          exact iteT ⟨_, rfl, _, rfl, iteT fun d nd => fin H5 g5 1 hR1 d nd⟩
    · rw [decide_eq_false hh]
      have hR0 : readLossR bs.length tx = .error 0 := by
        rw [hR, hB2, if_neg fun z => hh z.1]
      exact iteF ⟨_, rfl, _, rfl, iteT ⟨_, rfl, _, rfl, iteF fun d nd => fin H4 (Gr.refl g4.tab) 0 hR0 d nd⟩⟩
end
end Kt
set_option maxHeartbeats 4000000
/-! read_orders. -/
namespace Kt
open PySem PySem.Spec PyProof.Rows L2 SX Km
theorem seqT_extL {K : PySem.W.Frag} {H H' : Hp} {a : Addr} {xs : List V} (e : ExtL H H') (h : SqT K H a xs) : SqT K H' a xs := by
  rcases h with (h | ⟨o, h⟩) | h
  · exact .inl (.inl (e _ _ h (fun _ z => nomatch z) (fun _ z => nomatch z)))
  · exact .inl (.inr ⟨o, e _ _ h (fun _ z => nomatch z) (fun _ z => nomatch z)⟩)
  · exact .inr h
section
variable {P : Program} {w : World} {K : PySem.W.Frag} {mg : Str → Option Value} {base : Heap}
theorem OrdsAt.extL {H H' : Hp} {os : List Ord} {vs : List V} (e : ExtL H H') (h : OrdsAt K H os vs) : OrdsAt K H' os vs := by
  obtain ⟨as, h1, h2, h3⟩ := h
  exact ⟨as, h1, h2, fun i a o ha ho => seqT_extL e (h3 i a o ha ho)⟩
theorem OrdsAt.snoc {H : Hp} {os : List Ord} {vs : List V} {o : Ord} {a : Addr} (h : OrdsAt K H os vs) (ha : SqT K H a [sV o.1, nV o.2]) : OrdsAt K H (os ++ [o]) (vs ++ [.ref a]) := by
  obtain ⟨as, h1, h2, h3⟩ := h
  refine ⟨as ++ [a], by rw [h1, List.map_append]; rfl, by rw [List.length_append, List.length_append, h2]; rfl, fun i c q hc hq => ?_⟩
  rw [List.getElem?_append] at hc hq
  rw [h2] at hc
  split at hc
  · rename_i hi
    rw [if_pos hi] at hq
    exact h3 i c q hc hq
  · rename_i hi
    rw [if_neg hi] at hq
    have hl := (List.getElem?_eq_some_iff.mp hc).1
    simp at hl
    rw [hl] at hc hq
    cases hc
    cases hq
    exact ha
theorem OrdsAt.nil {H : Hp} : OrdsAt K H [] [] := ⟨[], rfl, rfl, fun i a o ha _ => by simp at ha⟩
/-- what read_orders gives -/
def ReadV (K : PySem.W.Frag) (H : Hp) (v : V) (r : List Nat × List Ord) : Prop := ∃ (p b q : Addr) (xs : List V), v = .ref p ∧ SqT K H p [.ref b, .ref q] ∧ SqT K H b (r.1.map nV) ∧ SqT K H q xs ∧ OrdsAt K H r.2 xs
theorem ReadV.ext {H H' : Hp} {v : V} {r : List Nat × List Ord} (e : LamX.ExtN H H') (h : ReadV K H v r) : ReadV K H' v r := by
  obtain ⟨p, b, q, xs, h1, h2, h3, h4, h5⟩ := h
  exact ⟨p, b, q, xs, h1, seqT_ext e h2, seqT_ext e h3, seqT_ext e h4, h5.ext e⟩
def spReadOrds (K : PySem.W.Frag) : Sp := fun vs H Q E => ∃ (v : V) (tx : Option (List Nat)), vs = [v] ∧ TxOk v tx ∧ (∀ l, tx = some l → l.length ≤ 90000) ∧ TabOk K H ∧
  (∀ r, readOrdersR tx = .ok r → ∀ v' H', Gr K H H' → ReadV K H' v' r → Q v' H') ∧ (∀ i, readOrdersR tx = .error i → BadAt K H E i)
abbrev nmRO : List Str := ["text", "lines", "box", "found", "at", "order"]
theorem scReadO : FnScope nmRO ["text"] (defScope sReadOrders) := ⟨rfl, rfl, rfl, by decide +kernel, rfl, by decide +kernel, by decide +kernel⟩
theorem cl_read_orders (T : Fx K mg base) : Cl P w K mg base 5 "read_orders" (spReadOrds K) := by
  refine cl_of T.d_read_orders T.g_read_orders scReadO (fun _ _ _ _ _ _ us hl => match us, hl with | [_], _ => rfl) (fun vs H Q E h => ?_) (fun A outer s H vs Q E hr h => ?_)
  · obtain ⟨v, tx, rfl, _⟩ := h
    rfl
  · obtain ⟨v, tx, rfl, hv, hz, t0, hQ, hE⟩ := h
    obtain ⟨tl, ml⟩ := T.i_MOST_ORDERS
    refine ⟨_, pss_cons (ps_set (i := 1) scReadO.nd rfl (.inl rfl) (pe_cl (cl_lines_of T) hr (by decide) (by rfl) (passes_call (takes_of rfl rfl rfl rfl) (fun _ _ _ _ h => h)) (pa_cons (pv 0) pa_nil)))
      (pss_cons (ps_par (i := 2) (j := 3) rfl scReadO.nd rfl rfl (by decide) rfl rfl (pa_cons (pe_cl (cl_box_in T) hr (by decide) (by rfl) quiet (pa_cons (pe_ix ix_list (pv 1) pe_int (fun _ _ => rfl)) pa_nil)) (pa_cons (pe_lst pa_nil) pa_nil)) (by rfl))
      (pss_cons (ps_if (pt_cmpR op_isN (pv 2) pe_non (nomark _)) (pss_one (ps_raise rfl (takes_of rfl rfl rfl rfl) (raise_line T (hr.mono (by decide)) (by rfl) pe_int rfl))) pss_nil)
      (pss_cons (ps_for (passes_of rfl) rfl (pi_range2 (by rfl) T.n_range (pa_cons pe_int (pa_cons (pe_callB call_len (by rfl) T.n_len (by decide +kernel) (pa_cons (pv 1) pa_nil)) pa_nil))) (pg_name (i := 4) scReadO.nd rfl (.inl rfl))
        (pss_cons (ps_set (i := 5) scReadO.nd rfl (.inl rfl) (pe_cl (cl_order_in T) hr (by decide) (by rfl) quiet (pa_cons (pv 2) (pa_cons (pe_ix ix_list (pv 1) (pv 4) (fun _ _ => rfl)) pa_nil))))
        (pss_cons (ps_if (PW.pt (pw_or (pt_cmpR op_isN (pv 5) pe_non (nomark _)) (pw_or1 (pt_cmpR op_gt (pv 4) (pe_glob (v := .int 200) (by rfl) ml ⟨_, rfl⟩) (nomark _)))))
          (pss_one (ps_raise rfl (takes_of rfl rfl rfl rfl) (raise_line T (hr.mono (by decide)) (by rfl) (pv 4) rfl))) pss_nil)
        (pss_one (ps_expr (pe_bm PySem.F.plainAttrs_list PySem.F.slot_list_append PySem.F.type_list_append mt_append (pv 3) (pa_cons (pv 5) pa_nil)))))))
      (pss_one (ps_ret (pe_tup (pa_cons (pv 2) (pa_cons (pe_callTy call_tuple_of (by rfl) T.n_tuple (by decide +kernel) (pa_cons (pv 3) pa_nil)) pa_nil)))))))), ?_⟩
    refine ⟨_, rfl, v, tx, rfl, hv, fun l e => Nat.le_trans (hz l e) (by decide), t0, fun ls hls D H1 g1 hD => ?_, fun i hi => hE i (by unfold readOrdersR; rw [hi])⟩
    obtain ⟨l, r, rfl⟩ : ∃ l r, ls = l :: r := List.exists_cons_of_ne_nil (lines_ne hls)
    have hR : readOrdersR tx = match boxIn l with
        | none => .error 0
        | some ns => match ordsR ns.length 1 r with
          | .error i => .error i
          | .ok os => .ok (ns, os) := by
      unfold readOrdersR
      rw [hls] <;> rfl
    obtain ⟨z1, z2⟩ := lines_small hz hls
    refine ⟨_, rfl, D, _, 0, sV l, rfl, rfl, .of hD, atI_nat (j := 0) rfl, l, rfl, z2 l List.mem_cons_self, g1.tab, fun v' H2 g2' hb => ?_⟩
    have g2 := g1.trans g2'
    have hD2 : H2 D = some (.lst ((l :: r).map sV)) := g2'.ext _ _ hD (fun _ z => nomatch z)
    refine ⟨Nat.zero_le _, fun F nF => ⟨_, _, rfl, ?_⟩⟩
    have nDF : D ≠ F := ne_of_none hD2 nF
    have fin : ∀ H5, Gr K H2 H5 → ∀ i, readOrdersR tx = .error i → ∀ d, H5 d = none → E (.ref (cLine K)) (some d) (upd H5 d (.xd [("line", nV i)])) := fun H5 g5 i hi d nd => hE i hi d _ ((g2.trans g5).new nd) upd_same
    have g3 : Gr K H2 (upd H2 F (.lst [])) := (Gr.refl g2.tab).new nF
    cases e : boxIn l with
    | none =>
      rw [e] at hR hb
      obtain rfl : v' = .non := hb
      exact ⟨_, rfl, rfl, _, rfl, iteT fun d nd => fin _ g3 0 hR d nd⟩
    | some ns =>
      rw [e] at hR hb
      obtain ⟨b, rfl, hB⟩ := (show TupN K H2 v' ns from hb)
      have hns : isBox ns = true := by
        unfold boxIn at e
        split at e
        · cases e
        · split at e
          · cases e
          · rename_i ns' _
            split at e
            · rename_i hc
              cases e
              exact hc.2
            · cases e
      have hnl := isBox_len hns
      have hlb : (ns.map nV).length = ns.length := List.length_map _
      refine ⟨_, rfl, rfl, _, rfl, iteF ?_⟩
      refine ⟨_, rfl, _, _, rfl, .inl ⟨_, .of (by rw [upd_ne nDF]; exact hD2), rfl⟩, 1, _, rfl, ⟨by decide, by decide, by simp; omega, by simp at z1 ⊢; omega⟩, ?_⟩
      have en : ((((l :: r).map sV).length : Int) - 1).toNat = r.length := by simp
      rw [en]
      refine for_range (fun i σ H3 => ∃ y4 y5 os vs, σ = [some v, some (.ref D), some (.ref b), some (.ref F), y4, y5] ∧ Gr K H2 H3 ∧ H3 F = some (.lst vs) ∧ OrdsAt K H3 os vs ∧ os.length = i ∧ ordsR ns.length 1 r = ahead os (ordsR ns.length (1 + i) (r.drop i)))
        ⟨none, none, [], [], rfl, g3, upd_same, OrdsAt.nil, rfl, by rw [List.drop_zero]; cases ordsR ns.length 1 r <;> rfl⟩ (fun i σ H3 hi hP => ?_) (fun σ H3 hP => ?_)
      · obtain ⟨y4, y5, os, vs, rfl, gg, hF, hO, hl, hA⟩ := hP
        have hD3 : H3 D = some (.lst ((l :: r).map sV)) := gg.ext _ _ hD2 (fun _ z => nomatch z)
        have hri : r[i]? = some r[i] := List.getElem?_eq_getElem hi
        have hdr : r.drop i = r[i] :: r.drop (i + 1) := List.drop_eq_getElem_cons hi
        refine ⟨_, rfl, _, rfl, _, rfl, D, _, _, sV r[i], rfl, rfl, .of hD3, ?_, b, ns.map nV, r[i], rfl, seqT_ext gg.ext hB, by omega, z2 _ (List.mem_cons_of_mem _ (List.getElem_mem hi)), gg.tab, fun vo H4 g4' ho => ?_⟩
        · have e1 : (1 : Int) + (i : Int) = ((i + 1 : Nat) : Int) := by omega
          rw [e1]
          refine atI_nat ?_
          show (r.map sV)[i]? = _
          rw [List.getElem?_map, hri]
          rfl
        · have g4 := gg.trans g4'
          have hF4 : H4 F = some (.lst vs) := g4'.ext _ _ hF (fun _ z => nomatch z)
          have hO4 := hO.ext g4'.ext
          rw [hlb] at ho
          have bad : ordIn ns.length r[i] = none ∨ 200 < 1 + i → ∀ d, H4 d = none → E (.ref (cLine K)) (some d) (upd H4 d (.xd [("line", .int (1 + (i : Int)))])) := fun hb d nd => by
            have h1 : readOrdersR tx = .error (1 + i) := by
              rw [hR]
              show (match ordsR ns.length 1 r with
                | .error i => Except.error i
                | .ok os => .ok (ns, os)) = _
              rw [hA, hdr, ords_bad hb]
              rfl
            have h2 := fin H4 g4 (1 + i) h1 d nd
            have e2 : nV (1 + i) = V.int (1 + (i : Int)) := by
              show V.int ((1 + i : Nat) : Int) = _
              congr 1
            rw [e2] at h2
            exact h2
          cases eo : ordIn ns.length r[i] with
          | none =>
            rw [eo] at ho
            obtain rfl : vo = .non := ho
            exact ⟨_, rfl, rfl, _, rfl, iteT ⟨_, rfl, fun d nd => bad (.inl eo) d nd⟩⟩
          | some o =>
            rw [eo] at ho
            obtain ⟨a, rfl, ha⟩ := (show ∃ a, vo = .ref a ∧ SqT K H4 a [sV o.1, nV o.2] from ho)
            refine ⟨_, rfl, rfl, _, rfl, iteF ⟨_, rfl, _, _, rfl, rfl, _, rfl, ?_⟩⟩
            by_cases h2 : 200 < 1 + i
            · have e1 : decide ((1 : Int) + (i : Int) > 200) = true := decide_eq_true (by omega)
              rw [e1]
              exact iteT ⟨_, rfl, fun d nd => bad (.inr h2) d nd⟩
            · have e1 : decide ((1 : Int) + (i : Int) > 200) = false := decide_eq_false (by omega)
              rw [e1]
              have hvl := hO4.len
              have hzz : 90001 ≤ sizeLine := by decide
              refine iteF ⟨_, rfl, .inl ⟨rfl, _, .of hF4⟩, _, rfl, F, vs, _, rfl, rfl, hF4, ?_, ?_⟩
              · rw [List.length_cons] at z1
                omega
              · refine ⟨_, _, os ++ [o], vs ++ [.ref a], rfl, gr_push nF ⟨_, hF4⟩ g4, upd_same, ((hO4.extL (ExtL.upd hF4)).snoc (seqT_extL (ExtL.upd hF4) ha)), by rw [List.length_append, hl]; rfl, ?_⟩
                rw [hA, hdr, ords_good eo h2, ahead_ahead]
                rfl
      · obtain ⟨y4, y5, os, vs, rfl, gg, hF, hO, hl, hA⟩ := hP
        have h1 : readOrdersR tx = .ok (ns, os) := by
          rw [hR]
          show (match ordsR ns.length 1 r with
            | .error i => Except.error i
            | .ok os => .ok (ns, os)) = _
          rw [hA, List.drop_eq_nil_of_le (Nat.le_refl _)]
          show Except.ok (ns, os ++ []) = _
          rw [List.append_nil]
        refine ⟨_, rfl, _, rfl, F, vs, rfl, .inl ⟨.of hF, fun q nq => ⟨by show 2 ≤ sizeLine; decide, fun p np => ?_⟩⟩⟩
        have s5 : Same H3 (upd (upd H3 q (.tup vs)) p (.tup [.ref b, .ref q])) := (same_new nq).trans (same_new np)
        have g5 := gg.trans (Gr.same gg.tab s5)
        refine hQ _ h1 _ _ (g2.trans g5) ⟨p, b, q, vs, rfl, .inl (.inl upd_same), seqT_ext g5.ext hB, .inl (.inl ?_), hO.ext (LamX.ExtN.of s5)⟩
        rw [upd_ne (ne_of_none upd_same np), upd_same]
end
end Kt
set_option maxHeartbeats 4000000
/-! _law_taken, _law_pick. -/
namespace Kt
open PySem PySem.Spec PyProof.Rows L2 SX Km
/-- the row from which the law draws -/
def RowAt (K : PySem.W.Frag) (ns : List Int) (a : Addr) (H : Hp) (r : Addr) : Prop := ∃ (i y z : Int), H r = some (.lst [.ref a, .int i, .int y, .int z]) ∧ SqL K H a (ns.map V.int) ∧ a ≠ r ∧ 0 ≤ i ∧ 0 ≤ y ∧ y < 2147483647
/-- all but the row at r stands exactly -/
def Row1 (r : Addr) (H H' : Hp) : Prop := ∀ b, b ≠ r → H' b = H b
theorem Row1.refl {r : Addr} {H : Hp} : Row1 r H H := fun _ _ => rfl
theorem Row1.trans {r : Addr} {H H1 H2 : Hp} (a : Row1 r H H1) (b : Row1 r H1 H2) : Row1 r H H2 := fun c h => (b c h).trans (a c h)
theorem Row1.upd {r : Addr} {H : Hp} {o : HO} : Row1 r H (upd H r o) := fun b h => upd_ne h
theorem seqL_row {K : PySem.W.Frag} {H H' : Hp} {a r : Addr} {xs : List V} (e : Row1 r H H') (n : a ≠ r) (h : SqL K H a xs) : SqL K H' a xs := by
  rcases h with (h | ⟨o, h⟩) | h
  · exact .inl (.inl (by rw [e a n]; exact h))
  · exact .inl (.inr ⟨o, by rw [e a n]; exact h⟩)
  · exact .inr h
theorem mod_nat (z : Int) {m : Nat} (h : 0 < m) : ∃ k : Nat, k < m ∧ z % (m : Int) = (k : Int) := by
  have h1 : 0 ≤ z % (m : Int) := Int.emod_nonneg z (by omega)
  have h2 : z % (m : Int) < (m : Int) := Int.emod_lt_of_pos z (by omega)
  exact ⟨(z % (m : Int)).toNat, by omega, by omega⟩
section
variable {P : Program} {w : World} {K : PySem.W.Frag} {mg : Str → Option Value} {base : Heap}
def spTaken (K : PySem.W.Frag) (ns : List Int) (sc : Addr) : Sp := fun vs H Q _ => ∃ (r : Addr) (m : Nat), vs = [.ref r, nV m] ∧ RowAt K ns sc H r ∧ 0 < m ∧ m < 1073741824 ∧ ∀ k H', k < m → Row1 r H H' → RowAt K ns sc H' r → Q (nV k) H'
abbrev nmTaken : List Str := ["_law_row", "_law_many", "_law_found", "_law_cell"]
theorem scTaken : FnScope nmTaken ["_law_row", "_law_many"] (defScope sTaken) := ⟨rfl, rfl, rfl, by decide +kernel, rfl, by decide +kernel, by decide +kernel⟩
theorem cl_taken (T : Fx K mg base) (ns : List Int) (sc : Addr) : Cl P w K mg base 1 "_law_taken" (spTaken K ns sc) := by
  refine cl_of T.d_law_taken T.g_law_taken scTaken (fun _ _ _ _ _ _ us hl => match us, hl with | [_, _], _ => rfl) (fun vs H Q E h => ?_) (fun A outer s H vs Q E hr h => ?_)
  · obtain ⟨r, m, rfl, _⟩ := h
    rfl
  · obtain ⟨r, m, rfl, ⟨i, y, z, hr0, hS, har, hi, hy0, hy1⟩, hm, hm2, hQ⟩ := h
    refine ⟨_, pss_cons (ps_if (pt_cmpR op_gt (pe_ix ix_list (pv 0) pe_int (fun _ _ => rfl)) pe_int (nomark _))
        (pss_cons (ps_set (i := 2) scTaken.nd rfl (.inl rfl) (pe_op op_mod (pe_callTy call_int1 (by rfl) T.n_int (by decide +kernel) (pa_cons (pe_ix ix_list (pv 0) pe_int (fun _ _ => rfl)) pa_nil)) (pv 1)))
        (pss_cons (ps_asg (pe_op op_fdiv (pe_ix ix_list (pv 0) pe_int (fun _ _ => rfl)) (pv 1)) (pg_sub (pv 0) pe_int set_list))
        (pss_one (ps_ret (pv 2))))) pss_nil)
      (pss_cons (ps_asg (pe_op op_add (pe_ix ix_list (pv 0) pe_int (fun _ _ => rfl)) pe_int) (pg_sub (pv 0) pe_int set_list))
      (pss_cons (ps_if (pt_cmpR op_gt (pe_ix ix_list (pv 0) pe_int (fun _ _ => rfl)) (pe_callB call_len (by rfl) T.n_len (by decide +kernel) (pa_cons (pe_ix ix_list (pv 0) pe_int (fun _ _ => rfl)) pa_nil)) (nomark _))
        (pss_cons (ps_asg (pe_op op_mod (pe_callTy call_int1 (by rfl) T.n_int (by decide +kernel) (pa_cons (pe_op op_add (pe_op op_mul (pe_ix ix_list (pv 0) pe_int (fun _ _ => rfl)) pe_int) pe_int) pa_nil)) pe_int) (pg_sub (pv 0) pe_int set_list))
        (pss_one (ps_ret (pe_op op_mod (pe_callTy call_int1 (by rfl) T.n_int (by decide +kernel) (pa_cons (pe_op op_fdiv (pe_ix ix_list (pv 0) pe_int (fun _ _ => rfl)) pe_int) pa_nil)) (pv 1))))) pss_nil)
      (pss_cons (ps_set (i := 3) scTaken.nd rfl (.inl rfl) (pe_ix ix_list (pe_ix ix_list (pv 0) pe_int (fun _ _ => rfl)) (pe_op op_sub (pe_ix ix_list (pv 0) pe_int (fun _ _ => rfl)) pe_int) (fun _ _ => rfl)))
      (pss_cons (ps_asg (pe_op op_mod (pe_callTy call_int1 (by rfl) T.n_int (by decide +kernel) (pa_cons (pe_op op_add (pe_op op_add (pe_op op_mul (pe_ix ix_list (pv 0) pe_int (fun _ _ => rfl)) pe_int) (pv 3)) pe_int) pa_nil)) pe_int) (pg_sub (pv 0) pe_int set_list))
      (pss_cons (ps_if (pt_cmpR op_ge (pv 3) (pe_op op_pow pe_int pe_int) (nomark _)) (pss_one (ps_asg (pe_op op_fdiv (pv 3) (pv 1)) (pg_sub (pv 0) pe_int set_list))) pss_nil)
      (pss_one (ps_ret (pe_op op_mod (pe_callTy call_int1 (by rfl) T.n_int (by decide +kernel) (pa_cons (pv 3) pa_nil)) (pv 1))))))))), ?_⟩
    have hm0 : (0 : Int) < (m : Int) := by omega
    have hm1 : (m : Int) < 1073741824 := by omega
    have row : ∀ (H' : Hp) (i' y' z' : Int), Row1 r H H' → H' r = some (.lst [.ref sc, .int i', .int y', .int z']) → 0 ≤ i' → 0 ≤ y' → y' < 2147483647 → RowAt K ns sc H' r := fun H' i' y' z' e1 e2 h1 h2 h3 => ⟨i', y', z', e2, seqL_row e1 har hS, har, h1, h2, h3⟩
    refine ⟨_, rfl, r, _, 3, .int z, rfl, rfl, .of hr0, rfl, _, _, rfl, rfl, _, rfl, ?_⟩
    by_cases hz : z > 0
    · rw [decide_eq_true hz]
      refine iteT ⟨_, rfl, r, _, 3, .int z, rfl, rfl, .of hr0, rfl, .inl ⟨_, rfl, _, rfl, _, _, rfl, rfl, hm0, ?_⟩⟩
      refine ⟨_, rfl, r, _, 3, .int z, rfl, rfl, .of hr0, rfl, _, rfl, _, _, rfl, rfl, ⟨hm0, hm1⟩, ?_⟩
      refine ⟨_, rfl, r, _, 3, 3, rfl, rfl, hr0, rfl, ?_⟩
      obtain ⟨k, hk, ek⟩ := mod_nat z hm
      refine ⟨_, rfl, ?_⟩
      have h : Q (.int (k : Int)) (upd H r (.lst [.ref sc, .int i, .int y, .int (z / (m : Int))])) := hQ k _ hk Row1.upd (row _ i y _ Row1.upd upd_same hi hy0 hy1)
      rw [← ek] at h
      exact h
    · rw [decide_eq_false hz]
      refine iteF ?_
      refine ⟨_, rfl, r, _, 1, .int i, rfl, rfl, .of hr0, rfl, _, _, rfl, rfl, ?_⟩
      refine ⟨_, rfl, r, _, 1, 1, rfl, rfl, hr0, rfl, ?_⟩
      have e1 : Row1 r H (upd H r (.lst [.ref sc, .int (i + 1), .int y, .int z])) := Row1.upd
      have h1 : (upd H r (.lst [.ref sc, .int (i + 1), .int y, .int z])) r = some (.lst [.ref sc, .int (i + 1), .int y, .int z]) := upd_same
      have hS1 : SqL K (upd H r (.lst [.ref sc, .int (i + 1), .int y, .int z])) sc (ns.map V.int) := seqL_row e1 har hS
      refine ⟨_, rfl, r, _, 1, .int (i + 1), rfl, rfl, .of h1, rfl, _, rfl, r, _, 0, .ref sc, rfl, rfl, .of h1, rfl, _, _, rfl, .inl ⟨_, hS1, rfl⟩, _, _, rfl, rfl, _, rfl, ?_⟩
      by_cases hl : i + 1 > ((ns.map V.int).length : Int)
      · rw [decide_eq_true hl]
        refine iteT ⟨_, rfl, r, _, 2, .int y, rfl, rfl, .of h1, rfl, _, _, rfl, rfl, .inl ⟨by omega, by omega⟩, _, _, rfl, rfl, .inl ⟨_, rfl, _, _, rfl, rfl, (by show (0 : Int) < 2147483647; decide), ?_⟩⟩
        refine ⟨_, rfl, r, _, 2, 2, rfl, rfl, h1, rfl, ?_⟩
        have y0 : 0 ≤ (y * 48271 + 11) % 2147483647 := Int.emod_nonneg _ (by decide)
        have y1 : (y * 48271 + 11) % 2147483647 < 2147483647 := Int.emod_lt_of_pos _ (by decide)
        have e2 : Row1 r H (upd (upd H r (.lst [.ref sc, .int (i + 1), .int y, .int z])) r (.lst [.ref sc, .int (i + 1), .int ((y * 48271 + 11) % 2147483647), .int z])) := e1.trans Row1.upd
        have h2 : (upd (upd H r (.lst [.ref sc, .int (i + 1), .int y, .int z])) r (.lst [.ref sc, .int (i + 1), .int ((y * 48271 + 11) % 2147483647), .int z])) r = some (.lst [.ref sc, .int (i + 1), .int ((y * 48271 + 11) % 2147483647), .int z]) := upd_same
        refine ⟨_, rfl, r, _, 2, .int ((y * 48271 + 11) % 2147483647), rfl, rfl, .of h2, rfl, _, _, rfl, rfl, ⟨by decide, by decide⟩, .inl ⟨_, rfl, _, rfl, _, _, rfl, rfl, hm0, ?_⟩⟩
        obtain ⟨k, hk, ek⟩ := mod_nat ((y * 48271 + 11) % 2147483647 / 7) hm
        have h := hQ k _ hk e2 (row _ _ _ _ e2 h2 (by omega) y0 y1)
        have h : Q (.int (k : Int)) (upd (upd H r (.lst [.ref sc, .int (i + 1), .int y, .int z])) r (.lst [.ref sc, .int (i + 1), .int ((y * 48271 + 11) % 2147483647), .int z])) := h
        rw [← ek] at h
        exact h
      · rw [decide_eq_false hl]
        refine iteF ?_
        have hil : i.toNat < ns.length := by
          rw [List.length_map] at hl
          omega
        have hcell : ns[i.toNat]? = some ns[i.toNat] := List.getElem?_eq_getElem hil
        have hat : atI (ns.map V.int) (i + 1 - 1) = some (.int ns[i.toNat]) := by
          have e3 : i + 1 - 1 = ((i.toNat : Nat) : Int) := by omega
          rw [e3]
          refine atI_nat ?_
          rw [List.getElem?_map, hcell]
          rfl
        generalize ns[i.toNat] = c at hat
        refine ⟨_, rfl, r, _, 0, .ref sc, rfl, rfl, .of h1, rfl, _, rfl, r, _, 1, .int (i + 1), rfl, rfl, .of h1, rfl, _, _, rfl, rfl, sc, _, _, _, rfl, rfl, hS1, hat, ?_⟩
        refine ⟨_, rfl, r, _, 2, .int y, rfl, rfl, .of h1, rfl, _, _, rfl, rfl, .inl ⟨by omega, by omega⟩, _, rfl, _, _, rfl, rfl, _, _, rfl, rfl, .inl ⟨_, rfl, _, _, rfl, rfl, (by show (0 : Int) < 2147483647; decide), ?_⟩⟩
        refine ⟨_, rfl, r, _, 2, 2, rfl, rfl, h1, rfl, ?_⟩
        have y0 : 0 ≤ (y * 48271 + c + 11) % 2147483647 := Int.emod_nonneg _ (by decide)
        have y1 : (y * 48271 + c + 11) % 2147483647 < 2147483647 := Int.emod_lt_of_pos _ (by decide)
        have e2 : Row1 r H (upd (upd H r (.lst [.ref sc, .int (i + 1), .int y, .int z])) r (.lst [.ref sc, .int (i + 1), .int ((y * 48271 + c + 11) % 2147483647), .int z])) := e1.trans Row1.upd
        have h2 : (upd (upd H r (.lst [.ref sc, .int (i + 1), .int y, .int z])) r (.lst [.ref sc, .int (i + 1), .int ((y * 48271 + c + 11) % 2147483647), .int z])) r = some (.lst [.ref sc, .int (i + 1), .int ((y * 48271 + c + 11) % 2147483647), .int z]) := upd_same
        obtain ⟨k, hk, ek⟩ := mod_nat c hm
        refine ⟨_, rfl, 10, 18, rfl, rfl, ⟨by decide, by decide, by decide⟩, c, _, rfl, rfl, _, rfl, ?_⟩
        by_cases hc : c ≥ 10 ^ (18 : Int).toNat
        · rw [decide_eq_true hc]
          refine iteT ⟨_, rfl, _, rfl, _, _, rfl, rfl, ⟨hm0, hm1⟩, ?_⟩
          refine ⟨_, rfl, r, _, 3, 3, rfl, rfl, h2, rfl, ?_⟩
          refine ⟨_, rfl, .inl ⟨_, rfl, _, rfl, _, _, rfl, rfl, hm0, ?_⟩⟩
          have h : Q (.int (k : Int)) (upd (upd (upd H r (.lst [.ref sc, .int (i + 1), .int y, .int z])) r (.lst [.ref sc, .int (i + 1), .int ((y * 48271 + c + 11) % 2147483647), .int z])) r (.lst [.ref sc, .int (i + 1), .int ((y * 48271 + c + 11) % 2147483647), .int (c / (m : Int))])) :=
            hQ k _ hk (e2.trans Row1.upd) (row _ _ _ _ (e2.trans Row1.upd) upd_same (by omega) y0 y1)
          rw [← ek] at h
          exact h
        · rw [decide_eq_false hc]
          refine iteF ⟨_, rfl, .inl ⟨_, rfl, _, rfl, _, _, rfl, rfl, hm0, ?_⟩⟩
          have h : Q (.int (k : Int)) (upd (upd H r (.lst [.ref sc, .int (i + 1), .int y, .int z])) r (.lst [.ref sc, .int (i + 1), .int ((y * 48271 + c + 11) % 2147483647), .int z])) := hQ k _ hk e2 (row _ _ _ _ e2 h2 (by omega) y0 y1)
          rw [← ek] at h
          exact h
/-! ### _law_pick -/
def spPick (K : PySem.W.Frag) (ns : List Int) (sc : Addr) : Sp := fun vs H Q _ => ∃ (r D : Addr) (xs : List V), vs = [.ref r, .ref D] ∧ RowAt K ns sc H r ∧ SqL K H D xs ∧ D ≠ r ∧ 0 < xs.length ∧ xs.length < 1073741824 ∧ ∀ (k : Nat) (v : V) (H' : Hp), xs[k]? = some v → Row1 r H H' → RowAt K ns sc H' r → Q v H'
theorem scPick : FnScope ["_law_row", "_law_things"] ["_law_row", "_law_things"] (defScope sPick) := ⟨rfl, rfl, rfl, by decide +kernel, rfl, by decide +kernel, by decide +kernel⟩
theorem cl_pick (T : Fx K mg base) (ns : List Int) (sc : Addr) : Cl P w K mg base 2 "_law_pick" (spPick K ns sc) := by
  refine cl_of T.d_law_pick T.g_law_pick scPick (fun _ _ _ _ _ _ us hl => match us, hl with | [_, _], _ => rfl) (fun vs H Q E h => ?_) (fun A outer s H vs Q E hr h => ?_)
  · obtain ⟨r, D, xs, rfl, _⟩ := h
    rfl
  · obtain ⟨r, D, xs, rfl, hr0, hD, hn, h0, h1, hQ⟩ := h
    refine ⟨_, pss_one (ps_ret (pe_ix ix_list (pv 1) (pe_cl (cl_taken T ns sc) hr (by decide) (by rfl) quiet (pa_cons (pv 0) (pa_cons (pe_callB call_len (by rfl) T.n_len (by decide +kernel) (pa_cons (pv 1) pa_nil)) pa_nil))) (fun _ _ => rfl))), ?_⟩
    refine ⟨_, rfl, _, rfl, _, rfl, _, xs.length, rfl, .inl ⟨_, hD, rfl⟩, r, xs.length, rfl, hr0, h0, h1, fun k H' hk e hr1 => ?_⟩
    have hx : xs[k]? = some xs[k] := List.getElem?_eq_getElem hk
    exact ⟨D, xs, _, _, rfl, rfl, seqL_row e hn hD, atI_nat hx, hQ k _ H' hx e hr1⟩
end
end Kt
set_option maxHeartbeats 4000000
/-! What grows while the row is drawn from; _law_box. -/
namespace Kt
open PySem PySem.Spec PyProof.Rows L2 SX Km
section
variable {P : Program} {w : World} {K : PySem.W.Frag} {mg : Str → Option Value} {base : Heap} {ns : List Int} {sc r : Addr}
theorem RowAt.lst {H : Hp} (h : RowAt K ns sc H r) : ∃ l, H r = some (.lst l) := by
  obtain ⟨i, y, z, h, _⟩ := h
  exact ⟨_, h⟩
/-- all but the row and the tables stays; both are well -/
structure GrR (K : PySem.W.Frag) (ns : List Int) (sc r : Addr) (H H' : Hp) : Prop where
  ext : ∀ b o, b ≠ r → H b = some o → (∀ ps, o ≠ .tbl ps) → H' b = some o
  tab : TabOk K H'
  row : RowAt K ns sc H' r
theorem GrR.refl {H : Hp} (t : TabOk K H) (h : RowAt K ns sc H r) : GrR K ns sc r H H := ⟨fun _ _ _ h _ => h, t, h⟩
theorem GrR.trans {H H1 H2 : Hp} (a : GrR K ns sc r H H1) (b : GrR K ns sc r H1 H2) : GrR K ns sc r H H2 := ⟨fun c o n h m => b.ext c o n (a.ext c o n h m) m, b.tab, b.row⟩
theorem RowAt.ext {H H' : Hp} (e : LamX.ExtN H H') (h : RowAt K ns sc H r) : RowAt K ns sc H' r := by
  obtain ⟨i, y, z, h, hs, n, h1, h2, h3⟩ := h
  exact ⟨i, y, z, e _ _ h (fun _ z => nomatch z), seqL_ext e hs, n, h1, h2, h3⟩
theorem GrR.of {H H' : Hp} (g : Gr K H H') (h : RowAt K ns sc H r) : GrR K ns sc r H H' := ⟨fun b o _ e n => g.ext b o e n, g.tab, h.ext g.ext⟩
theorem tab_row {H H' : Hp} (t : TabOk K H) (h : RowAt K ns sc H r) (e : Row1 r H H') : TabOk K H' := by
  obtain ⟨l, hl⟩ := h.lst
  have nt : ∀ {b : Addr} {ps : Array Value}, H b = some (.tbl ps) → b ≠ r := fun {b ps} e z => by
    rw [z, hl] at e
    cases e
  have tg : ∀ {Q : Addr}, GxR.TabG H Q → GxR.TabG H' Q := fun {Q} ⟨ps, a, b⟩ => ⟨ps, by rw [e Q (nt a)]; exact a, b⟩
  have ts : ∀ {Q : Addr} {q : Str}, LamX.TabS H Q q → LamX.TabS H' Q q := fun {Q q} ⟨ps, a, b, c⟩ => ⟨ps, by rw [e Q (nt a)]; exact a, b, fun pos cv hc => by
    obtain ⟨c0, e1, e2⟩ := c pos cv hc
    refine ⟨c0, e1, ?_⟩
    have : c0 ≠ r := fun z => by
      rw [z, hl] at e2
      unfold LamX.CodeO at e2
      cases e2
    rw [e c0 this]
    exact e2⟩
  exact ⟨tg t.a1, tg t.a2, ts t.a3, ts t.a4⟩
theorem GrR.drawn {H H' : Hp} (t : TabOk K H) (h : RowAt K ns sc H r) (e : Row1 r H H') (h' : RowAt K ns sc H' r) : GrR K ns sc r H H' := ⟨fun b o n q _ => by rw [e b n]; exact q, tab_row t h e, h'⟩
theorem GrR.new {H H1 : Hp} {p : Addr} {o : HO} (g : GrR K ns sc r H H1) (h : H1 p = none) : GrR K ns sc r H (upd H1 p o) := g.trans (GrR.of (Gr.same g.tab (same_new h)) g.row)
theorem GrR.extL {H H' : Hp} (g : GrR K ns sc r H H') (h : RowAt K ns sc H r) : ExtL H H' := fun b o e n m => by
  obtain ⟨l, hl⟩ := h.lst
  refine g.ext b o (fun z => ?_) e n
  rw [z, hl] at e
  exact m l (Option.some.inj e).symm
theorem GrR.seqL {H H' : Hp} {D : Addr} {xs : List V} (g : GrR K ns sc r H H') (n : D ≠ r) (h : SqL K H D xs) : SqL K H' D xs := by
  rcases h with (h | ⟨o, h⟩) | h
  · exact .inl (.inl (g.ext _ _ n h (fun _ z => nomatch z)))
  · exact .inl (.inr ⟨o, g.ext _ _ n h (fun _ z => nomatch z)⟩)
  · exact .inr h
theorem GrR.lst {H H' : Hp} {D : Addr} {xs : List V} (g : GrR K ns sc r H H') (n : D ≠ r) (h : H D = some (.lst xs)) : H' D = some (.lst xs) := g.ext _ _ n h (fun _ z => nomatch z)
theorem TupN.extL {H H' : Hp} {v : V} {os : List Nat} (e : ExtL H H') (h : TupN K H v os) : TupN K H' v os := by
  obtain ⟨a, e1, h⟩ := h
  rcases h with (h | ⟨o, h⟩) | h
  · exact ⟨a, e1, .inl (.inl (e _ _ h (fun _ z => nomatch z) (fun _ z => nomatch z)))⟩
  · exact ⟨a, e1, .inl (.inr ⟨o, e _ _ h (fun _ z => nomatch z) (fun _ z => nomatch z)⟩)⟩
  · exact ⟨a, e1, .inr h⟩
/-- the list at D, new since H1, changes -/
theorem GrR.push {H1 H4 : Hp} {D : Addr} {l : List V} (h1 : RowAt K ns sc H1 r) (nD : H1 D = none) (h4 : ∃ l0, H4 D = some (.lst l0)) (g : GrR K ns sc r H1 H4) : GrR K ns sc r H1 (upd H4 D (.lst l)) := by
  obtain ⟨l0, h4⟩ := h4
  have hDr : r ≠ D := by
    obtain ⟨l1, hl1⟩ := h1.lst
    exact ne_of_none hl1 nD
  have nt : ∀ {b : Addr} {ps : Array Value}, H4 b = some (.tbl ps) → b ≠ D := fun {b ps} e z => by
    rw [z, h4] at e
    cases e
  have tg : ∀ {Q : Addr}, GxR.TabG H4 Q → GxR.TabG (upd H4 D (.lst l)) Q := fun {Q} ⟨ps, a, b⟩ => ⟨ps, by rw [upd_ne (nt a)]; exact a, b⟩
  have ts : ∀ {Q : Addr} {q : Str}, LamX.TabS H4 Q q → LamX.TabS (upd H4 D (.lst l)) Q q := fun {Q q} ⟨ps, a, b, c⟩ => ⟨ps, by rw [upd_ne (nt a)]; exact a, b, fun pos cv hc => by
    obtain ⟨c0, e1, e2⟩ := c pos cv hc
    refine ⟨c0, e1, ?_⟩
    have : c0 ≠ D := fun z => by
      rw [z, h4] at e2
      unfold LamX.CodeO at e2
      cases e2
    rw [upd_ne this]
    exact e2⟩
  have ex : ∀ b o, b ≠ r → H1 b = some o → (∀ ps, o ≠ .tbl ps) → (upd H4 D (.lst l)) b = some o := fun b o n e m => by
    rw [upd_ne (ne_of_none e nD)]
    exact g.ext b o n e m
  refine ⟨ex, ⟨tg g.tab.a1, tg g.tab.a2, ts g.tab.a3, ts g.tab.a4⟩, ?_⟩
  obtain ⟨i, y, z, a1, a2, a3, a4, a5, a6⟩ := g.row
  obtain ⟨_, _, _, _, b2, b3, _⟩ := h1
  refine ⟨i, y, z, by rw [upd_ne hDr]; exact a1, ?_, b3, a4, a5, a6⟩
  rcases b2 with (h | ⟨o, h⟩) | h
  · exact .inl (.inl (ex _ _ b3 h (fun _ z => nomatch z)))
  · exact .inl (.inr ⟨o, ex _ _ b3 h (fun _ z => nomatch z)⟩)
  · exact .inr h
/-- an int between 1 and m, as a natural -/
theorem nat_of {z : Int} {m : Nat} (h1 : 1 ≤ z) (h2 : z ≤ (m : Int)) : ∃ k : Nat, z = (k : Int) ∧ 1 ≤ k ∧ k ≤ m := ⟨z.toNat, by omega, by omega, by omega⟩
/-- a sorted permutation of naturals is one of naturals -/
theorem nat_perm {fs : List Nat} {zs : List Int} (h : zs.Perm (fs.map fun n : Nat => (n : Int))) (h2 : zs.Pairwise (· ≤ ·)) : ∃ gs : List Nat, zs = gs.map (fun n : Nat => (n : Int)) ∧ gs.Perm fs ∧ gs.Pairwise (· ≤ ·) := by
  have hz : ∀ z ∈ zs, ((z.toNat : Nat) : Int) = z := fun z hm => by
    obtain ⟨n, _, rfl⟩ := List.mem_map.mp (h.mem_iff.mp hm)
    simp
  have e : zs = (zs.map Int.toNat).map (fun n : Nat => (n : Int)) := by
    rw [List.map_map]
    conv => lhs; rw [← List.map_id zs]
    exact (List.map_congr_left fun z hm => (hz z hm)).symm
  refine ⟨zs.map Int.toNat, e, ?_, ?_⟩
  · have h3 := h.map Int.toNat
    rw [List.map_map] at h3
    have e2 : (Int.toNat ∘ fun n : Nat => (n : Int)) = id := by
      funext n
      simp
    rw [e2, List.map_id] at h3
    exact h3
  · rw [List.pairwise_map]
    exact h2.imp fun hab => Int.toNat_le_toNat hab
end
end Kt
set_option maxHeartbeats 4000000
/-! _law_box. -/
namespace Kt
open PySem PySem.Spec PyProof.Rows L2 SX Km
theorem cutV_map {α : Type} (f : α → V) (l : List α) (lo hi : Option Int) : ∃ l' : List α, cutV (l.map f) lo hi = l'.map f := by
  unfold cutV
  rw [← List.map_drop, ← List.map_take]
  exact ⟨_, rfl⟩
section
variable {P : Program} {w : World} {K : PySem.W.Frag} {mg : Str → Option Value} {base : Heap}
def spLBox (K : PySem.W.Frag) (ns : List Int) (sc : Addr) : Sp := fun vs H Q _ => ∃ (r : Addr) (top : Nat), vs = [.ref r, nV 10, nV top] ∧ RowAt K ns sc H r ∧ 1 ≤ top ∧ top ≤ 1000 ∧ TabOk K H ∧ ∀ (bs : List Nat) (v : V) (H' : Hp), isBox bs = true → GrR K ns sc r H H' → TupN K H' v bs → Q v H'
abbrev nmLBox : List Str := ["_law_row", "_law_most", "_law_top", "_law_many", "_law_found", "_law_kind", "_law_place", "_law_back"]
theorem scLBox : FnScope nmLBox ["_law_row", "_law_most", "_law_top"] (defScope sLBox) := ⟨rfl, rfl, rfl, by decide +kernel, rfl, by decide +kernel, by decide +kernel⟩
theorem cl_law_box (T : Fx K mg base) (ns : List Int) (sc : Addr) : Cl P w K mg base 2 "_law_box" (spLBox K ns sc) := by
  refine cl_of T.d_law_box T.g_law_box scLBox (fun _ _ _ _ _ _ us hl => match us, hl with | [_, _, _], _ => rfl) (fun vs H Q E h => ?_) (fun A outer s H vs Q E hr h => ?_)
  · obtain ⟨r, top, rfl, _⟩ := h
    rfl
  · obtain ⟨r, top, rfl, hrow, htop, htop2, t0, hQ⟩ := h
    have ct := cl_taken (P := P) (w := w) T ns sc
    refine ⟨_, pss_cons (ps_par (i := 3) (j := 4) rfl scLBox.nd rfl rfl (by decide) rfl rfl (pa_cons (pe_op op_add pe_int (pe_cl ct hr (by decide) (by rfl) quiet (pa_cons (pv 0) (pa_cons (pv 1) pa_nil)))) (pa_cons (pe_lst pa_nil) pa_nil)) (by rfl))
      (pss_cons (ps_set (i := 5) scLBox.nd rfl (.inl rfl) (pe_cl ct hr (by decide) (by rfl) quiet (pa_cons (pv 0) (pa_cons pe_int pa_nil))))
      (pss_cons (ps_for (passes_of rfl) rfl (pi_range1 (by rfl) T.n_range (pa_cons (pv 3) pa_nil)) (pg_name (i := 6) scLBox.nd rfl (.inl rfl))
        (pss_one (ps_if (pt_cmpR op_eq (pv 5) pe_int (nomark _))
          (pss_one (ps_expr (pe_bm PySem.F.plainAttrs_list PySem.F.slot_list_append PySem.F.type_list_append mt_append (pv 4) (pa_cons (pe_op op_add pe_int (pe_cl ct hr (by decide) (by rfl) quiet (pa_cons (pv 0) (pa_cons (pv 2) pa_nil)))) pa_nil))))
          (pss_cons (ps_set (i := 7) scLBox.nd rfl (.inl rfl) (pe_cl ct hr (by decide) (by rfl) quiet (pa_cons (pv 0) (pa_cons (pv 5) pa_nil))))
          (pss_one (ps_expr (pe_bm PySem.F.plainAttrs_list PySem.F.slot_list_append PySem.F.type_list_append mt_append (pv 4) (pa_cons
            (pe_callB (call_max2 rfl) (by rfl) T.n_max (by decide +kernel) (pa_cons pe_int (pa_cons (pe_callB (call_min2 rfl) (by rfl) T.n_min (by decide +kernel) (pa_cons (pv 2) (pa_cons (pe_op op_add
              (pe_callB (cr_sum rfl) (by rfl) T.n_sum (by decide +kernel) (pa_cons (pe_slice sl_list (pv 4) po_none (po_some (pe_callB (call_max2 rfl) (by rfl) T.n_max (by decide +kernel) (pa_cons pe_int (pa_cons (pe_op op_sub (pv 6) (pv 7)) pa_nil))))) pa_nil))
              (pe_cl ct hr (by decide) (by rfl) quiet (pa_cons (pv 0) (pa_cons pe_int pa_nil)))) pa_nil))) pa_nil))) pa_nil))))))))
      (pss_one (ps_ret (pe_callTy call_tuple_of (by rfl) T.n_tuple (by decide +kernel) (pa_cons (pe_callB cr_sorted (by rfl) T.n_sorted (by decide +kernel) (pa_cons (pv 4) pa_nil)) pa_nil)))))), ?_⟩
    refine ⟨_, rfl, _, rfl, r, 10, rfl, hrow, by decide, by decide, fun k1 H1 hk1 e1 row1 => ⟨_, _, rfl, rfl, Nat.zero_le _, fun F nF => ⟨_, _, rfl, ?_⟩⟩⟩
    have g1 : GrR K ns sc r H H1 := GrR.drawn t0 hrow e1 row1
    have hFr : F ≠ r := by
      obtain ⟨l, hl⟩ := row1.lst
      exact (ne_of_none hl nF).symm
    have g2 : GrR K ns sc r H1 (upd H1 F (.lst [])) := (GrR.refl g1.tab row1).new nF
    refine ⟨_, rfl, r, 4, rfl, g2.row, by decide, by decide, fun k2 H3 hk2 e3 row3 => ?_⟩
    have g3 : GrR K ns sc r H1 H3 := g2.trans (GrR.drawn g2.tab g2.row e3 row3)
    have hF3 : H3 F = some (.lst []) := by rw [e3 F hFr]; exact upd_same
    refine ⟨_, rfl, _, rfl, by omega, by omega, ?_⟩
    have en : ((1 : Int) + (k1 : Int)).toNat = k1 + 1 := by omega
    rw [en]
    refine for_range (fun i σ H4 => ∃ y6 y7 fs, σ = [some (.ref r), some (nV 10), some (nV top), some (.int (1 + (k1 : Int))), some (.ref F), some (nV k2), y6, y7] ∧ GrR K ns sc r H1 H4 ∧ H4 F = some (.lst (fs.map nV)) ∧ fs.length = i ∧ ∀ n ∈ fs, 1 ≤ n ∧ n ≤ top)
      ⟨none, none, [], rfl, g3, hF3, rfl, fun n hn => by simp at hn⟩ (fun i σ H4 hi hP => ?_) (fun σ H4 hP => ?_)
    · obtain ⟨y6, y7, fs, rfl, g4, hF4, hl, hfs⟩ := hP
      have hz9 : 100 ≤ sizeLine := by decide
      have app : ∀ (H5 : Hp) (z : Int) (y7' : Option V), GrR K ns sc r H1 H5 → H5 F = some (.lst (fs.map nV)) → 1 ≤ z → z ≤ (top : Int) →
          ∃ (y6 y7 : Option V) (fs' : List Nat), [some (V.ref r), some (nV 10), some (nV top), some (.int (1 + (k1 : Int))), some (.ref F), some (nV k2), some (.int (0 + (i : Int))), y7'] = [some (.ref r), some (nV 10), some (nV top), some (.int (1 + (k1 : Int))), some (.ref F), some (nV k2), y6, y7] ∧
            GrR K ns sc r H1 (upd H5 F (.lst (fs.map nV ++ [.int z]))) ∧ (upd H5 F (.lst (fs.map nV ++ [.int z]))) F = some (.lst (fs'.map nV)) ∧ fs'.length = i + 1 ∧ ∀ n ∈ fs', 1 ≤ n ∧ n ≤ top := fun H5 z y7' g5 hF5 h1 h2 => by
        obtain ⟨n, rfl, h3, h4⟩ := nat_of h1 h2
        refine ⟨_, _, fs ++ [n], rfl, GrR.push row1 nF ⟨_, hF5⟩ g5, by rw [upd_same, List.map_append]; rfl, by rw [List.length_append, hl]; rfl, fun m hm => ?_⟩
        rcases List.mem_append.mp hm with hm | hm
        · exact hfs m hm
        · rw [List.mem_singleton.mp hm]
          exact ⟨h3, h4⟩
      refine ⟨_, rfl, rfl, _, rfl, ?_⟩
      by_cases hk0 : k2 = 0
      · have ed : decide (nV k2 = V.int 0) = true := decide_eq_true (by rw [hk0]; rfl)
        rw [ed]
        refine iteT ⟨_, rfl, .inl ⟨rfl, _, .of hF4⟩, _, rfl, _, rfl, r, top, rfl, g4.row, by omega, by omega, fun k H5 hk e5 row5 => ⟨_, _, rfl, rfl, F, fs.map nV, _, rfl, rfl, (by rw [e5 F hFr]; exact hF4), ?_, ?_⟩⟩
        · rw [List.length_map]; omega
        · exact app H5 (1 + (k : Int)) _ (g4.trans (GrR.drawn g4.tab g4.row e5 row5)) (by rw [e5 F hFr]; exact hF4) (by omega) (by omega)
      · have ed : decide (nV k2 = V.int 0) = false := decide_eq_false (fun z => by
          have z := V.int.inj z
          omega)
        rw [ed]
        refine iteF ⟨_, rfl, _, rfl, r, k2, rfl, g4.row, by omega, by omega, fun k5 H5 hk5 e5 row5 => ?_⟩
        have g5 := g4.trans (GrR.drawn g4.tab g4.row e5 row5)
        have hF5 : H5 F = some (.lst (fs.map nV)) := by rw [e5 F hFr]; exact hF4
        refine ⟨_, rfl, .inl ⟨rfl, _, .of hF5⟩, _, rfl, _, rfl, _, rfl, _, rfl, _, _, rfl, rfl, _, _, rfl, _, rfl, F, _, rfl, .of hF5, fun D2 nD2 => ?_⟩
        have eF : fs.map nV = (fs.map fun n : Nat => (n : Int)).map V.int := by
          rw [List.map_map]
          rfl
        obtain ⟨zs, ez⟩ := cutV_map V.int (fs.map fun n : Nat => (n : Int)) none (some (if (0 : Int) + (i : Int) - (k5 : Int) > 0 then (0 : Int) + (i : Int) - (k5 : Int) else 0))
        have g6 := g5.new (o := .lst (cutV (fs.map nV) none (some (if (0 : Int) + (i : Int) - (k5 : Int) > 0 then (0 : Int) + (i : Int) - (k5 : Int) else 0)))) nD2
        refine ⟨D2, zs, rfl, (.of (by rw [upd_same, eF, ez])), _, rfl, r, 3, rfl, g6.row, by decide, by decide, fun k7 H7 hk7 e7 row7 => ?_⟩
        have g7 := g6.trans (GrR.drawn g6.tab g6.row e7 row7)
        have hF7 : H7 F = some (.lst (fs.map nV)) := by
          rw [e7 F hFr, upd_ne (ne_of_none hF5 nD2)]
          exact hF5
        refine ⟨_, _, rfl, rfl, _, _, rfl, _, _, rfl, F, _, _, rfl, rfl, hF7, ?_, ?_⟩
        · rw [List.length_map]; omega
        · refine app H7 _ _ g7 hF7 ?_ ?_
          · split <;> omega
          · split
            · split <;> omega
            · omega
    · obtain ⟨y6, y7, fs, rfl, g4, hF4, hl, hfs⟩ := hP
      have eF : fs.map nV = (fs.map fun n : Nat => (n : Int)).map V.int := by
        rw [List.map_map]
        rfl
      refine ⟨_, rfl, F, fs.map (fun n : Nat => (n : Int)), rfl, .of (by rw [← eF]; exact hF4), by rw [List.length_map]; omega, fun zs p hp hs np => ?_⟩
      obtain ⟨gs, rfl, hpm, hgs⟩ := nat_perm hp hs
      refine ⟨p, _, rfl, .inl ⟨.of upd_same, fun q nq => ?_⟩⟩
      have g6 : GrR K ns sc r H (upd (upd H4 p (.lst ((gs.map fun n : Nat => (n : Int)).map V.int))) q (.tup ((gs.map fun n : Nat => (n : Int)).map V.int))) := ((g1.trans g4).new np).new nq
      refine hQ gs _ _ ?_ g6 ⟨q, rfl, .inl (.inl ?_)⟩
      · have hgl := hpm.length_eq
        unfold isBox
        simp only [Bool.and_eq_true, decide_eq_true_eq, List.all_eq_true]
        refine ⟨by omega, by omega, fun n hn => ?_, hgs⟩
        have := hfs n (hpm.mem_iff.mp hn)
        omega
      · rw [upd_same, List.map_map]
        rfl
end
end Kt
set_option maxHeartbeats 4000000
/-! _law_some, _law_orders. -/
namespace Kt
open PySem PySem.Spec PyProof.Rows L2 SX Km
/-- sum(t), t a tuple of ints -/
theorem cr_sumT {X : Cx} (hc : X.calm = true) : CallR X (.builtin "sum") (fun vs H Q => ∃ (a : Addr) (ns : List Int), vs = [.ref a] ∧ SqT X.K H a (ns.map V.int) ∧ Q (.int ns.sum) H) := by
  intro pins s σ H vs us Q I r h
  obtain ⟨a, ns, rfl, hs, q⟩ := h
  obtain ⟨its, rv, hp, _⟩ := I.tuple hs
  rw [Vals.ref1 r]
  have hi := rv.ints
  obtain ⟨xs, e⟩ := hi.allInts.items
  have hn : numsOf (intItems xs).toList = ns := by rw [← e]; exact hi.numsOf
  rw [nums_intItems] at hn
  have ht : s.heap.IsTuple a its.toArray := hp
  rw [e] at ht
  refine PySem.W.ktm_sumG (I.ok.hd hc) ht fun h' tk t' hk => ?_
  rw [preSum_eq, List.take_of_length_le (by simp), hn]
  exact ⟨.int _, H, I.kept hk, ⟨_, rfl⟩, q⟩
section
variable {P : Program} {w : World} {K : PySem.W.Frag} {mg : Str → Option Value} {base : Heap}
def spSome (K : PySem.W.Frag) (ns : List Int) (sc : Addr) : Sp := fun vs H Q _ => ∃ (r : Addr) (m : Nat), vs = [.ref r, nV m] ∧ RowAt K ns sc H r ∧ m ≤ 10 ∧ TabOk K H ∧ ∀ (ls : List Nat) (v : V) (H' : Hp), isLoss m ls = true → ls.length ≤ m → GrR K ns sc r H H' → TupN K H' v ls → Q v H'
abbrev nmSome : List Str := ["_law_row", "_law_many", "_law_place"]
theorem scSome : FnScope nmSome ["_law_row", "_law_many"] (defScope sSome) := ⟨rfl, rfl, rfl, by decide +kernel, rfl, by decide +kernel, by decide +kernel⟩
theorem cl_law_some (T : Fx K mg base) (ns : List Int) (sc : Addr) : Cl P w K mg base 2 "_law_some" (spSome K ns sc) := by
  refine cl_of T.d_law_some T.g_law_some scSome (fun _ _ _ _ _ _ us hl => match us, hl with | [_, _], _ => rfl) (fun vs H Q E h => ?_) (fun A outer s H vs Q E hr h => ?_)
  · obtain ⟨r, m, rfl, _⟩ := h
    rfl
  · obtain ⟨r, m, rfl, hrow, hm, t0, hQ⟩ := h
    refine ⟨_, pss_one (ps_ret (pe_callTy call_tuple_of (by rfl) T.n_tuple (by decide +kernel) (pa_cons (pe_lc (own := [("_law_place", 2)]) (g := gName 2) rfl scSome.nd (pi_range1 (by rfl) T.n_range (pa_cons (pv 1) pa_nil)) (blkOk_by (own := [("_law_place", 2)]) (N := nmSome) (sc := defScope sSome) (by decide +kernel)) (fun _ _ _ _ _ => pg_name (i := 2) scSome.nd rfl (.inl rfl))
      (fun _ _ _ _ _ => pts_one (pt_cmpR op_eq (pe_cl (cl_taken T ns sc) hr (by decide) (by rfl) quiet (pa_cons (pv 0) (pa_cons pe_int pa_nil))) pe_int (nomark _))) (fun _ _ _ _ _ => pv 2)) pa_nil))), ?_⟩
    refine ⟨_, rfl, _, rfl, by omega, by omega, fun D nD => ?_⟩
    have en : ((m : Nat) : Int).toNat = m := by omega
    rw [en]
    have hDr : D ≠ r := by
      obtain ⟨l, hl⟩ := hrow.lst
      exact (ne_of_none hl nD).symm
    have hz9 : 100 ≤ sizeLine := by decide
    refine lc_range (fun i H4 => ∃ ls : List Nat, GrR K ns sc r H H4 ∧ H4 D = some (.lst (ls.map nV)) ∧ ls.length ≤ i ∧ (∀ n ∈ ls, n < i) ∧ ls.Pairwise (· < ·)) ⟨[], (GrR.refl t0 hrow).new nD, upd_same, Nat.zero_le _, fun n hn => (by simp at hn), .nil⟩ (fun i H4 hi hP => ?_) (fun H4 hP => ?_)
    · obtain ⟨ls, g, hD, hl, hlt, hpw⟩ := hP
      refine ⟨rfl, ?_⟩
      refine ⟨_, rfl, r, 3, rfl, g.row, by decide, by decide, fun k H5 hk e5 row5 => ⟨rfl, _, rfl, ?_⟩⟩
      have g5 := g.trans (GrR.drawn g.tab g.row e5 row5)
      have hD5 : H5 D = some (.lst (ls.map nV)) := by rw [e5 D hDr]; exact hD
      by_cases hk0 : k = 0
      · have ed : decide (nV k = V.int 0) = true := decide_eq_true (by rw [hk0]; rfl)
        rw [ed]
        refine iteT ⟨_, rfl, _, hD5, by rw [List.length_map]; omega, ls ++ [i], GrR.push hrow nD ⟨_, hD5⟩ g5, ?_, by rw [List.length_append]; simp; omega, fun n hn => ?_, ?_⟩
        · have e9 : V.int (0 + (i : Int)) = nV i := by
            show V.int _ = V.int _
            congr 1
            omega
          rw [upd_same, List.map_append, e9]
          rfl
        · rcases List.mem_append.mp hn with hn | hn
          · have := hlt n hn
            omega
          · rw [List.mem_singleton.mp hn]
            omega
        · rw [List.pairwise_append]
          refine ⟨hpw, List.pairwise_singleton _ _, fun a ha b hb => ?_⟩
          rw [List.mem_singleton.mp hb]
          exact hlt a ha
      · have ed : decide (nV k = V.int 0) = false := decide_eq_false (fun z => by
          have z := V.int.inj z
          omega)
        rw [ed]
        exact iteF ⟨ls, g5, hD5, by omega, fun n hn => Nat.lt_succ_of_lt (hlt n hn), hpw⟩
    · obtain ⟨ls, g, hD, hl, hlt, hpw⟩ := hP
      refine ⟨D, _, rfl, .inl ⟨.of hD, fun q nq => ?_⟩⟩
      refine hQ ls _ _ ?_ hl (g.new nq) ⟨q, rfl, .inl (.inl upd_same)⟩
      unfold isLoss
      simp only [Bool.and_eq_true, decide_eq_true_eq, List.all_eq_true]
      exact ⟨hlt, hpw⟩
/-! ### _law_orders -/
theorem sum_nat : ∀ bs : List Nat, ((bs.map fun n : Nat => (n : Int)).sum) = ((bs.sum : Nat) : Int)
  | [] => rfl
  | b :: bs => by
    rw [List.map_cons, List.sum_cons, List.sum_cons, sum_nat bs]
    omega
theorem sum_small : ∀ {bs : List Nat}, (∀ n ∈ bs, n ≤ 1000) → bs.sum ≤ 1000 * bs.length
  | [], _ => Nat.zero_le _
  | b :: bs, h => by
    have h1 := h b List.mem_cons_self
    have h2 := sum_small fun n hn => h n (List.mem_cons_of_mem _ hn)
    rw [List.sum_cons, List.length_cons]
    omega
theorem GrR.seqT {ns : List Int} {sc r : Addr} {H H' : Hp} {a : Addr} {xs : List V} (g : GrR K ns sc r H H') (h : RowAt K ns sc H r) (e : SqT K H a xs) : SqT K H' a xs := seqT_extL (g.extL h) e
def spLOrders (K : PySem.W.Frag) (ns : List Int) (sc : Addr) : Sp := fun vs H Q _ => ∃ (r b : Addr) (bs : List Nat) (m : Nat), vs = [.ref r, .ref b, nV m] ∧ RowAt K ns sc H r ∧ SqT K H b (bs.map nV) ∧ isBox bs = true ∧ m ≤ 200 ∧ TabOk K H ∧
  ∀ (os : List Ord) (xs : List V) (q : Addr) (H' : Hp), os.length = m → (∀ o ∈ os, isOrd bs.length o = true) → GrR K ns sc r H H' → SqT K H' q xs → OrdsAt K H' os xs → Q (.ref q) H'
abbrev nmLO : List Str := ["_law_row", "_law_box_here", "_law_many", "_law_found", "_law_turn", "_law_way"]
theorem scLO : FnScope nmLO ["_law_row", "_law_box_here", "_law_many"] (defScope sLOrders) := ⟨rfl, rfl, rfl, by decide +kernel, rfl, by decide +kernel, by decide +kernel⟩
theorem cl_law_orders (T : Fx K mg base) (ns : List Int) (sc : Addr) : Cl P w K mg base 2 "_law_orders" (spLOrders K ns sc) := by
  refine cl_of T.d_law_orders T.g_law_orders scLO (fun _ _ _ _ _ _ us hl => match us, hl with | [_, _, _], _ => rfl) (fun vs H Q E h => ?_) (fun A outer s H vs Q E hr h => ?_)
  · obtain ⟨r, b, bs, m, rfl, _⟩ := h
    rfl
  · obtain ⟨r, b, bs, m, rfl, hrow, hB, hb, hm, t0, hQ⟩ := h
    have ct := cl_taken (P := P) (w := w) T ns sc
    refine ⟨_, pss_cons (ps_set (i := 3) scLO.nd rfl (.inl rfl) (pe_lst pa_nil))
      (pss_cons (ps_for (passes_of rfl) rfl (pi_range1 (by rfl) T.n_range (pa_cons (pv 2) pa_nil)) (pg_name (i := 4) scLO.nd rfl (.inl rfl))
        (pss_cons (ps_set (i := 5) scLO.nd rfl (.inl rfl) (pe_cl ct hr (by decide) (by rfl) quiet (pa_cons (pv 0) (pa_cons pe_int pa_nil))))
        (pss_one (ps_expr (pe_bm PySem.F.plainAttrs_list PySem.F.slot_list_append PySem.F.type_list_append mt_append (pv 3) (pa_cons
          (pe_ifExp (pt_cmpR op_eq (pv 5) pe_int (nomark _))
            (pe_tup (pa_cons pe_str (pa_cons (pe_callB (call_min2 rfl) (by rfl) T.n_min (by decide +kernel) (pa_cons pe_int (pa_cons (pe_cl ct hr (by decide) (by rfl) quiet (pa_cons (pv 0) (pa_cons (pe_op op_add (pe_callB (cr_sumT rfl) (by rfl) T.n_sum (by decide +kernel) (pa_cons (pv 1) pa_nil)) pe_int) pa_nil))) pa_nil))) pa_nil)))
            (pe_tup (pa_cons (pe_ix ix_list (pe_lst (pa_cons pe_str (pa_cons pe_str pa_nil))) (pe_op op_sub (pv 5) pe_int) (fun _ _ => rfl)) (pa_cons (pe_cl ct hr (by decide) (by rfl) quiet (pa_cons (pv 0) (pa_cons (pe_callB call_len (by rfl) T.n_len (by decide +kernel) (pa_cons (pv 1) pa_nil)) pa_nil))) pa_nil)))) pa_nil))))))
      (pss_one (ps_ret (pe_callTy call_tuple_of (by rfl) T.n_tuple (by decide +kernel) (pa_cons (pv 3) pa_nil))))), ?_⟩
    have hbl := isBox_len hb
    have hbs := sum_small fun n hn => (isBox_small hb n hn).2
    have hz9 : 1000 ≤ sizeLine := by decide
    refine ⟨Nat.zero_le _, fun F nF => ⟨_, rfl, _, rfl, by omega, by omega, ?_⟩⟩
    have en : ((m : Nat) : Int).toNat = m := by omega
    rw [en]
    have hFr : F ≠ r := by
      obtain ⟨l, hl⟩ := hrow.lst
      exact (ne_of_none hl nF).symm
    refine for_range (fun i σ H4 => ∃ (y4 y5 : Option V) (os : List Ord) (xs : List V), σ = [some (.ref r), some (.ref b), some (nV m), some (.ref F), y4, y5] ∧ GrR K ns sc r H H4 ∧ H4 F = some (.lst xs) ∧ OrdsAt K H4 os xs ∧ os.length = i ∧ ∀ o ∈ os, isOrd bs.length o = true)
      ⟨none, none, [], [], rfl, (GrR.refl t0 hrow).new nF, upd_same, OrdsAt.nil, rfl, fun o ho => by simp at ho⟩ (fun i σ H4 hi hP => ?_) (fun σ H4 hP => ?_)
    · obtain ⟨y4, y5, os, xs, rfl, g4, hF4, hO, hl, hok⟩ := hP
      have hxl := hO.len
      refine ⟨_, rfl, r, 3, rfl, g4.row, by decide, by decide, fun k H5 hk e5 row5 => ?_⟩
      have d5 := GrR.drawn g4.tab g4.row e5 row5
      have g5 := g4.trans d5
      have hF5 : H5 F = some (.lst xs) := by rw [e5 F hFr]; exact hF4
      have hO5 : OrdsAt K H5 os xs := hO.extL (d5.extL g4.row)
      have hB5 : SqT K H5 b (bs.map nV) := g5.seqT hrow hB
      have app : ∀ (H6 : Hp) (a : Addr) (o : Ord), GrR K ns sc r H H6 → H6 F = some (.lst xs) → OrdsAt K H6 os xs → SqT K H6 a [sV o.1, nV o.2] → isOrd bs.length o = true →
          ∃ (y4 y5 : Option V) (os' : List Ord) (xs' : List V), [some (V.ref r), some (.ref b), some (nV m), some (.ref F), some (.int (0 + (i : Int))), some (nV k)] = [some (.ref r), some (.ref b), some (nV m), some (.ref F), y4, y5] ∧ GrR K ns sc r H (upd H6 F (.lst (xs ++ [.ref a]))) ∧
            (upd H6 F (.lst (xs ++ [.ref a]))) F = some (.lst xs') ∧ OrdsAt K (upd H6 F (.lst (xs ++ [.ref a]))) os' xs' ∧ os'.length = i + 1 ∧ ∀ o ∈ os', isOrd bs.length o = true := fun H6 a o g6 hF6 hO6 ha ho => by
        refine ⟨_, _, os ++ [o], xs ++ [.ref a], rfl, GrR.push hrow nF ⟨_, hF6⟩ g6, upd_same, (hO6.extL (ExtL.upd hF6)).snoc (seqT_extL (ExtL.upd hF6) ha), by rw [List.length_append, hl]; rfl, fun q hq => ?_⟩
        rcases List.mem_append.mp hq with hq | hq
        · exact hok q hq
        · rw [List.mem_singleton.mp hq]
          exact ho
      refine ⟨_, rfl, .inl ⟨rfl, _, .of hF5⟩, _, rfl, rfl, _, rfl, ?_⟩
      by_cases hk0 : k = 0
      · have ed : decide (nV k = V.int 0) = true := decide_eq_true (by rw [hk0]; rfl)
        rw [ed]
        have eB : bs.map nV = (bs.map fun n : Nat => (n : Int)).map V.int := by
          rw [List.map_map]
          rfl
        refine iteT ⟨_, rfl, _, rfl, b, bs.map (fun n : Nat => (n : Int)), rfl, by rw [← eB]; exact hB5, _, _, rfl, rfl, r, bs.sum + 3, ?_, row5, by omega, by omega, fun k6 H6 hk6 e6 row6 => ?_⟩
        · rw [sum_nat]
          show [V.ref r, V.int ((bs.sum : Int) + 3)] ++ [] = _
          rw [List.append_nil]
          show _ = [V.ref r, V.int ((bs.sum + 3 : Nat) : Int)]
          congr 3
        · have d6 := GrR.drawn d5.tab row5 e6 row6
          have g6 := g5.trans d6
          refine ⟨_, _, rfl, by show 2 ≤ sizeLine; omega, fun t nt => ?_⟩
          have hF6 : H6 F = some (.lst xs) := by rw [e6 F hFr]; exact hF5
          obtain ⟨n, en2, hn⟩ : ∃ n : Nat, (if (k6 : Int) < 10000 then (k6 : Int) else 10000) = (n : Int) ∧ n ≤ 10000 := by
            by_cases h : (k6 : Int) < 10000
            · rw [if_pos h]
              exact ⟨k6, rfl, by omega⟩
            · rw [if_neg h]
              exact ⟨10000, rfl, Nat.le_refl _⟩
          refine ⟨F, xs, _, rfl, rfl, by rw [upd_ne (ne_of_none hF6 nt)]; exact hF6, by omega, ?_⟩
          refine app _ t (wWeigh, n) (g6.new nt) (by rw [upd_ne (ne_of_none hF6 nt)]; exact hF6) ((hO5.extL (d6.extL row5)).ext (LamX.ExtN.of (same_new nt))) (.inl (.inl ?_)) ?_
          · rw [upd_same, en2, s_weigh]
          · unfold isOrd
            have h2 : n < 10001 := by omega
            simp [h2, wWeigh, wFind, wLose]
      · have ed : decide (nV k = V.int 0) = false := decide_eq_false (fun z => by
          have z := V.int.inj z
          omega)
        rw [ed]
        obtain ⟨wd, hwd, hat⟩ : ∃ wd : List Nat, (wd = wLose ∨ wd = wFind) ∧ atI [V.str "lose", V.str "find"] ((k : Int) - 1) = some (sV wd) := by
          have : k = 1 ∨ k = 2 := by omega
          rcases this with rfl | rfl
          · exact ⟨wLose, .inl rfl, by show _ = some (V.str (S wLose)); rw [← s_lose]; rfl⟩
          · exact ⟨wFind, .inr rfl, by show _ = some (V.str (S wFind)); rw [← s_find]; rfl⟩
        refine iteF ⟨by show 2 ≤ sizeLine; omega, fun L nL => ⟨_, rfl, _, _, rfl, rfl, L, _, _, _, rfl, rfl, .of upd_same, hat, ?_⟩⟩
        have n5 : GrR K ns sc r H5 (upd H5 L (.lst [V.str "lose", V.str "find"])) := (GrR.refl d5.tab row5).new nL
        refine ⟨_, rfl, _, rfl, _, _, rfl, .inr ⟨_, n5.seqT row5 hB5, rfl⟩, r, bs.length, by rw [List.length_map]; rfl, n5.row, by omega, by omega, fun k6 H6 hk6 e6 row6 => ⟨by show 2 ≤ sizeLine; omega, fun t nt => ?_⟩⟩
        have d6 := n5.trans (GrR.drawn n5.tab n5.row e6 row6)
        have g6 := g5.trans d6
        have hF6 : H6 F = some (.lst xs) := by rw [e6 F hFr, upd_ne (ne_of_none hF5 nL)]; exact hF5
        refine ⟨F, xs, _, rfl, rfl, by rw [upd_ne (ne_of_none hF6 nt)]; exact hF6, by omega, ?_⟩
        refine app _ t (wd, k6) (g6.new nt) (by rw [upd_ne (ne_of_none hF6 nt)]; exact hF6) ((hO5.extL (d6.extL row5)).ext (LamX.ExtN.of (same_new nt))) (.inl (.inl upd_same)) ?_
        unfold isOrd
        rcases hwd with rfl | rfl <;> simp [hk6, wWeigh, wFind, wLose]
    · obtain ⟨y4, y5, os, xs, rfl, g4, hF4, hO, hl, hok⟩ := hP
      refine ⟨_, rfl, F, xs, rfl, .inl ⟨.of hF4, fun q nq => ?_⟩⟩
      exact hQ os xs q _ hl hok (g4.new nq) (.inl (.inl upd_same)) (hO.ext (LamX.ExtN.of (same_new nq)))
end
end Kt
set_option maxHeartbeats 4000000
/-! _law_numbers. -/
namespace Kt
open PySem PySem.Spec PyProof.Rows L2 SX Km
def Asc (l : List Nat) : Prop := ∀ c ∈ l, c < 128
theorem op_le_sign {X : Cx} : OpR X (compareOp .LtE) (fun x y H Q => ∃ a b : Nat, x = .str (S [a]) ∧ y = .str (S [b]) ∧ Q (.bl (decide (a ≤ b))) H) := by
  intro pins s σ H x y v u Q I rx ry h
  obtain ⟨a, b, rfl, rfl, q⟩ := h
  refine op_le_str pins s σ H _ _ v u Q I rx ry ⟨_, _, rfl, rfl, ?_⟩
  have e : (!decide ((S [b]).cps.toList < (S [a]).cps.toList)) = decide (a ≤ b) := by
    show (!decide ([b] < [a])) = decide (a ≤ b)
    have h1 : ([b] < [a]) ↔ b < a := by
      rw [List.cons_lt_cons_iff]
      simp
    rw [Bool.eq_iff_iff]
    simp only [Bool.not_eq_true', decide_eq_false_iff_not, decide_eq_true_eq, h1]
    omega
  rw [e]
  exact q
theorem canLay_strs : ∀ {ts : List (List Nat)}, (∀ t ∈ ts, Asc t) → PyData.canLayAll0 (ts.map fun t => .str (S t)) = true
  | [], _ => rfl
  | t :: ts, h => by
    show (PyData.canLay0 (.str (S t)) && PyData.canLayAll0 (ts.map fun t => .str (S t))) = true
    rw [canLay_strs fun u hu => h u (List.mem_cons_of_mem _ hu), Bool.and_true]
    show PyData.strOk (S t) = true
    unfold PyData.strOk
    rw [← Array.all_toList]
    refine List.all_eq_true.mpr fun c hc => decide_eq_true ?_
    have := h t List.mem_cons_self c hc
    omega
theorem depth_strs : ∀ ts : List (List Nat), PyData.depthAll (ts.map fun t => PyData.str (S t)) ≤ 1
  | [] => by
    show PyData.depthAll [] ≤ 1
    simp [PyData.depthAll]
  | t :: ts => by
    have := depth_strs ts
    show PyData.depthAll (.str (S t) :: ts.map fun t => PyData.str (S t)) ≤ 1
    simp only [PyData.depthAll, PyData.depth] at this ⊢
    omega
theorem shaped_strs {ts : List (List Nat)} (h : ∀ t ∈ ts, Asc t) : SeqAt.shaped (.list (ts.map fun t => .str (S t))) = true := by
  unfold SeqAt.shaped
  rw [Bool.and_eq_true]
  refine ⟨canLay_strs h, decide_eq_true ?_⟩
  have := depth_strs ts
  simp only [PyData.depth]
  omega
theorem dp_strs {K : PySem.W.Frag} {H : Hp} : ∀ ts : List (List Nat), DpAll K H (ts.map sV) (ts.map fun t => .str (S t))
  | [] => .nil
  | t :: ts => .cons (.str (S t)) (dp_strs ts)
section
variable {P : Program} {w : World} {K : PySem.W.Frag} {mg : Str → Option Value} {base : Heap}
def spLNums (K : PySem.W.Frag) : Sp := fun vs H Q _ => ∃ (D : Addr) (ws : List (List Nat)), vs = [.ref D] ∧ SqL K H D (ws.map sV) ∧ (∀ u ∈ ws, u.length ≤ 100000 ∧ Asc u) ∧ ws.length ≤ 100000 ∧ TabOk K H ∧ ∀ v H', Gr K H H' → BoxV K H' v (numsW ws) → Q v H'
abbrev nmLN : List Str := ["_law_words", "_law_found", "_law_word", "_law_signs", "_law_sign"]
theorem scLN : FnScope nmLN ["_law_words"] (defScope sLNumbers) := ⟨rfl, rfl, rfl, by decide +kernel, rfl, by decide +kernel, by decide +kernel⟩
theorem cl_law_numbers (T : Fx K mg base) : Cl P w K mg base 1 "_law_numbers" (spLNums K) := by
  refine cl_of T.d_law_numbers T.g_law_numbers scLN (fun _ _ _ _ _ _ us hl => match us, hl with | [_], _ => rfl) (fun vs H Q E h => ?_) (fun A outer s H vs Q E hr h => ?_)
  · obtain ⟨D, ws, rfl, _⟩ := h
    rfl
  · obtain ⟨D0, ws, rfl, hL, hz, hz2, t0, hQ⟩ := h
    refine ⟨_, pss_cons (ps_set (i := 1) scLN.nd rfl (.inl rfl) (pe_lst pa_nil))
      (pss_cons (ps_for (passes_of rfl) rfl (pi_list (pv 0)) (pg_name (i := 2) scLN.nd rfl (.inl rfl))
        (pss_cons (ps_setLc (i := 3) (own := [("_law_sign", 4)]) (g := gName 4) rfl scLN.nd rfl rfl (sw_true rfl rfl rfl (by decide +kernel)) (pi_str (pv 2)) (blkOk_by (own := [("_law_sign", 4)]) (N := nmLN) (sc := defScope sLNumbers) (by decide +kernel)) (fun _ _ _ _ _ => pg_name (i := 4) scLN.nd rfl (.inl rfl))
          (fun _ _ _ _ _ => pts_one (pt_not (pt_chain op_le_sign op_le_sign pe_str (pv 4) pe_str))) (fun _ _ _ _ _ => pv 4))
        (pss_cons (ps_if (PW.pt (pw_or (pt_cmpR (op_neD hr.units) (pv 3) (pe_lst pa_nil) (nomark _)) (pw_or (pt_cmpR op_eq (pv 2) pe_str (nomark _)) (pw_or (pt_cmpR op_gt (pe_callB call_len (by rfl) T.n_len (by decide +kernel) (pa_cons (pv 2) pa_nil)) pe_int (nomark _))
            (pw_or1 (PW.pt (pw_and (pt_cmpR op_ne (pv 2) pe_str (nomark _)) (pw_and1 (pt_cmpR op_eq (pe_ix ix_str (pv 2) pe_int (fun _ _ => rfl)) pe_str (nomark _))))))))))
          (pss_one (ps_ret pe_non)) pss_nil)
        (pss_one (ps_expr (pe_bm PySem.F.plainAttrs_list PySem.F.slot_list_append PySem.F.type_list_append mt_append (pv 1) (pa_cons (pe_callTy call_int_str (by rfl) T.n_int (by decide +kernel) (pa_cons (pv 2) pa_nil)) pa_nil)))))))
      (pss_one (ps_ret (pe_callTy call_tuple_of (by rfl) T.n_tuple (by decide +kernel) (pa_cons (pv 1) pa_nil))))), ?_⟩
    have hz9 : 100001 ≤ sizeLine := by decide
    refine ⟨Nat.zero_le _, fun F nF => ⟨_, rfl, D0, rfl, ⟨_, seqL_ext (LamX.ExtN.of (same_new nF)) hL⟩, ?_⟩⟩
    refine for_list (xs := ws.map sV) (fun i σ H4 => ∃ (y2 y3 : Option V) (gs : List Nat), σ = [some (.ref D0), some (.ref F), y2, y3, none] ∧ Gr K H H4 ∧ H4 F = some (.lst (gs.map nV)) ∧ gs.length = i ∧ (ws.take i).map numW = gs.map some)
      ⟨none, none, [], rfl, (Gr.refl t0).new nF, upd_same, rfl, rfl⟩ (fun i σ H4 _ hP => ?_) (fun i x σ H4 hx hP => ?_) (fun σ H4 hP => ?_)
    · obtain ⟨_, _, _, _, g, _⟩ := hP
      exact seqL_ext g.ext hL
    · obtain ⟨y2, y3, gs, rfl, g, hF, hl, hg⟩ := hP
      rw [List.getElem?_map] at hx
      obtain ⟨u, hu, rfl⟩ := Option.map_eq_some_iff.mp hx
      obtain ⟨hul, hua⟩ := hz u (List.mem_of_getElem? hu)
      refine ⟨_, rfl, S u, rfl, fun D nD => ?_⟩
      refine lc_it walk_str (fun k H5 => Gr K H4 H5 ∧ H5 D = some (.lst (((u.take k).filter fun c => !dig c).map fun c => sV [c]))) ⟨(Gr.refl g.tab).new nD, upd_same⟩ (fun _ _ _ _ => trivial) (fun k x H5 H5' hk hP hY => ?_) (fun H5 hP => ?_)
      · obtain ⟨g5, hD5⟩ := hP
        obtain ⟨rfl, c, hc, rfl⟩ := hY
        have huc : u[k]? = some c := by simpa using hc
        have s48 : V.str ("0" : Str) = sV [48] := congrArg V.str (by decide +kernel)
        have s57 : V.str ("9" : Str) = sV [57] := congrArg V.str (by decide +kernel)
        have ht : u.take (k + 1) = u.take k ++ [c] := by rw [List.take_succ, huc]; rfl
        have yes : dig c = true → Gr K H4 H5' ∧ H5' D = some (.lst (((u.take (k + 1)).filter fun c => !dig c).map fun c => sV [c])) := fun hd => by
          refine ⟨g5, ?_⟩
          rw [ht, List.filter_append, hD5]
          simp [hd]
        have no : dig c = false → ∃ v, ([some (V.ref D0), some (.ref F), some (sV u), y3, some (sV [c])] : L2.St)[4]? = some (some v) ∧ ∃ acc, H5' D = some (.lst acc) ∧ acc.length < sizeLine ∧ (Gr K H4 (upd H5' D (.lst (acc ++ [v]))) ∧ (upd H5' D (.lst (acc ++ [v]))) D = some (.lst (((u.take (k + 1)).filter fun c => !dig c).map fun c => sV [c]))) := fun hd => by
          refine ⟨_, rfl, _, hD5, ?_, gr_push nD ⟨_, hD5⟩ g5, ?_⟩
          · rw [List.length_map]
            have h1 := List.length_filter_le (fun c => !dig c) (u.take k)
            rw [List.length_take] at h1
            omega
          · rw [upd_same, ht, List.filter_append]
            simp [hd]
        refine ⟨rfl, _, rfl, 48, c, s48, rfl, _, rfl, ?_⟩
        by_cases h1 : 48 ≤ c
        · rw [decide_eq_true h1]
          refine iteT ⟨c, 57, rfl, s57, _, rfl, ?_⟩
          by_cases h2 : c ≤ 57
          · rw [decide_eq_true h2]
            exact iteF (yes (by unfold dig; rw [decide_eq_true h1, decide_eq_true h2]; rfl))
          · rw [decide_eq_false h2]
            exact iteT (no (by unfold dig; rw [decide_eq_false h2, Bool.and_false]))
        · rw [decide_eq_false h1]
          exact iteF ⟨_, rfl, iteT (no (by unfold dig; rw [decide_eq_false h1, Bool.false_and]))⟩
      · obtain ⟨g5, hD5⟩ := hP
        have es : (S u).cps.size = u.length := by simp
        rw [es, List.take_length] at hD5
        have g5' := g.trans g5
        have hF5 : H5 F = some (.lst (gs.map nV)) := g5.ext _ _ hF (fun _ z => nomatch z)
        have hgl : gs.length ≤ 100000 := by
          have := (List.getElem?_eq_some_iff.mp hu).1
          omega
        refine ⟨_, rfl, Nat.zero_le _, fun D2 nD2 => ?_⟩
        have g6 := g5'.new (o := .lst []) nD2
        have hF6 : (upd H5 D2 (.lst [])) F = some (.lst (gs.map nV)) := by rw [upd_ne (ne_of_none hF5 nD2)]; exact hF5
        have hD6 : (upd H5 D2 (.lst [])) D = some (.lst (((u.filter fun c => !dig c).map fun c => [c]).map sV)) := by
          rw [upd_ne (ne_of_none hD5 nD2), hD5, List.map_map]
          rfl
        have hsh : SeqAt.shaped (.list (((u.filter fun c => !dig c).map fun c => [c]).map fun t => .str (S t))) = true := shaped_strs fun t ht => by
          obtain ⟨c, hc, rfl⟩ := List.mem_map.mp ht
          intro x hx
          rw [List.mem_singleton.mp hx]
          exact hua c (List.mem_filter.mp hc).1
        refine ⟨_, .list [], .lst (.of hD6) (dp_strs _), .lst (.of upd_same) .nil, hsh, by decide, _, rfl, ?_⟩
        have fail : numBad u = true → Q .non (upd H5 D2 (.lst [])) := fun hb => by
          have h1 : numW u = none := by
            rw [numBad_is] at hb
            unfold numW
            rw [if_neg (by rw [Bool.not_eq_true'] at hb; rw [hb]; exact Bool.false_ne_true)]
          have h2 : numsW ws = none := by
            cases e : numsW ws with
            | none => rfl
            | some ms =>
              have h3 := (allSome_iff _ _).mp e
              have h4 : none ∈ ws.map numW := List.mem_map.mpr ⟨u, List.mem_of_getElem? hu, h1⟩
              rw [h3] at h4
              obtain ⟨_, _, h5⟩ := List.mem_map.mp h4
              cases h5
          exact hQ _ _ g6 (by rw [h2]; rfl)
        cases ha : u.all dig with
        | false =>
          have e1 : PyData.eqv (.list (((u.filter fun c => !dig c).map fun c => [c]).map fun t => .str (S t))) (.list []) = false := by
            cases hf : u.filter fun c => !dig c with
            | nil =>
              have : u.all dig = true := List.all_eq_true.mpr fun c hc => by
                have h1 := List.filter_eq_nil_iff.mp hf c hc
                simpa using h1
              rw [this] at ha
              cases ha
            | cons c r => rfl
          rw [e1]
          exact iteT (fail (by unfold numBad; rw [ha]; rfl))
        | true =>
          have hf : (u.filter fun c => !dig c) = [] := List.filter_eq_nil_iff.mpr fun c hc => by
            have := List.all_eq_true.mp ha c hc
            simp [this]
          rw [hf]
          refine iteF ⟨_, rfl, rfl, _, rfl, ?_⟩
          have e0 : decide (sV u = V.str ("" : Str)) = decide (u = []) := by
            rw [s_none]
            exact str_eq u []
          rw [e0]
          by_cases h0 : u = []
          · rw [decide_eq_true h0]
            exact iteT (fail (by unfold numBad; rw [h0]; rfl))
          · rw [decide_eq_false h0]
            refine iteF ⟨_, rfl, _, u.length, rfl, ⟨by rw [S_len]; omega, by rw [S_len]⟩, _, _, rfl, rfl, _, rfl, ?_⟩
            by_cases h5 : 5 < u.length
            · have e5 : decide ((u.length : Int) > 5) = true := decide_eq_true (by omega)
              rw [e5]
              exact iteT (fail (by unfold numBad; rw [decide_eq_true h5]; simp))
            · have e5 : decide ((u.length : Int) > 5) = false := decide_eq_false (by omega)
              rw [e5]
              refine iteF ⟨_, rfl, rfl, _, rfl, ?_⟩
              have e6 : decide (sV u = V.str ("0" : Str)) = decide (u = [48]) := by
                have s0 : ("0" : Str) = S [48] := by decide +kernel
                rw [s0]
                exact str_eq u [48]
              rw [e6]
              have good : (!decide (u = [48]) && decide (u.head? = some 48)) = false → numOk u = true := fun h => by
                have := numBad_is u
                unfold numBad at this
                rw [ha, h, decide_eq_false h0, decide_eq_false h5] at this
                cases hh : numOk u with
                | true => rfl
                | false => rw [hh] at this; cases this
              have step : numOk u = true → ∃ v, ([some (V.ref D0), some (.ref F), some (sV u), some (.ref D), none] : L2.St)[2]? = some (some v) ∧ ∃ a n, [v] = [V.str a] ∧ PySem.intText? a = some n ∧ a.length ≤ 640 ∧
                  ∃ l xs y, V.ref F = .ref l ∧ [V.int n] = [y] ∧ (upd H5 D2 (.lst [])) l = some (.lst xs) ∧ xs.length < sizeLine ∧ ∃ (y2 y3 : Option V) (gs' : List Nat), [some (V.ref D0), some (.ref F), some (sV u), some (.ref D), none] = [some (.ref D0), some (.ref F), y2, y3, none] ∧
                    Gr K H (upd (upd H5 D2 (.lst [])) l (.lst (xs ++ [y]))) ∧ (upd (upd H5 D2 (.lst [])) l (.lst (xs ++ [y]))) F = some (.lst (gs'.map nV)) ∧ gs'.length = i + 1 ∧ (ws.take (i + 1)).map numW = gs'.map some := fun hok => by
                refine ⟨_, rfl, S u, _, rfl, int_S (a := u) ha h0 (by omega), by rw [S_len]; omega, F, _, _, rfl, rfl, hF6, by rw [List.length_map]; omega, _, _, gs ++ [NumText.digitsVal u], rfl, gr_push nF ⟨_, hF6⟩ g6, by rw [upd_same, List.map_append]; rfl, by rw [List.length_append, hl]; rfl, ?_⟩
                rw [List.take_succ, hu, List.map_append, List.map_append, hg]
                show _ ++ [numW u] = _ ++ [some (NumText.digitsVal u)]
                unfold numW
                rw [if_pos hok]
              by_cases h8 : u = [48]
              · rw [decide_eq_true h8]
                exact iteF (iteF ⟨_, rfl, .inl ⟨rfl, _, .of hF6⟩, step (good (by rw [h8]; rfl))⟩)
              · rw [decide_eq_false h8]
                obtain ⟨c, q, rfl⟩ : ∃ c q, u = c :: q := List.exists_cons_of_ne_nil h0
                refine iteT ⟨_, rfl, S (c :: q), 0, c, rfl, rfl, by rw [S_len]; omega, atI_nat (j := 0) rfl, rfl, _, rfl, ?_⟩
                have e7 : decide (V.str ⟨#[c]⟩ = V.str ("0" : Str)) = decide (c = 48) := by
                  have s0 : ("0" : Str) = S [48] := by decide +kernel
                  rw [s0]
                  have h := str_eq [c] [48]
                  rw [Bool.eq_iff_iff, decide_eq_true_eq, decide_eq_true_eq] at h ⊢
                  exact h.trans ⟨fun z => by simpa using z, fun z => by rw [z]⟩
                rw [e7]
                have e8 : decide ((c :: q).head? = some 48) = decide (c = 48) := by
                  rw [Bool.eq_iff_iff, decide_eq_true_eq, decide_eq_true_eq]
                  exact ⟨fun z => Option.some.inj z, fun z => by rw [z]; rfl⟩
                by_cases hc : c = 48
                · rw [decide_eq_true hc]
                  exact iteT (fail (by unfold numBad; rw [ha, e8, decide_eq_true hc, decide_eq_false h8]; simp))
                · rw [decide_eq_false hc]
                  exact iteF ⟨_, rfl, .inl ⟨rfl, _, .of hF6⟩, step (good (by rw [e8, decide_eq_false hc, Bool.and_false]))⟩
    · obtain ⟨y2, y3, gs, rfl, g, hF, hl, hg⟩ := hP
      rw [List.length_map, List.take_length] at hg
      refine ⟨_, rfl, F, _, rfl, .inl ⟨.of hF, fun q nq => ?_⟩⟩
      have e : numsW ws = some gs := (allSome_iff _ _).mpr hg
      exact hQ _ _ (g.new nq) (by rw [e]; exact ⟨q, rfl, .inl (.inl upd_same)⟩)
end
end Kt
set_option maxHeartbeats 4000000
/-! sorted(tuple), set(tuple), max(tuple) of ints. -/
namespace PyProof.Rows
open PySem PySem.Spec
section
variable {prog : Program} {w : World} {A : Around} {E : Value → Shared → Prop} {s : Shared}
theorem kt_collect {l : Addr} {vs : List Value} {Q : List Value → Shared → Prop} (hl : s.heap.IsTuple l vs.toArray)
    (h : Q vs { s with heap := (s.heap.push (seqObj "list" #[] 0)).update s.heap.objs.size (Obj.mapSeq (· ++ vs.toArray)) }) (hsz : vs.length ≤ sizeLine) :
    wpAny (model prog w) A (collect (.ref l)) Q E s := by
  obtain ⟨o, ho, hc, n, hd⟩ := id hl
  have new0 : (s.heap.push (seqObj "list" #[] 0)).get? s.heap.objs.size = some (seqObj "list" #[] 0) := Heap.get?_push_size _ rfl
  have ho' : (s.heap.push (seqObj "list" #[] 0)).get? l = some o := Heap.get?_push_of_some _ ho
  unfold collect
  refine wpAny_bind (wpAny_runValue (codeAny_builtin entry_proto_collect' ?_))
  show wpAny _ _ (do again (.builtin "list.__iadd__" ⟨[← newList [], .ref l], []⟩)) _ _ s
  refine wpAny_bind (wpAny_newList (wpAny_pure ⟨Code.quiet_builtin _ (by decide +kernel), codeAny_builtin entry_list_iadd' ?_⟩))
  show wpAny _ _ (Builtin.List.listExtendWith (.ref s.heap.objs.size) (.ref l) (.ref s.heap.objs.size)) _ _ { s with heap := s.heap.push (seqObj "list" #[] 0) }
  unfold Builtin.List.listExtendWith
  refine wpAny_bind (wpAny_typeOf (T := "tuple") ⟨o, ho', hc⟩ ?_)
  have ht : (Value.type "tuple" == Value.type "tuple") = true := by rfl
  rw [if_pos (by rw [ht]; simp)]
  refine wpAny_bind (listItems_at ho' hd (wpAny_bind (listItems_at (xs := #[]) (n := 0) new0 rfl ?_)))
  rw [if_neg (by simp)]
  refine wpAny_bind (listUpdate_at (xs := #[]) (n := 0) new0 rfl (wpAny_pure ?_) (Nat.zero_le _) (by show (#[] ++ vs.toArray).size ≤ sizeLine + 1; simp only [Array.size_append, List.size_toArray, List.length_nil]; omega))
  show wpAny (model prog w) A (do
      let o ← load s.heap.objs.size
      match o.data with
      | .seq xs _ => pure xs.toList
      | _ => unsupported "internal:collect") Q E { s with heap := (s.heap.push (seqObj "list" #[] 0)).update s.heap.objs.size (Obj.mapSeq (· ++ vs.toArray)) }
  refine wpAny_bind (wpAny_load (get?_update_seq new0 _) ?_)
  have e : ((#[] : Array Value) ++ vs.toArray).toList = vs := by simp
  show wpAny _ _ (pure ((#[] : Array Value) ++ vs.toArray).toList) Q E _
  rw [e]
  exact wpAny_pure h
theorem kt_sorted {l : Addr} {vs : List Value} {ns : List Int} {Q : Value → Shared → Prop} (hl : s.heap.IsTuple l vs.toArray) (hI : IntsAre vs ns) (h64 : vs.length < 64)
    (h : ∀ (out : Array Value) (ns' : List Int), IntsAre out.toList ns' → ns'.Perm ns → ns'.Pairwise (· ≤ ·) → Q (.ref (s.heap.objs.size + 1)) { s with heap := sortedAll s.heap vs out }) :
    wpAny (model prog w) A (call (.builtin "sorted") [.ref l]) Q E s := by
  refine Calls.call_function_entry kind_sorted plain_sorted entry_sorted (args_sorted1 _) ?_
  unfold Builtin.«sorted»
  have hsl : vs.length ≤ sizeLine := by rw [sizeLine_eq]; omega
  have hsz : ((s.heap.push (seqObj "list" #[] 0)).update s.heap.objs.size (Obj.mapSeq (· ++ vs.toArray))).objs.size = s.heap.objs.size + 1 := by
    rw [Heap.size_update, size_push']
  refine wpAny_bind (m := checkCount "sorted" 1 1 _) (wpAny_pure (wpAny_bind (kt_collect hl (wpAny_bind (wpAny_newList ?_)) hsl)))
  have hoL : (((s.heap.push (seqObj "list" #[] 0)).update s.heap.objs.size (Obj.mapSeq (· ++ vs.toArray))).push (seqObj "list" vs.toArray 0)).get? (s.heap.objs.size + 1) = some (seqObj "list" vs.toArray 0) := by
    rw [← hsz]
    exact Heap.get?_push_size _ rfl
  show wpAny _ _ _ _ _ { s with heap := ((s.heap.push (seqObj "list" #[] 0)).update s.heap.objs.size (Obj.mapSeq (· ++ vs.toArray))).push (seqObj "list" vs.toArray 0) }
  rw [hsz]
  refine wpAny_bind (wpAny_holding (wpAny_call_entry slot_list_sort ⟨_, hoL, rfl⟩ entry_list_sort (list_sort_tree hoL hI h64 fun out ns' a1 a2 a3 => ⟨_, rfl, ?_⟩) (args_list_sort _)))
  exact wpAny_pure ⟨_, rfl, h out ns' a1 a2 a3⟩
theorem kt_max {l : Addr} {xs : Array (Int × Tok)} {Q : Value → Shared → Prop} (hh : A.handled = none) (hl : s.heap.IsTuple l (intItems xs)) (hne : 0 < xs.size)
    (h : ∀ v h' tk, (intItems xs)[argBest (fun i j => decide (numAt xs i > numAt xs j)) (xs.size - 1)]? = some v → (∀ b o, s.heap.get? b = some o → h'.get? b = some o) → Q v { s with heap := h', toks := tk }) :
    wpAny (model prog w) A (call (.builtin "max") [.ref l]) Q E s := by
  obtain ⟨o, ho, hc, n, hd⟩ := id hl
  have hlt := Heap.lt_size ho
  have hz : (intItems xs).size = xs.size := by simp [intItems]
  refine call_max_walk (wpAny_pyIter_tuple hl ?_)
  refine ⟨_, _, _, _, _, _, _, rfl, Walks.tuple (A := A.in1) hh _ l (Nat.ne_of_lt hlt) (intItems xs), ⟨⟨_, Heap.get?_push_size _ rfl, rfl, rfl⟩, hl.push _⟩, ?_, by rw [hz]; exact hne, CmpOf.ints_gt (numAt xs) (fun _ _ => intItems_at), fun v h' tk hP hk => ?_⟩
  · intro b hb
    show b < (s.heap.push _).objs.size
    rw [Heap.size_push]
    rcases List.mem_cons.mp hb with e | hb
    · rw [e]
      exact Nat.lt_succ_self _
    · rw [List.mem_singleton.mp hb]
      exact Nat.lt_succ_of_lt hlt
  · exact h v h' tk (by simpa [intItems] using hP) fun b o' e => hk b o' (fun hb => absurd (Heap.lt_size e) (by rw [List.mem_singleton.mp hb]; exact Nat.lt_irrefl _)) (Heap.get?_push_of_some _ e)
end
end PyProof.Rows

namespace Kt
open PySem PySem.Spec PyProof.Rows L2 SX Km
section
variable {X : Cx}
/-- sorted(t), t a tuple of fewer than 64 ints -/
theorem cr_sortedTu : CallR X (.builtin "sorted") (fun vs H Q => ∃ (a : Addr) (ns : List Int), vs = [V.ref a] ∧ SqT X.K H a (ns.map V.int) ∧ ns.length < 64 ∧ ∀ (ns' : List Int) (p : Addr), ns'.Perm ns → ns'.Pairwise (· ≤ ·) → H p = none → Q (.ref p) (upd H p (.lst (ns'.map V.int)))) := by
  intro pins s σ H vs us Q I r h
  obtain ⟨a, ns, rfl, hs, h64, q⟩ := h
  obtain ⟨its, rv, hl, _⟩ := I.tuple hs
  rw [Vals.ref1 r]
  have hi := rv.ints
  refine PyProof.Rows.kt_sorted (show s.heap.IsTuple a its.toArray from hl) hi (by rw [hi.length]; exact h64) fun out ns' h1 h2 h3 => ?_
  obtain ⟨ep, he'⟩ := PyProof.Rows.sortedAll_at s.heap its out
  have hlen : (ns'.map V.int).length ≤ sizeLine := by rw [List.length_map, h2.length_eq]; exact small64 h64
  exact ⟨.ref _, upd H (s.heap.objs.size + 1) (.lst (ns'.map V.int)), I.laid (t' := s.toks) (fun _ _ => PyProof.Rows.sortedAll_old) (Nat.le_succ _) ⟨hlen, out.toList, ep, vals_of_ints h1, he'⟩, rfl, q ns' _ h2 h3 (I.hok.fresh (Nat.le_succ _))⟩
/-- set(t), t a tuple of ints -/
theorem cr_setTu (hc : X.calm = true) : CallR X (.type "set") (fun vs H Q => ∃ (a : Addr) (ns : List Int), vs = [V.ref a] ∧ SqT X.K H a (ns.map V.int) ∧ ns.length < 1000 ∧ ∀ (c : Nat) (p : Addr), c ≤ ns.length → H p = none → Q (.ref p) (upd H p (SetO X.w p (fun j => decide (j ∈ ns)) c))) := by
  intro pins s σ H vs us Q I r h
  obtain ⟨a, ns, rfl, hs, hl, q⟩ := h
  obtain ⟨its, rv, hp, _⟩ := I.tuple hs
  rw [Vals.ref1 r]
  have hi : IntsAre its.toArray.toList ns := rv.ints
  refine call_set_tupI ns (I.ok.hd hc) (show s.heap.IsTuple a its.toArray from hp) hi (by unfold scanBound; omega) fun h' tk c R hcl hk => ?_
  have hn : H s.heap.objs.size = none := I.hok.fresh (Nat.le_refl _)
  exact ⟨.ref s.heap.objs.size, _, I.laid (t' := tk) hk (Nat.le_refl _) (setO_new R), rfl, q c _ hcl hn⟩
/-- max(t), t a tuple of ints, not empty -/
theorem cr_maxTu (hc : X.calm = true) : CallR X (.builtin "max") (fun vs H Q => ∃ (a : Addr) (ns : List Int), vs = [V.ref a] ∧ SqT X.K H a (ns.map V.int) ∧ 0 < ns.length ∧ ∀ m, m ∈ ns → (∀ y, y ∈ ns → y ≤ m) → Q (.int m) H) := by
  intro pins s σ H vs us Q I r h
  obtain ⟨a, ns, rfl, hs, hne, q⟩ := h
  obtain ⟨its, rv, hp, _⟩ := I.tuple hs
  rw [Vals.ref1 r]
  have hi := rv.ints
  obtain ⟨xs, e⟩ := hi.allInts.items
  have hn : numsOf (intItems xs).toList = ns := by rw [← e]; exact hi.numsOf
  rw [nums_intItems] at hn
  subst hn
  have ht : s.heap.IsTuple a its.toArray := hp
  rw [e] at ht
  have hsz : 0 < xs.size := by simpa using hne
  refine PyProof.Rows.kt_max (I.ok.hd hc) ht hsz fun v h' tk hv hk => ?_
  obtain ⟨t, rfl⟩ := intItems_at hv
  obtain ⟨h1, h2⟩ := argBest_gt (numAt xs) (xs.size - 1)
  refine ⟨.int _, H, I.kept hk, ⟨_, rfl⟩, q _ ?_ fun y hy => ?_⟩
  · rw [numAt_eq]; exact PySem.getD_mem (by rw [List.length_map, Array.length_toList]; omega)
  · obtain ⟨j, hj, rfl⟩ := mem_getD hy
    rw [List.length_map, Array.length_toList] at hj
    have h3 := h2 j (by omega)
    rw [numAt_eq] at h3
    exact h3
end
end Kt
set_option maxHeartbeats 4000000
/-! _law_lines, _law_box_in, _law_order_in. -/
namespace Kt
open PySem PySem.Spec PyProof.Rows L2 SX Km
section
variable {P : Program} {w : World} {K : PySem.W.Frag} {mg : Str → Option Value} {base : Heap}
def LinesV (K : PySem.W.Frag) (H : Hp) (v : V) : Except Nat (List (List Nat)) → Prop
  | .ok ls => ∃ D : Addr, v = .ref D ∧ H D = some (.lst (ls.map sV))
  | .error i => v = nV i
def spLLines (K : PySem.W.Frag) : Sp := fun vs H Q _ => ∃ (v : V) (tx : Option (List Nat)), vs = [v] ∧ TxOk v tx ∧ (∀ l, tx = some l → l.length ≤ 100000) ∧ TabOk K H ∧ ∀ v' H', Gr K H H' → LinesV K H' v' (linesR tx) → Q v' H'
theorem scLLines : FnScope ["_law_text", "_law_lines_here"] ["_law_text"] (defScope sLLines) := ⟨rfl, rfl, rfl, by decide +kernel, rfl, by decide +kernel, by decide +kernel⟩
theorem cl_law_lines (T : Fx K mg base) : Cl P w K mg base 1 "_law_lines" (spLLines K) := by
  refine cl_of T.d_law_lines T.g_law_lines scLLines (fun _ _ _ _ _ _ us hl => match us, hl with | [_], _ => rfl) (fun vs H Q E h => ?_) (fun A outer s H vs Q E hr h => ?_)
  · obtain ⟨v, tx, rfl, _⟩ := h
    rfl
  · obtain ⟨v, tx, rfl, hv, hz, t0, hQ⟩ := h
    refine ⟨_, pss_cons (ps_if (PW.pt (pw_or (pt_not (pt_val (pe_is (T := "str") (by rfl) T.n_isinstance (by rfl) T.n_str (by decide +kernel) (pv 0)))) (pw_or1 (pt_cmpR op_eq (pv 0) pe_str (nomark _)))))
        (pss_one (ps_ret pe_int)) pss_nil)
      (pss_cons (ps_set (i := 1) scLLines.nd rfl (.inl rfl) (pe_spl s_nl (by decide) (pv 0)))
      (pss_one (ps_ret (pe_ifExp (pt_cmpR op_eq (pe_ix ix_list (pv 1) (pe_un un_neg pe_int) (fun _ _ => rfl)) pe_str (nomark _)) (pe_slice sl_list (pv 1) po_none (po_some (pe_un un_neg pe_int)))
        (pe_op op_sub (pe_callB call_len (by rfl) T.n_len (by decide +kernel) (pa_cons (pv 1) pa_nil)) pe_int))))), ?_⟩
    cases tx with
    | none =>
      have hv : v = .non ∨ v = .int 5 := hv
      rcases hv with rfl | rfl
      · exact ⟨_, rfl, "NoneType", false, .base .non, by decide +kernel, false, rfl, iteT (iteT (hQ (.int 0) H (Gr.refl t0) rfl))⟩
      · exact ⟨_, rfl, "int", false, .base (.int 5), by decide +kernel, false, rfl, iteT (iteT (hQ (.int 0) H (Gr.refl t0) rfl))⟩
    | some l =>
      obtain rfl : v = sV l := hv
      have hl := hz l rfl
      refine ⟨_, rfl, "str", true, .base (.str _), by decide +kernel, true, rfl, iteF ⟨_, rfl, rfl, _, rfl, ?_⟩⟩
      have e0 : decide (sV l = V.str ("" : Str)) = decide (l = []) := by
        rw [s_none]
        exact str_eq l []
      rw [e0]
      by_cases h0 : l = []
      · rw [decide_eq_true h0]
        refine iteT (hQ (.int 0) H (Gr.refl t0) ?_)
        rw [h0]
        rfl
      · rw [decide_eq_false h0]
        refine iteF ⟨_, rfl, l, rfl, hl, fun D nD => ?_⟩
        have g1 : Gr K H (upd H D (.lst ((cut 10 l).map sV))) := (Gr.refl t0).new nD
        have hne : cut 10 l ≠ [] := cut_ne 10 l
        obtain ⟨l0, u, eu⟩ : ∃ l0 u, cut 10 l = l0 ++ [u] := ⟨(cut 10 l).dropLast, (cut 10 l).getLast hne, (List.dropLast_concat_getLast hne).symm⟩
        have hat : atI ((cut 10 l).map sV) (-1) = some (sV u) := by
          rw [eu, List.map_append]
          exact atI_last (l0.map sV) (sV u)
        refine ⟨_, rfl, 1, rfl, D, _, -1, sV u, rfl, rfl, .of upd_same, hat, rfl, _, rfl, ?_⟩
        have e1 : decide (sV u = V.str ("" : Str)) = decide (u = []) := by
          rw [s_none]
          exact str_eq u []
        rw [e1]
        have hc := cut_last 10 l h0
        rw [eu] at hc
        have hR : linesR (some l) = if u = [] then .ok (cut 10 l).dropLast else .error ((cut 10 l).length - 1) := by
          unfold linesR
          dsimp only
          rw [if_neg h0]
          by_cases hu : u = []
          · rw [if_pos hu, if_pos (hc.mp (by rw [hu]; simp))]
          · rw [if_neg hu, if_neg fun z => by
              have := hc.mpr z
              simp at this
              exact hu this]
        by_cases hu : u = []
        · rw [decide_eq_true hu]
          refine iteT ⟨_, rfl, 1, rfl, _, rfl, D, _, rfl, .of upd_same, fun D2 nD2 => hQ _ _ (g1.new nD2) ?_⟩
          rw [hR, if_pos hu]
          refine ⟨D2, rfl, ?_⟩
          rw [upd_same, cut_butlast _ (by simp [hne]), List.map_dropLast]
        · rw [decide_eq_false hu]
          refine iteF ⟨_, rfl, _, _, rfl, .inl ⟨_, .of upd_same, rfl⟩, _, _, rfl, rfl, hQ _ _ g1 ?_⟩
          rw [hR, if_neg hu]
          show V.int _ = V.int _
          congr 1
          have := List.length_pos_iff.mpr hne
          rw [List.length_map]
          omega
/-! ### _law_box_in -/
theorem dp_ints {K : PySem.W.Frag} {H : Hp} : ∀ zs : List Int, DpAll K H (zs.map V.int) (zs.map PyData.int)
  | [] => .nil
  | z :: zs => .cons (.int z) (dp_ints zs)
theorem canLay_ints : ∀ zs : List Int, PyData.canLayAll0 (zs.map PyData.int) = true
  | [] => rfl
  | z :: zs => by
    show (true && PyData.canLayAll0 (zs.map PyData.int)) = true
    rw [canLay_ints zs]
    rfl
theorem depth_ints : ∀ zs : List Int, PyData.depthAll (zs.map PyData.int) = 0
  | [] => by
    show PyData.depthAll [] = 0
    simp [PyData.depthAll]
  | z :: zs => by
    have := depth_ints zs
    show PyData.depthAll (.int z :: zs.map PyData.int) = 0
    simp only [PyData.depthAll, PyData.depth] at this ⊢
    omega
theorem shaped_ints (zs : List Int) : SeqAt.shaped (.list (zs.map PyData.int)) = true := by
  unfold SeqAt.shaped
  rw [Bool.and_eq_true]
  refine ⟨canLay_ints zs, decide_eq_true ?_⟩
  have := depth_ints zs
  simp only [PyData.depth]
  omega
theorem eqv_ints : ∀ xs ys : List Int, PyData.eqvAll (xs.map PyData.int) (ys.map PyData.int) = decide (xs = ys)
  | [], [] => rfl
  | [], y :: ys => rfl
  | x :: xs, [] => rfl
  | x :: xs, y :: ys => by
    show (PyData.eqv (.int x) (.int y) && PyData.eqvAll (xs.map PyData.int) (ys.map PyData.int)) = _
    rw [eqv_ints xs ys]
    show ((x == y) && decide (xs = ys)) = decide (x :: xs = y :: ys)
    rw [Bool.eq_iff_iff]
    simp
theorem nV_int (ns : List Nat) : ns.map nV = (ns.map fun n : Nat => (n : Int)).map V.int := by
  rw [List.map_map]
  rfl
/-- a line and its words -/
def LineOk (l : List Nat) : Prop := Asc l ∧ l.length ≤ 90000 ∧ (wordsOf l).length ≤ 50
theorem asc_cut {c : Nat} : ∀ {l : List Nat}, Asc l → ∀ u ∈ cut c l, Asc u
  | [], _, u, hu => by
    have e : cut c ([] : List Nat) = [[]] := rfl
    rw [e] at hu
    rw [List.mem_singleton.mp hu]
    intro x hx
    cases hx
  | x :: r, h, u, hu => by
    have hr : Asc r := fun y hy => h y (List.mem_cons_of_mem _ hy)
    by_cases hx : x = c
    · subst hx
      rw [cut_hit] at hu
      rcases List.mem_cons.mp hu with e | hu
      · rw [e]
        intro y hy
        cases hy
      · exact asc_cut hr u hu
    · obtain ⟨p, ps, e⟩ := List.exists_cons_of_ne_nil (cut_ne c r)
      rw [cut_miss hx e] at hu
      rcases List.mem_cons.mp hu with e2 | hu
      · rw [e2]
        intro y hy
        rcases List.mem_cons.mp hy with e3 | hy
        · rw [e3]
          exact h x List.mem_cons_self
        · exact asc_cut hr p (by rw [e]; exact List.mem_cons_self) y hy
      · exact asc_cut hr u (by rw [e]; exact List.mem_cons_of_mem _ hu)
def spLBoxIn (K : PySem.W.Frag) : Sp := fun vs H Q _ => ∃ (l : List Nat), vs = [sV l] ∧ LineOk l ∧ TabOk K H ∧ ∀ v H', Gr K H H' → BoxV K H' v (boxIn l) → Q v H'
abbrev nmLBI : List Str := ["_law_line_here", "_law_words", "_law_found"]
theorem scLBI : FnScope nmLBI ["_law_line_here"] (defScope sLBoxIn) := ⟨rfl, rfl, rfl, by decide +kernel, rfl, by decide +kernel, by decide +kernel⟩
theorem cl_law_box_in (T : Fx K mg base) : Cl P w K mg base 2 "_law_box_in" (spLBoxIn K) := by
  refine cl_of T.d_law_box_in T.g_law_box_in scLBI (fun _ _ _ _ _ _ us hl => match us, hl with | [_], _ => rfl) (fun vs H Q E h => ?_) (fun A outer s H vs Q E hr h => ?_)
  · obtain ⟨l, rfl, _⟩ := h
    rfl
  · obtain ⟨l, rfl, hok, t0, hQ⟩ := h
    refine ⟨_, pss_cons (ps_set (i := 1) scLBI.nd rfl (.inl rfl) (pe_spl s_blank (by decide) (pv 0)))
      (pss_cons (ps_set (i := 2) scLBI.nd rfl (.inl rfl) (pe_cl (cl_law_numbers T) hr (by decide) (by rfl) quiet (pa_cons (pe_slice sl_list (pv 1) (po_some pe_int) po_none) pa_nil)))
      (pss_cons (ps_if (PW.pt (pw_or (pt_cmpR op_ne (pe_ix ix_list (pv 1) pe_int (fun _ _ => rfl)) pe_str (nomark _)) (pw_or (pt_cmpR op_isN (pv 2) pe_non (nomark _)) (pw_or (pt_not (pt_chain op_le op_le pe_int (pe_callB call_len (by rfl) T.n_len (by decide +kernel) (pa_cons (pv 2) pa_nil)) pe_int))
          (pw_or1 (pt_cmpR (op_neD hr.units) (pe_callTy call_list_of (by rfl) T.n_list (by decide +kernel) (pa_cons (pv 2) pa_nil)) (pe_callB cr_sortedTu (by rfl) T.n_sorted (by decide +kernel) (pa_cons (pv 2) pa_nil)) (nomark _)))))))
        (pss_one (ps_ret pe_non)) pss_nil)
      (pss_one (ps_ret (pe_ifExp (PW.pt (pw_and (pt_cmpR op_le pe_int (pe_ix ix_tup (pv 2) pe_int (fun _ _ => rfl)) (nomark _)) (pw_and1 (pt_cmpR op_le (pe_ix ix_tup (pv 2) (pe_un un_neg pe_int) (fun _ _ => rfl)) pe_int (nomark _))))) (pv 2) pe_non))))), ?_⟩
    obtain ⟨ha, hz, _⟩ := hok
    obtain ⟨h, t, ew⟩ : ∃ h t, wordsOf l = h :: t := List.exists_cons_of_ne_nil (cut_ne 32 l)
    have ew' : cut 32 l = h :: t := ew
    obtain ⟨sz1, sz2⟩ := words_small (l := l) (by omega)
    rw [ew] at sz1 sz2
    rw [List.length_cons] at sz1
    have hB : boxIn l = match numsW t with
        | none => none
        | some ns => if h = wBox ∧ isBox ns = true then some ns else none := by
      unfold boxIn
      rw [ew] <;> rfl
    refine ⟨_, rfl, l, rfl, by omega, fun D nD => ?_⟩
    have g1 : Gr K H (upd H D (.lst ((cut 32 l).map sV))) := (Gr.refl t0).new nD
    have hD : (upd H D (.lst ((cut 32 l).map sV))) D = some (.lst (sV h :: t.map sV)) := by rw [upd_same, ew']; rfl
    refine ⟨_, rfl, 1, rfl, D, _, rfl, .of hD, fun D2 nD2 => ?_⟩
    have g2 := g1.new (o := .lst (cutV (sV h :: t.map sV) (some 1) none)) nD2
    have htl : t.length ≤ 100000 := by omega
    refine ⟨D2, t, rfl, .of (by rw [upd_same, cut_tail]; rfl), fun u hu => ⟨sz2 u (List.mem_cons_of_mem _ hu), asc_cut ha u (by rw [ew']; exact List.mem_cons_of_mem _ hu)⟩, htl, g2.tab, fun v H3 g3' hv => ?_⟩
    have g3 := g2.trans g3'
    have hD3 : H3 D = some (.lst (sV h :: t.map sV)) := g3'.ext _ _ (by rw [upd_ne (ne_of_none hD nD2)]; exact hD) (fun _ z => nomatch z)
    have no : boxIn l = none → ∀ H', Gr K H3 H' → Q .non H' := fun e H' g' => hQ _ H' (g3.trans g') (by rw [e]; rfl)
    refine ⟨_, rfl, D, _, 0, sV h, rfl, rfl, .of hD3, atI_nat (j := 0) rfl, rfl, _, rfl, ?_⟩
    have e1 : (!decide (sV h = V.str ("box" : Str))) = !decide (h = wBox) := by
      rw [s_box]
      exact congrArg not (str_eq h wBox)
    rw [e1]
    by_cases hh : h = wBox
    · rw [decide_eq_true hh]
      refine iteF ⟨_, rfl, rfl, _, rfl, ?_⟩
      cases eN : numsW t with
      | none =>
        rw [eN] at hv hB
        obtain rfl : v = .non := hv
        exact iteT (no hB H3 (Gr.refl g3.tab))
      | some ns =>
        rw [eN] at hv hB
        have hB : boxIn l = if isBox ns = true then some ns else none := by
          rw [hB]
          show (if h = wBox ∧ isBox ns = true then some ns else none) = _
          by_cases hb : isBox ns = true
          · rw [if_pos hb, if_pos ⟨hh, hb⟩]
          · rw [if_neg hb, if_neg fun z => hb z.2]
        obtain ⟨a, rfl, hT⟩ := (show TupN K H3 v ns from hv)
        have nob : isBox ns ≠ true → ∀ H', Gr K H3 H' → Q .non H' := fun hb => no (by rw [hB, if_neg hb])
        have hlen : (ns.map nV).length = ns.length := List.length_map _
        refine iteF ⟨_, rfl, _, _, rfl, .inr ⟨_, hT, rfl⟩, _, _, rfl, rfl, _, rfl, ?_⟩
        by_cases h1 : 1 ≤ ns.length
        · have e2 : decide ((1 : Int) ≤ ((ns.map nV).length : Int)) = true := decide_eq_true (by rw [hlen]; omega)
          rw [e2]
          refine iteT ⟨_, _, rfl, rfl, _, rfl, ?_⟩
          by_cases h2 : ns.length ≤ 10
          · have e3 : decide (((ns.map nV).length : Int) ≤ 10) = true := decide_eq_true (by rw [hlen]; omega)
            rw [e3]
            refine iteF ⟨_, rfl, a, _, rfl, .inr hT, fun L nL => ?_⟩
            have g4 := (Gr.refl g3.tab).new (o := .lst (ns.map nV)) nL
            refine ⟨_, rfl, a, ns.map (fun n : Nat => (n : Int)), rfl, by rw [← nV_int]; exact seqT_ext g4.ext hT, by rw [List.length_map]; omega, fun zs p hp hs np => ?_⟩
            have g5 := g4.new (o := .lst (zs.map V.int)) np
            have hL5 : (upd (upd H3 L (.lst (ns.map nV))) p (.lst (zs.map V.int))) L = some (.lst ((ns.map fun n : Nat => (n : Int)).map V.int)) := by
              rw [upd_ne (ne_of_none upd_same np), upd_same, nV_int]
            refine ⟨_, _, .lst (.of hL5) (dp_ints _), .lst (.of upd_same) (dp_ints _), shaped_ints _, shaped_ints _, _, rfl, ?_⟩
            have e4 : PyData.eqv (.list ((ns.map fun n : Nat => (n : Int)).map PyData.int)) (.list (zs.map PyData.int)) = decide (ns.Pairwise (· ≤ ·)) := by
              refine (eqv_ints _ _).trans ?_
              obtain ⟨gs, rfl, hpm, hgs⟩ := nat_perm hp hs
              rw [Bool.eq_iff_iff, decide_eq_true_eq, decide_eq_true_eq]
              constructor
              · intro e
                have e9 : ns = gs := by
                  have := congrArg (List.map Int.toNat) e
                  rw [List.map_map, List.map_map] at this
                  have e10 : (Int.toNat ∘ fun n : Nat => (n : Int)) = id := by
                    funext n
                    simp
                  rw [e10, List.map_id, List.map_id] at this
                  exact this
                rw [e9]
                exact hgs
              · intro hn
                rw [List.Perm.eq_of_pairwise (fun _ _ _ _ a b => Nat.le_antisymm a b) hn hgs hpm.symm]
            rw [e4]
            by_cases hp2 : ns.Pairwise (· ≤ ·)
            · rw [decide_eq_true hp2]
              have hne : ns ≠ [] := fun z => by rw [z] at h1; exact absurd h1 (by decide)
              obtain ⟨x, q, rfl⟩ : ∃ x q, ns = x :: q := List.exists_cons_of_ne_nil hne
              obtain ⟨l0, y, ey⟩ : ∃ l0 y, x :: q = l0 ++ [y] := ⟨(x :: q).dropLast, (x :: q).getLast hne, (List.dropLast_concat_getLast hne).symm⟩
              have hT5 := seqT_ext g5.ext hT
              have hlast : atI ((x :: q).map nV) (-1) = some (nV y) := by
                rw [ey, List.map_append]
                exact atI_last (l0.map nV) (nV y)
              have hle : ∀ n ∈ x :: q, x ≤ n ∧ n ≤ y := fun n hn => by
                constructor
                · rcases List.mem_cons.mp hn with e | hn
                  · rw [e]; exact Nat.le_refl _
                  · exact (List.pairwise_cons.mp hp2).1 n hn
                · rw [ey] at hn hp2
                  rcases List.mem_append.mp hn with hn | hn
                  · exact (List.pairwise_append.mp hp2).2.2 n hn y List.mem_cons_self
                  · rw [List.mem_singleton.mp hn]; exact Nat.le_refl _
              have hy : y ∈ x :: q := by rw [ey]; simp
              have hx : x ∈ x :: q := List.mem_cons_self
              have isb : isBox (x :: q) = (decide (1 ≤ x) && decide (y ≤ 1000)) := by
                unfold isBox
                rw [decide_eq_true h1, decide_eq_true h2, decide_eq_true hp2, Bool.true_and, Bool.true_and, Bool.and_true, Bool.eq_iff_iff, List.all_eq_true]
                simp only [Bool.and_eq_true, decide_eq_true_eq]
                constructor
                · intro h
                  exact ⟨(h x hx).1, (h y hy).2⟩
                · rintro ⟨h3, h4⟩ n hn
                  have := hle n hn
                  omega
              refine iteF ⟨_, rfl, a, _, 0, nV x, rfl, rfl, hT5, atI_nat (j := 0) rfl, _, _, rfl, rfl, _, rfl, ?_⟩
              by_cases hx1 : 1 ≤ x
              · have e6 : decide ((1 : Int) ≤ (x : Int)) = true := decide_eq_true (by omega)
                rw [e6]
                refine iteT ⟨_, rfl, 1, rfl, a, _, -1, nV y, rfl, rfl, hT5, hlast, _, _, rfl, rfl, _, rfl, ?_⟩
                by_cases hy1 : y ≤ 1000
                · have e7 : decide ((y : Int) ≤ 1000) = true := decide_eq_true (by omega)
                  rw [e7]
                  refine iteT ⟨_, rfl, hQ _ _ (g3.trans g5) ?_⟩
                  rw [hB, isb, decide_eq_true hx1, decide_eq_true hy1]
                  exact ⟨a, rfl, hT5⟩
                · have e7 : decide ((y : Int) ≤ 1000) = false := decide_eq_false (by omega)
                  rw [e7]
                  exact iteF (nob (by rw [isb, decide_eq_false hy1, Bool.and_false]; exact Bool.false_ne_true) _ g5)
              · have e6 : decide ((1 : Int) ≤ (x : Int)) = false := decide_eq_false (by omega)
                rw [e6]
                exact iteF (iteF (nob (by rw [isb, decide_eq_false hx1, Bool.false_and]; exact Bool.false_ne_true) _ g5))
            · rw [decide_eq_false hp2]
              refine iteT (nob (fun z => ?_) _ g5)
              unfold isBox at z
              simp only [Bool.and_eq_true, decide_eq_true_eq] at z
              exact hp2 z.2.2.2
          · have e3 : decide (((ns.map nV).length : Int) ≤ 10) = false := decide_eq_false (by rw [hlen]; omega)
            rw [e3]
            exact iteT (nob (fun z => h2 (isBox_len z).2) H3 (Gr.refl g3.tab))
        · have e2 : decide ((1 : Int) ≤ ((ns.map nV).length : Int)) = false := decide_eq_false (by rw [hlen]; omega)
          rw [e2]
          exact iteF ⟨_, rfl, iteT (nob (fun z => h1 (isBox_len z).1) H3 (Gr.refl g3.tab))⟩
    · rw [decide_eq_false hh]
      refine iteT (no ?_ H3 (Gr.refl g3.tab))
      rw [hB]
      cases numsW t with
      | none => rfl
      | some ns => exact if_neg fun z => hh z.1
end
end Kt
set_option maxHeartbeats 4000000
/-! _law_order_in. -/
namespace Kt
open PySem PySem.Spec PyProof.Rows L2 SX Km
theorem in_words2 (wd : List Nat) : inV (.str (S wd)) [.str ("lose" : Str), .str ("find" : Str), .str ("weigh" : Str)] = isWord wd := by
  have e : ∀ a : List Nat, eqV (.str (S a)) (.str (S wd)) = decide (wd = a) := fun a => by
    show (S a == S wd) = decide (wd = a)
    rw [S_beq_eq]
    rw [Bool.eq_iff_iff, decide_eq_true_eq, decide_eq_true_eq]
    exact eq_comm
  unfold inV isWord
  rw [s_lose, s_find, s_weigh, List.any_cons, List.any_cons, List.any_cons, List.any_nil, e, e, e, Bool.or_false]
  cases decide (wd = wLose) <;> cases decide (wd = wFind) <;> rfl
section
variable {P : Program} {w : World} {K : PySem.W.Frag} {mg : Str → Option Value} {base : Heap}
def spLOrdIn (K : PySem.W.Frag) : Sp := fun vs H Q _ => ∃ (b : Addr) (bs : List V) (l : List Nat), vs = [.ref b, sV l] ∧ SqT K H b bs ∧ bs.length ≤ 10000 ∧ LineOk l ∧ TabOk K H ∧ ∀ v H', Gr K H H' → OrdV K H' v (ordIn bs.length l) → Q v H'
abbrev nmLOI : List Str := ["_law_box_here", "_law_line_here", "_law_words", "_law_found"]
theorem scLOI : FnScope nmLOI ["_law_box_here", "_law_line_here"] (defScope sLOrderIn) := ⟨rfl, rfl, rfl, by decide +kernel, rfl, by decide +kernel, by decide +kernel⟩
theorem cl_law_order_in (T : Fx K mg base) : Cl P w K mg base 2 "_law_order_in" (spLOrdIn K) := by
  refine cl_of T.d_law_order_in T.g_law_order_in scLOI (fun _ _ _ _ _ _ us hl => match us, hl with | [_, _], _ => rfl) (fun vs H Q E h => ?_) (fun A outer s H vs Q E hr h => ?_)
  · obtain ⟨b, bs, l, rfl, _⟩ := h
    rfl
  · obtain ⟨b, bs, l, rfl, hb, hbz, hok, t0, hQ⟩ := h
    refine ⟨_, pss_cons (ps_set (i := 2) scLOI.nd rfl (.inl rfl) (pe_spl s_blank (by decide) (pv 1)))
      (pss_cons (ps_set (i := 3) scLOI.nd rfl (.inl rfl) (pe_cl (cl_law_numbers T) hr (by decide) (by rfl) quiet (pa_cons (pe_slice sl_list (pv 2) (po_some pe_int) po_none) pa_nil)))
      (pss_cons (ps_if (PW.pt (pw_or (pt_cmpR op_isN (pv 3) pe_non (nomark _)) (pw_or (pt_cmpR op_ne (pe_callB call_len (by rfl) T.n_len (by decide +kernel) (pa_cons (pv 3) pa_nil)) pe_int (nomark _))
          (pw_or1 (pt_cmpR op_notIn_seq (pe_ix ix_list (pv 2) pe_int (fun _ _ => rfl)) (pe_lst (pa_cons pe_str (pa_cons pe_str (pa_cons pe_str pa_nil)))) (by rfl))))))
        (pss_one (ps_ret pe_non)) pss_nil)
      (pss_one (ps_ret (pe_ifExp (pt_cmpR op_lt (pe_ix ix_tup (pv 3) pe_int (fun _ _ => rfl)) (pe_ifExp (pt_cmpR op_eq (pe_ix ix_list (pv 2) pe_int (fun _ _ => rfl)) pe_str (nomark _)) pe_int (pe_callB call_len (by rfl) T.n_len (by decide +kernel) (pa_cons (pv 0) pa_nil))) (nomark _))
        (pe_tup (pa_cons (pe_ix ix_list (pv 2) pe_int (fun _ _ => rfl)) (pa_cons (pe_ix ix_tup (pv 3) pe_int (fun _ _ => rfl)) pa_nil))) pe_non))))), ?_⟩
    obtain ⟨ha, hz, _⟩ := hok
    obtain ⟨h, t, ew⟩ : ∃ h t, wordsOf l = h :: t := List.exists_cons_of_ne_nil (cut_ne 32 l)
    have ew' : cut 32 l = h :: t := ew
    obtain ⟨sz1, sz2⟩ := words_small (l := l) (by omega)
    rw [ew] at sz1 sz2
    rw [List.length_cons] at sz1
    have hB : ordIn bs.length l = match numsW t with
        | some [n] => if isOrd bs.length (h, n) = true then some (h, n) else none
        | _ => none := by
      unfold ordIn
      rw [ew] <;> rfl
    refine ⟨_, rfl, l, rfl, by omega, fun D nD => ?_⟩
    have g1 : Gr K H (upd H D (.lst ((cut 32 l).map sV))) := (Gr.refl t0).new nD
    have hD : (upd H D (.lst ((cut 32 l).map sV))) D = some (.lst (sV h :: t.map sV)) := by rw [upd_same, ew']; rfl
    refine ⟨_, rfl, 1, rfl, D, _, rfl, .of hD, fun D2 nD2 => ?_⟩
    have g2 := g1.new (o := .lst (cutV (sV h :: t.map sV) (some 1) none)) nD2
    have htl : t.length ≤ 100000 := by omega
    refine ⟨D2, t, rfl, .of (by rw [upd_same, cut_tail]; rfl), fun u hu => ⟨sz2 u (List.mem_cons_of_mem _ hu), asc_cut ha u (by rw [ew']; exact List.mem_cons_of_mem _ hu)⟩, htl, g2.tab, fun v H3 g3' hv => ?_⟩
    have g3 := g2.trans g3'
    have hD3 : H3 D = some (.lst (sV h :: t.map sV)) := g3'.ext _ _ (by rw [upd_ne (ne_of_none hD nD2)]; exact hD) (fun _ z => nomatch z)
    have no : ordIn bs.length l = none → ∀ H', Gr K H3 H' → Q .non H' := fun e H' g' => hQ _ H' (g3.trans g') (by rw [e]; rfl)
    refine ⟨_, rfl, rfl, _, rfl, ?_⟩
    cases eN : numsW t with
    | none =>
      rw [eN] at hv hB
      obtain rfl : v = .non := hv
      exact iteT (no hB H3 (Gr.refl g3.tab))
    | some ns =>
      rw [eN] at hv hB
      obtain ⟨a, rfl, hT⟩ := (show TupN K H3 v ns from hv)
      have hlen : (ns.map nV).length = ns.length := List.length_map _
      refine iteF ⟨_, rfl, _, _, rfl, .inr ⟨_, hT, rfl⟩, rfl, _, rfl, ?_⟩
      by_cases h1 : ns.length = 1
      · have e1 : (!decide (V.int (((ns.map nV).length : Nat) : Int) = V.int 1)) = false := by
          simp [h1]
        rw [e1]
        obtain ⟨n, rfl⟩ := List.length_eq_one_iff.mp h1
        have hB : ordIn bs.length l = if isOrd bs.length (h, n) = true then some (h, n) else none := hB
        refine iteF ⟨_, rfl, D, _, 0, sV h, rfl, rfl, .of hD3, atI_nat (j := 0) rfl, by show 3 ≤ sizeLine; decide, fun L nL => ?_⟩
        have g4 := (Gr.refl g3.tab).new (o := .lst [.str ("lose" : Str), .str ("find" : Str), .str ("weigh" : Str)]) nL
        refine ⟨L, _, rfl, .inl (.of upd_same), rfl, rfl, _, rfl, ?_⟩
        show (if (!inV (V.str (S h)) [.str ("lose" : Str), .str ("find" : Str), .str ("weigh" : Str)]) = true then _ else _)
        rw [in_words2]
        cases hw : isWord h with
        | false =>
          refine iteT (no ?_ _ g4)
          have e2 : isOrd bs.length (h, n) = false := by
            unfold isOrd
            unfold isWord at hw
            rw [hw, Bool.false_and]
          rw [hB, e2]
          rfl
        | true =>
          have hT4 := seqT_ext g4.ext hT
          have hD4 : (upd H3 L (.lst [.str ("lose" : Str), .str ("find" : Str), .str ("weigh" : Str)])) D = some (.lst (sV h :: t.map sV)) := by rw [upd_ne (ne_of_none hD3 nL)]; exact hD3
          refine iteF ⟨_, rfl, a, _, 0, nV n, rfl, rfl, hT4, atI_nat (j := 0) rfl, _, rfl, D, _, 0, sV h, rfl, rfl, .of hD4, atI_nat (j := 0) rfl, rfl, _, rfl, ?_⟩
          have e3 : decide (sV h = V.str ("weigh" : Str)) = decide (h = wWeigh) := by
            rw [s_weigh]
            exact str_eq h wWeigh
          rw [e3]
          have hw2 : (decide (h = wFind) || (decide (h = wLose) || decide (h = wWeigh))) = true := hw
          have hO : isOrd bs.length (h, n) = decide (n < (if h = wWeigh then 10001 else bs.length)) := by
            unfold isOrd
            rw [hw2, Bool.true_and]
          have yes : ∀ m : Nat, (if h = wWeigh then 10001 else bs.length) = m → n < m → ∀ p, (upd H3 L (.lst [.str ("lose" : Str), .str ("find" : Str), .str ("weigh" : Str)])) p = none → Q (.ref p) (upd (upd H3 L (.lst [.str ("lose" : Str), .str ("find" : Str), .str ("weigh" : Str)])) p (.tup [sV h, nV n])) := fun m hm hn p np => by
            rw [hm, decide_eq_true hn] at hO
            refine hQ _ _ (g3.trans (g4.new np)) ?_
            rw [hB, hO, if_pos rfl]
            exact ⟨p, rfl, .inl (.inl upd_same)⟩
          have neg : ∀ m : Nat, (if h = wWeigh then 10001 else bs.length) = m → ¬ n < m → Q .non (upd H3 L (.lst [.str ("lose" : Str), .str ("find" : Str), .str ("weigh" : Str)])) := fun m hm hn => by
            rw [hm, decide_eq_false hn] at hO
            exact no (by rw [hB, hO]; rfl) _ g4
          by_cases hc : h = wWeigh
          · rw [decide_eq_true hc]
            refine iteT ⟨_, _, rfl, rfl, _, rfl, ?_⟩
            have hm : (if h = wWeigh then 10001 else bs.length) = 10001 := if_pos hc
            by_cases hn : n < 10001
            · have e5 : decide ((n : Int) < 10001) = true := decide_eq_true (by omega)
              rw [e5]
              exact iteT ⟨_, rfl, D, _, 0, sV h, rfl, rfl, .of hD4, atI_nat (j := 0) rfl, _, rfl, a, _, 0, nV n, rfl, rfl, hT4, atI_nat (j := 0) rfl, by show 2 ≤ sizeLine; decide, yes _ hm hn⟩
            · have e5 : decide ((n : Int) < 10001) = false := decide_eq_false (by omega)
              rw [e5]
              exact iteF (neg _ hm hn)
          · rw [decide_eq_false hc]
            refine iteF ⟨_, rfl, _, _, rfl, .inr ⟨_, seqT_ext g4.ext (seqT_ext g3.ext hb), rfl⟩, _, _, rfl, rfl, _, rfl, ?_⟩
            have hm : (if h = wWeigh then 10001 else bs.length) = bs.length := if_neg hc
            by_cases hn : n < bs.length
            · have e5 : decide ((n : Int) < (bs.length : Int)) = true := decide_eq_true (by omega)
              rw [e5]
              exact iteT ⟨_, rfl, D, _, 0, sV h, rfl, rfl, .of hD4, atI_nat (j := 0) rfl, _, rfl, a, _, 0, nV n, rfl, rfl, hT4, atI_nat (j := 0) rfl, by show 2 ≤ sizeLine; decide, yes _ hm hn⟩
            · have e5 : decide ((n : Int) < (bs.length : Int)) = false := decide_eq_false (by omega)
              rw [e5]
              exact iteF (neg _ hm hn)
      · have e1 : (!decide (V.int (((ns.map nV).length : Nat) : Int) = V.int 1)) = true := by
          simp [h1]
          omega
        rw [e1]
        refine iteT (no ?_ H3 (Gr.refl g3.tab))
        rw [hB]
        match ns, h1 with
        | [], _ => rfl
        | [x], z => exact absurd rfl z
        | x :: y :: q, _ => rfl
end
end Kt
set_option maxHeartbeats 4000000
/-! _law_read. -/
namespace Kt
open PySem PySem.Spec PyProof.Rows L2 SX Km
/-- a reading may be made stricter -/
theorem pss_wk {X : Cx} {st : List Stmt} {t t' : TS} (h : PSs X st t) (hm : ∀ D σ H, t' D σ H → t D σ H) : PSs X st t' := ⟨fun pins s σ H D I hq => h.run pins s σ H D I (hm D σ H hq)⟩
inductive Kind where
  | box | loss | orders
def kStr : Kind → Str
  | .box => "box"
  | .loss => "loss"
  | .orders => "orders"
def Kind.isL : Kind → Bool
  | .loss => true
  | _ => false
def Kind.isO : Kind → Bool
  | .orders => true
  | _ => false
theorem k_loss (k : Kind) : decide (V.str (kStr k) = V.str ("loss" : Str)) = k.isL := by
  cases k <;> decide +kernel
theorem k_orders (k : Kind) : (!decide (V.str (kStr k) = V.str ("orders" : Str))) = !k.isO := by
  cases k <;> decide +kernel
inductive Res where
  | box (ns : List Nat) | ords (r : List Nat × List Ord) | bad (i : Nat)
def ResV (K : PySem.W.Frag) (H : Hp) (v : V) : Res → Prop
  | .box ns => TupN K H v ns
  | .ords r => ReadV K H v r
  | .bad i => ∃ a, v = .ref a ∧ SqT K H a [.str ("BadLine" : Str), nV i]
def restK (o : Option (List Nat)) (k : Kind) (r : List (List Nat)) : Res := match o with
  | none => .bad 0
  | some ns => if k.isO = true then (match ordsR ns.length 1 r with
      | .error i => .bad i
      | .ok os => .ords (ns, os)) else if r = [] then .box ns else .bad 1
def firstK (bs : List Nat) (k : Kind) (l : List Nat) : Option (List Nat) := if k.isL = true then lossIn bs.length l else boxIn l
def readK (bs : List Nat) (k : Kind) (tx : Option (List Nat)) : Res := match linesR tx with
  | .error i => .bad i
  | .ok [] => .bad 0
  | .ok (l :: r) => restK (firstK bs k l) k r
section
variable {P : Program} {w : World} {K : PySem.W.Frag} {mg : Str → Option Value} {base : Heap}
abbrev nmLR : List Str := ["_law_box_here", "_law_text", "_law_kind", "_law_lines_here", "_law_found", "_law_words", "_law_first", "_law_good", "_law_at", "_law_order"]
theorem scLR : FnScope nmLR ["_law_box_here", "_law_text", "_law_kind"] (defScope sLRead) := ⟨rfl, rfl, rfl, by decide +kernel, rfl, by decide +kernel, by decide +kernel⟩
def tRest (K : PySem.W.Frag) (b : Addr) (v : V) (k : Kind) : TS := fun D σ H => ∃ (Hb : Hp) (y5 y7 : Option V) (vf : V) (o : Option (List Nat)) (Dl F : Addr) (l : List Nat) (r : List (List Nat)), σ = [some (.ref b), some v, some (.str (kStr k)), some (.ref Dl), some (.ref F), y5, some vf, y7, none, none] ∧ Gr K Hb H ∧ Hb F = none ∧
  H Dl = some (.lst ((l :: r).map sV)) ∧ H F = some (.lst []) ∧ Dl ≠ F ∧ BoxV K H vf o ∧ (∀ ns, o = some ns → ns.length ≤ 10000) ∧ r.length ≤ 90000 ∧ (∀ u ∈ r, LineOk u) ∧ ∀ v' H', Gr K Hb H' → ResV K H' v' (restK o k r) → D.rt v' H'
theorem rest_ok (T : Fx K mg base) {j : Nat} {A : Around} {outer : List Env} {s : Shared} {H0 : Hp} {E : XK} (hr : Room j (A.deeper (envOfC "_law_read" (defScope sLRead) s.heap.objs.size (He.ga K "_law_read") (.ref (He.cT K ("_law_read", none)).1)))) (hj : 2 ≤ j) (b : Addr) (v : V) (k : Kind) :
    PSs (cxOf (L2.CX P w) P w K mg base nmLR "_law_read" (defScope sLRead) (He.ga K "_law_read") (.ref (He.cT K ("_law_read", none)).1) A outer s H0 E) ((defBody sLRead).drop 3) (tRest K b v k) := by
  refine pss_wk (pss_cons (ps_if (pt_cmpR op_isN (pv 6) pe_non (nomark _)) (pss_one (ps_ret (pe_tup (pa_cons pe_str (pa_cons pe_int pa_nil))))) pss_nil)
    (pss_cons (ps_if (pt_cmpR op_ne (pv 2) pe_str (nomark _)) (pss_one (ps_ret (pe_ifExp (pt_cmpR op_eq (pe_callB call_len (by rfl) T.n_len (by decide +kernel) (pa_cons (pv 3) pa_nil)) pe_int (nomark _)) (pv 6) (pe_tup (pa_cons pe_str (pa_cons pe_int pa_nil)))))) pss_nil)
    (pss_cons (ps_for (passes_of rfl) rfl (pi_range2 (by rfl) T.n_range (pa_cons pe_int (pa_cons (pe_callB call_len (by rfl) T.n_len (by decide +kernel) (pa_cons (pv 3) pa_nil)) pa_nil))) (pg_name (i := 8) scLR.nd rfl (.inl rfl))
      (pss_cons (ps_set (i := 9) scLR.nd rfl (.inl rfl) (pe_cl (cl_law_order_in T) hr hj (by rfl) quiet (pa_cons (pv 6) (pa_cons (pe_ix ix_list (pv 3) (pv 8) (fun _ _ => rfl)) pa_nil))))
      (pss_cons (ps_if (PW.pt (pw_or (pt_cmpR op_isN (pv 9) pe_non (nomark _)) (pw_or1 (pt_cmpR op_gt (pv 8) pe_int (nomark _)))))
        (pss_one (ps_ret (pe_tup (pa_cons pe_str (pa_cons (pv 8) pa_nil))))) pss_nil)
      (pss_one (ps_expr (pe_bm PySem.F.plainAttrs_list PySem.F.slot_list_append PySem.F.type_list_append mt_append (pv 4) (pa_cons (pv 9) pa_nil)))))))
    (pss_one (ps_ret (pe_tup (pa_cons (pv 6) (pa_cons (pe_callTy call_tuple_of (by rfl) T.n_tuple (by decide +kernel) (pa_cons (pv 4) pa_nil)) pa_nil)))))))) (fun D σ H h => ?_)
  obtain ⟨Hb, y5, y7, vf, o, Dl, F, l, r, rfl, g0, nF, hD, hF, nDF, hb, hnl, hrl, hok, hQ⟩ := h
  have h2 : 2 ≤ sizeLine := by decide
  refine ⟨_, rfl, rfl, _, rfl, ?_⟩
  cases o with
  | none =>
    obtain rfl : vf = .non := hb
    exact iteT ⟨h2, fun p np => hQ _ _ (g0.new np) ⟨p, rfl, .inl (.inl upd_same)⟩⟩
  | some ns =>
    obtain ⟨b2, rfl, hB⟩ := (show TupN K H vf ns from hb)
    have hnl := hnl ns rfl
    refine iteF ⟨_, rfl, rfl, _, rfl, ?_⟩
    rw [k_orders]
    have hR : restK (some ns) k r = if k.isO = true then (match ordsR ns.length 1 r with
      | .error i => .bad i
      | .ok os => .ords (ns, os)) else if r = [] then .box ns else .bad 1 := rfl
    rw [hR] at hQ
    cases hk : k.isO with
    | false =>
      rw [hk, if_neg Bool.false_ne_true] at hQ
      refine iteT ⟨_, rfl, _, _, rfl, .inl ⟨_, .of hD, rfl⟩, rfl, _, rfl, ?_⟩
      cases r with
      | nil =>
        exact iteT ⟨_, rfl, hQ _ H g0 ⟨b2, rfl, hB⟩⟩
      | cons u r =>
        have e1 : decide (V.int ((((l :: u :: r).map sV).length : Nat) : Int) = V.int 1) = false := by
          simp
          omega
        rw [e1]
        exact iteF ⟨h2, fun p np => hQ _ _ (g0.new np) ⟨p, rfl, .inl (.inl upd_same)⟩⟩
    | true =>
      rw [hk, if_pos rfl] at hQ
      refine iteF ⟨_, rfl, _, _, rfl, .inl ⟨_, .of hD, rfl⟩, 1, _, rfl, ⟨by decide, by decide, by simp; omega, by simp; omega⟩, ?_⟩
      have en : ((((l :: r).map sV).length : Int) - 1).toNat = r.length := by simp
      rw [en]
      refine for_range (fun i σ H3 => ∃ y8 y9 os vs, σ = [some (.ref b), some v, some (.str (kStr k)), some (.ref Dl), some (.ref F), y5, some (.ref b2), y7, y8, y9] ∧ Gr K Hb H3 ∧ H3 Dl = some (.lst ((l :: r).map sV)) ∧ SqT K H3 b2 (ns.map nV) ∧ H3 F = some (.lst vs) ∧ OrdsAt K H3 os vs ∧ os.length = i ∧ ordsR ns.length 1 r = ahead os (ordsR ns.length (1 + i) (r.drop i)))
        ⟨none, none, [], [], rfl, g0, hD, hB, hF, OrdsAt.nil, rfl, by rw [List.drop_zero]; cases ordsR ns.length 1 r <;> rfl⟩ (fun i σ H3 hi hP => ?_) (fun σ H3 hP => ?_)
      · obtain ⟨y8, y9, os, vs, rfl, gg, hD3, hB3, hF, hO, hl, hA⟩ := hP
        have hri : r[i]? = some r[i] := List.getElem?_eq_getElem hi
        have hdr : r.drop i = r[i] :: r.drop (i + 1) := List.drop_eq_getElem_cons hi
        refine ⟨_, rfl, _, rfl, _, rfl, Dl, _, _, sV r[i], rfl, rfl, .of hD3, ?_, b2, ns.map nV, r[i], rfl, hB3, by rw [List.length_map]; exact hnl, hok _ (List.getElem_mem hi), gg.tab, fun vo H4 g4' ho => ?_⟩
        · have e1 : (1 : Int) + (i : Int) = ((i + 1 : Nat) : Int) := by omega
          rw [e1]
          refine atI_nat ?_
          show (r.map sV)[i]? = _
          rw [List.getElem?_map, hri]
          rfl
        · have g4 := gg.trans g4'
          have hF4 : H4 F = some (.lst vs) := g4'.ext _ _ hF (fun _ z => nomatch z)
          have hO4 := hO.ext g4'.ext
          rw [List.length_map] at ho
          have bad : ordIn ns.length r[i] = none ∨ 200 < 1 + i → ∀ p, H4 p = none → D.rt (.ref p) (upd H4 p (.tup [.str ("BadLine" : Str), .int (1 + (i : Int))])) := fun hb p np => by
            have h1 : ordsR ns.length 1 r = .error (1 + i) := by
              rw [hA, hdr, ords_bad hb]
              rfl
            rw [h1] at hQ
            refine hQ _ _ (g4.new np) ⟨p, rfl, .inl (.inl ?_)⟩
            rw [upd_same]
            have e2 : nV (1 + i) = V.int (1 + (i : Int)) := by
              show V.int ((1 + i : Nat) : Int) = _
              congr 1
            rw [e2]
          cases eo : ordIn ns.length r[i] with
          | none =>
            rw [eo] at ho
            obtain rfl : vo = .non := ho
            exact ⟨_, rfl, rfl, _, rfl, iteT ⟨_, rfl, h2, fun p np => bad (.inl eo) p np⟩⟩
          | some o =>
            rw [eo] at ho
            obtain ⟨ao, rfl, hao⟩ := (show ∃ a, vo = .ref a ∧ SqT K H4 a [sV o.1, nV o.2] from ho)
            refine ⟨_, rfl, rfl, _, rfl, iteF ⟨_, rfl, _, _, rfl, rfl, _, rfl, ?_⟩⟩
            by_cases h5 : 200 < 1 + i
            · have e5 : decide ((1 : Int) + (i : Int) > 200) = true := decide_eq_true (by omega)
              rw [e5]
              exact iteT ⟨_, rfl, h2, fun p np => bad (.inr h5) p np⟩
            · have e5 : decide ((1 : Int) + (i : Int) > 200) = false := decide_eq_false (by omega)
              rw [e5]
              have hvl := hO4.len
              have hzz : 90001 ≤ sizeLine := by decide
              refine iteF ⟨_, rfl, .inl ⟨rfl, _, .of hF4⟩, _, rfl, F, vs, _, rfl, rfl, hF4, by omega, ?_⟩
              refine ⟨_, _, os ++ [o], vs ++ [.ref ao], rfl, gr_push nF ⟨_, hF4⟩ g4, ?_, seqT_extL (ExtL.upd hF4) (seqT_ext g4'.ext hB3), upd_same, ((hO4.extL (ExtL.upd hF4)).snoc (seqT_extL (ExtL.upd hF4) hao)), by rw [List.length_append, hl]; rfl, ?_⟩
              · rw [upd_ne nDF]
                exact g4'.ext _ _ hD3 (fun _ z => nomatch z)
              · rw [hA, hdr, ords_good eo h5, ahead_ahead]
                rfl
      · obtain ⟨y8, y9, os, vs, rfl, gg, hD3, hB3, hF, hO, hl, hA⟩ := hP
        rw [List.drop_length] at hA
        have h1 : ordsR ns.length 1 r = .ok os := by
          rw [hA]
          show Except.ok (os ++ []) = _
          rw [List.append_nil]
        rw [h1] at hQ
        refine ⟨_, rfl, _, rfl, F, vs, rfl, .inl ⟨.of hF, fun q nq => ⟨h2, fun p np => ?_⟩⟩⟩
        have g5 := gg.new (o := .tup vs) nq
        have g6 := g5.new (o := .tup [.ref b2, .ref q]) np
        have e6 := LamX.ExtN.of ((same_new (o := .tup vs) nq).trans (same_new (o := .tup [.ref b2, .ref q]) np))
        refine hQ _ _ g6 ⟨p, b2, q, vs, rfl, .inl (.inl upd_same), seqT_ext e6 hB3, .inl (.inl ?_), hO.ext e6⟩
        rw [upd_ne (ne_of_none upd_same np), upd_same]
end
end Kt
set_option maxHeartbeats 4000000
/-! _law_read, the whole. -/
namespace Kt
open PySem PySem.Spec PyProof.Rows L2 SX Km
theorem isLoss_is {m : Nat} (hm : 0 < m) (ns : List Nat) (x : Int) (hx : x ∈ (0 : Int) :: ns.map (fun n : Nat => (n : Int))) (hall : ∀ y, y ∈ (0 : Int) :: ns.map (fun n : Nat => (n : Int)) → y ≤ x) :
    isLoss m ns = (decide (ns.Pairwise (· < ·)) && decide (x < (m : Int))) := by
  unfold isLoss
  rw [Bool.eq_iff_iff]
  simp only [Bool.and_eq_true, List.all_eq_true, decide_eq_true_eq]
  constructor
  · rintro ⟨h1, h2⟩
    refine ⟨h2, ?_⟩
    rcases List.mem_cons.mp hx with e | hx
    · omega
    · obtain ⟨n, hn, rfl⟩ := List.mem_map.mp hx
      have := h1 n hn
      omega
  · rintro ⟨h1, h2⟩
    refine ⟨fun n hn => ?_, h1⟩
    have := hall (n : Int) (List.mem_cons_of_mem _ (List.mem_map.mpr ⟨n, hn, rfl⟩))
    omega
theorem set_sorted {ns : List Nat} {zs : List Int} (hs : zs.Pairwise (· < ·)) (hm : ∀ k : Int, k ∈ zs ↔ decide (k ∈ ns.map (fun n : Nat => (n : Int))) = true) :
    decide ((ns.map fun n : Nat => (n : Int)) = zs) = decide (ns.Pairwise (· < ·)) := by
  rw [Bool.eq_iff_iff, decide_eq_true_eq, decide_eq_true_eq]
  constructor
  · intro e
    rw [← e, List.pairwise_map] at hs
    exact hs.imp fun h => by omega
  · intro h
    have h1 : (ns.map fun n : Nat => (n : Int)).Pairwise (· < ·) := by
      rw [List.pairwise_map]
      exact h.imp fun h => by omega
    have n1 : (ns.map fun n : Nat => (n : Int)).Nodup := h1.imp fun h => by omega
    have n2 : zs.Nodup := hs.imp fun h => by omega
    have hp := (List.perm_ext_iff_of_nodup n1 n2).mpr fun a => by
      rw [hm a, decide_eq_true_eq]
    exact List.Perm.eq_of_pairwise (fun a b _ _ x y => by omega) h1 hs hp
section
variable {P : Program} {w : World} {K : PySem.W.Frag} {mg : Str → Option Value} {base : Heap}
def spLRead (K : PySem.W.Frag) : Sp := fun vs H Q _ => ∃ (b : Addr) (bs : List Nat) (v : V) (tx : Option (List Nat)) (k : Kind), vs = [.ref b, v, .str (kStr k)] ∧ SqT K H b (bs.map nV) ∧ isBox bs = true ∧ TxOk v tx ∧
  (∀ l, tx = some l → l.length ≤ 90000 ∧ ∀ u ∈ cut 10 l, LineOk u) ∧ TabOk K H ∧ ∀ v' H', Gr K H H' → ResV K H' v' (readK bs k tx) → Q v' H'
theorem lines_mem {tx : Option (List Nat)} {ls : List (List Nat)} (h : linesR tx = .ok ls) : ∃ l, tx = some l ∧ ∀ u ∈ ls, u ∈ cut 10 l := by
  cases tx with
  | none => cases h
  | some l =>
    refine ⟨l, rfl, ?_⟩
    unfold linesR at h
    dsimp only at h
    split at h
    · cases h
    · split at h
      · injection h with h
        subst h
        exact fun u hu => (List.dropLast_sublist _).subset hu
      · cases h
theorem boxIn_is {l : List Nat} {ns : List Nat} (e : boxIn l = some ns) : isBox ns = true := by
  unfold boxIn at e
  split at e
  · cases e
  · split at e
    · cases e
    · rename_i ns' _
      split at e
      · rename_i hc
        cases e
        exact hc.2
      · cases e
theorem cl_law_read (T : Fx K mg base) : Cl P w K mg base 3 "_law_read" (spLRead K) := by
  refine cl_of T.d_law_read T.g_law_read scLR (fun _ _ _ _ _ _ us hl => match us, hl with | [_, _, _], _ => rfl) (fun vs H Q E h => ?_) (fun A outer s H vs Q E hr h => ?_)
  · obtain ⟨b, bs, v, tx, k, rfl, _⟩ := h
    rfl
  · obtain ⟨b, bs, v, tx, k, rfl, hB, hb, hv, hz, t0, hQ⟩ := h
    refine ⟨_, pss_cons (ps_par (i := 3) (j := 4) rfl scLR.nd rfl rfl (by decide) rfl rfl (pa_cons (pe_cl (cl_law_lines T) hr (by decide) (by rfl) quiet (pa_cons (pv 1) pa_nil)) (pa_cons (pe_lst pa_nil) pa_nil)) (by rfl))
      (pss_cons (ps_if (pt_val (pe_is (T := "int") (by rfl) T.n_isinstance (by rfl) T.n_int (by decide +kernel) (pv 3))) (pss_one (ps_ret (pe_tup (pa_cons pe_str (pa_cons (pv 3) pa_nil))))) pss_nil)
      (pss_cons (ps_if (pt_cmpR op_eq (pv 2) pe_str (nomark _))
        (pss_cons (ps_set (i := 5) scLR.nd rfl (.inl rfl) (pe_spl s_blank (by decide) (pe_ix ix_list (pv 3) pe_int (fun _ _ => rfl))))
        (pss_cons (ps_set (i := 6) scLR.nd rfl (.inl rfl) (pe_cl (cl_law_numbers T) hr (by decide) (by rfl) quiet (pa_cons (pe_slice sl_list (pv 5) (po_some pe_int) po_none) pa_nil)))
        (pss_cons (ps_set (i := 7) scLR.nd rfl (.inl rfl) (pe_and (pe_cmpR op_eq (pe_ix ix_list (pv 5) pe_int (fun _ _ => rfl)) pe_str (nomark _)) (pe_and (pe_cmpR op_notN (pv 6) pe_non (nomark _))
          (pe_and (pe_cmpR (op_eqD hr.units) (pe_callTy call_list_of (by rfl) T.n_list (by decide +kernel) (pa_cons (pv 6) pa_nil)) (pe_callB (cr_sortedSet rfl) (by rfl) T.n_sorted (by decide +kernel) (pa_cons (pe_callTy (cr_setTu rfl) (by rfl) T.n_set (by decide +kernel) (pa_cons (pv 6) pa_nil)) pa_nil)) (nomark _))
          (pe_one (pe_cmpR op_lt (pe_callB (cr_maxTu rfl) (by rfl) T.n_max (by decide +kernel) (pa_cons (pe_catW pe_int (pv 6)) pa_nil)) (pe_callB call_len (by rfl) T.n_len (by decide +kernel) (pa_cons (pv 0) pa_nil)) (nomark _)))))))
        (pss_one (ps_set (i := 6) scLR.nd rfl (.inl rfl) (pe_ifExp (pt_val (pv 7)) (pv 6) pe_non))))))
        (pss_one (ps_set (i := 6) scLR.nd rfl (.inl rfl) (pe_cl (cl_law_box_in T) hr (by decide) (by rfl) quiet (pa_cons (pe_ix ix_list (pv 3) pe_int (fun _ _ => rfl)) pa_nil)))))
      (rest_ok T hr (by decide) b v k))), ?_⟩
    have h2 : 2 ≤ sizeLine := by decide
    refine ⟨_, rfl, v, tx, rfl, hv, fun l e => Nat.le_trans (hz l e).1 (by decide), t0, fun v3 H1 g1 hl => ⟨Nat.zero_le _, fun F nF => ⟨_, _, rfl, ?_⟩⟩⟩
    have g2 : Gr K H1 (upd H1 F (.lst [])) := (Gr.refl g1.tab).new nF
    cases eL : linesR tx with
    | error i =>
      rw [eL] at hl
      obtain rfl : v3 = nV i := hl
      have hR : readK bs k tx = .bad i := by
        unfold readK
        rw [eL]
      exact ⟨_, rfl, "int", true, .base (.int _), by decide +kernel, true, rfl, iteT ⟨_, rfl, h2, fun p np => hQ _ _ (g1.trans (g2.new np)) (by rw [hR]; exact ⟨p, rfl, .inl (.inl upd_same)⟩)⟩⟩
    | ok ls =>
      rw [eL] at hl
      obtain ⟨D, rfl, hD⟩ := (show ∃ D : Addr, v3 = .ref D ∧ H1 D = some (.lst (ls.map sV)) from hl)
      obtain ⟨l, r, rfl⟩ : ∃ l r, ls = l :: r := List.exists_cons_of_ne_nil (lines_ne eL)
      have hR : readK bs k tx = restK (firstK bs k l) k r := by
        unfold readK
        rw [eL]
      obtain ⟨z1, z2⟩ := lines_small (fun l e => (hz l e).1) eL
      obtain ⟨tt, ett, hmem⟩ := lines_mem eL
      have hok : ∀ u ∈ l :: r, LineOk u := fun u hu => (hz tt ett).2 u (hmem u hu)
      have nDF : D ≠ F := ne_of_none hD nF
      have hD2 : (upd H1 F (.lst [])) D = some (.lst ((l :: r).map sV)) := by rw [upd_ne nDF]; exact hD
      refine ⟨_, rfl, "list", false, ty_lst (.of hD2), by decide +kernel, false, rfl, iteF ⟨_, rfl, rfl, _, rfl, ?_⟩⟩
      rw [k_loss]
      have last : ∀ (y5 y7 : Option V) (vf : V) (H5 : Hp) (D' : Ends), D'.rt = Q → Gr K (upd H1 F (.lst [])) H5 → BoxV K H5 vf (firstK bs k l) → (∀ ns, firstK bs k l = some ns → ns.length ≤ 10000) →
          tRest K b v k D' [some (.ref b), some v, some (.str (kStr k)), some (.ref D), some (.ref F), y5, some vf, y7, none, none] H5 := fun y5 y7 vf H5 D' eD g5 hvf hnl =>
        ⟨H1, y5, y7, vf, _, D, F, l, r, rfl, g2.trans g5, nF, g5.ext _ _ hD2 (fun _ z => nomatch z), g5.ext _ _ upd_same (fun _ z => nomatch z), nDF, hvf, hnl, by rw [List.length_cons] at z1; omega, fun u hu => hok u (List.mem_cons_of_mem _ hu),
          fun v' H' g' hr' => by rw [eD]; exact hQ v' H' (g1.trans g') (by rw [hR]; exact hr')⟩
      cases hk : k.isL with
      | false =>
        have hF1 : firstK bs k l = boxIn l := by
          unfold firstK
          rw [hk, if_neg Bool.false_ne_true]
        rw [hF1] at last
        refine iteF ⟨_, rfl, D, _, 0, sV l, rfl, rfl, .of hD2, atI_nat (j := 0) rfl, l, rfl, hok l List.mem_cons_self, g2.tab, fun vf H5 g5 hvf => last none none vf H5 _ rfl g5 hvf fun ns e => ?_⟩
        have := isBox_len (boxIn_is e)
        omega
      | true =>
        have hF1 : firstK bs k l = lossIn bs.length l := by
          unfold firstK
          rw [hk, if_pos rfl]
        rw [hF1] at last
        have zl := z2 l List.mem_cons_self
        obtain ⟨ha, _, hw50⟩ := hok l List.mem_cons_self
        obtain ⟨h, t, ew⟩ : ∃ h t, wordsOf l = h :: t := List.exists_cons_of_ne_nil (cut_ne 32 l)
        have ew' : cut 32 l = h :: t := ew
        obtain ⟨sz1, sz2⟩ := words_small (l := l) (by omega)
        rw [ew] at sz1 sz2 hw50
        rw [List.length_cons] at sz1 hw50
        have hB2 : lossIn bs.length l = match numsW t with
            | none => none
            | some ns => if h = wLost ∧ isLoss bs.length ns = true then some ns else none := by
          unfold lossIn
          rw [ew] <;> rfl
        refine iteT ⟨_, rfl, D, _, 0, sV l, rfl, rfl, .of hD2, atI_nat (j := 0) rfl, l, rfl, by omega, fun D1 nD1 => ?_⟩
        have g3 := (Gr.refl g2.tab).new (o := .lst ((cut 32 l).map sV)) nD1
        have hD1 : (upd (upd H1 F (.lst [])) D1 (.lst ((cut 32 l).map sV))) D1 = some (.lst (sV h :: t.map sV)) := by rw [upd_same, ew']; rfl
        refine ⟨_, rfl, 1, rfl, D1, _, rfl, .of hD1, fun D2 nD2 => ?_⟩
        have g4 := g3.new (o := .lst (cutV (sV h :: t.map sV) (some 1) none)) nD2
        refine ⟨D2, t, rfl, .of (by rw [upd_same, cut_tail]; rfl), fun u hu => ⟨sz2 u (List.mem_cons_of_mem _ hu), asc_cut ha u (by rw [ew']; exact List.mem_cons_of_mem _ hu)⟩, by omega, g4.tab, fun vf H5 g5' hvf => ?_⟩
        have g5 := g4.trans g5'
        have hD5 : H5 D1 = some (.lst (sV h :: t.map sV)) := g5'.ext _ _ (by rw [upd_ne (ne_of_none hD1 nD2)]; exact hD1) (fun _ z => nomatch z)
        refine ⟨_, rfl, D1, _, 0, sV h, rfl, rfl, .of hD5, atI_nat (j := 0) rfl, rfl, _, rfl, ?_⟩
        have e1 : decide (sV h = V.str ("lost" : Str)) = decide (h = wLost) := by
          rw [s_lost]
          exact str_eq h wLost
        rw [e1]
        have none_ : lossIn bs.length l = none → ∀ (y5 y7 : Option V) (H6 : Hp) (D' : Ends), D'.rt = Q → Gr K H5 H6 → tRest K b v k D' [some (.ref b), some v, some (.str (kStr k)), some (.ref D), some (.ref F), y5, some .non, y7, none, none] H6 := fun e y5 y7 H6 D' eD g6 =>
          last y5 y7 .non H6 D' eD (g5.trans g6) (by rw [e]; rfl) (fun ns e2 => by rw [e] at e2; cases e2)
        by_cases hh : h = wLost
        · rw [decide_eq_true hh]
          refine iteT ⟨_, rfl, rfl, _, rfl, ?_⟩
          cases eN : numsW t with
          | none =>
            rw [eN] at hvf hB2
            obtain rfl : vf = .non := hvf
            exact iteF ⟨_, rfl, _, rfl, iteF (none_ hB2 _ _ H5 _ rfl (Gr.refl g5.tab))⟩
          | some ns =>
            rw [eN] at hvf hB2
            obtain ⟨a, rfl, hT⟩ := (show TupN K H5 vf ns from hvf)
            have hB2 : lossIn bs.length l = if isLoss bs.length ns = true then some ns else none := by
              rw [hB2]
              show (if h = wLost ∧ isLoss bs.length ns = true then some ns else none) = _
              by_cases hq : isLoss bs.length ns = true
              · rw [if_pos hq, if_pos ⟨hh, hq⟩]
              · rw [if_neg hq, if_neg fun z => hq z.2]
            have nlen : ns.length = t.length := by
              have := congrArg List.length ((allSome_iff _ _).mp eN)
              rw [List.length_map, List.length_map] at this
              exact this.symm
            have hTi : SqT K H5 a ((ns.map fun n : Nat => (n : Int)).map V.int) := by rw [← nV_int]; exact hT
            have hil : (ns.map fun n : Nat => (n : Int)).length = ns.length := List.length_map _
            refine iteT ⟨_, rfl, a, _, rfl, .inr hT, fun L nL => ?_⟩
            have g6 := (Gr.refl g5.tab).new (o := .lst (ns.map nV)) nL
            refine ⟨_, rfl, a, _, rfl, seqT_ext g6.ext hTi, by omega, fun c p hc np => ?_⟩
            have g7 := g6.new (o := SetO w p (fun j => decide (j ∈ ns.map fun n : Nat => (n : Int))) c) np
            refine ⟨p, _, c, rfl, upd_same, by omega, fun zs q hs hm hlz nq => ?_⟩
            have g8 := g7.new (o := .lst (zs.map V.int)) nq
            have nLq := ne_of_none (show (upd (upd H5 L (.lst (ns.map nV))) p (SetO w p (fun j => decide (j ∈ ns.map fun n : Nat => (n : Int))) c)) L = some (.lst (ns.map nV)) by rw [upd_ne (ne_of_none upd_same np), upd_same]) nq
            have hL8 : (upd (upd (upd H5 L (.lst (ns.map nV))) p (SetO w p (fun j => decide (j ∈ ns.map fun n : Nat => (n : Int))) c)) q (.lst (zs.map V.int))) L = some (.lst ((ns.map fun n : Nat => (n : Int)).map V.int)) := by
              rw [upd_ne nLq, upd_ne (ne_of_none upd_same np), upd_same, nV_int]
            refine ⟨_, _, .lst (.of hL8) (dp_ints _), .lst (.of upd_same) (dp_ints _), shaped_ints _, shaped_ints _, _, rfl, ?_⟩
            have e2 : PyData.eqv (.list ((ns.map fun n : Nat => (n : Int)).map PyData.int)) (.list (zs.map PyData.int)) = decide (ns.Pairwise (· < ·)) := (eqv_ints _ _).trans (set_sorted hs hm)
            rw [e2]
            have nol : isLoss bs.length ns ≠ true → lossIn bs.length l = none := fun z => by rw [hB2, if_neg z]
            have hlb : (bs.map nV).length = bs.length := List.length_map _
            have hbl := isBox_len hb
            by_cases hp2 : ns.Pairwise (· < ·)
            · rw [decide_eq_true hp2]
              refine iteT fun q2 nq2 => ⟨_, rfl, a, ns.map nV, rfl, seqT_ext (g8.new nq2).ext hT, by rw [List.length_map]; omega, upd_same, fun pp H6 s6 hp6 => ?_⟩
              have g9 := (g8.new (o := .tup [.int 0]) nq2).trans (Gr.same (g8.new nq2).tab s6)
              have hp6' : SqT K H6 pp (((0 : Int) :: ns.map fun n : Nat => (n : Int)).map V.int) := by
                rw [List.map_cons, ← nV_int]
                exact hp6
              have hbT : SqT K H6 b (bs.map nV) := seqT_ext ((g1.trans (g2.trans g5)).trans g9).ext hB
              refine ⟨pp, _, rfl, hp6', by simp, fun m hm1 hm2 => ⟨_, rfl, _, _, rfl, .inr ⟨_, hbT, rfl⟩, _, _, rfl, rfl, _, rfl, _, rfl, ?_⟩⟩
              rw [hlb]
              have hI := isLoss_is (m := bs.length) (by omega) ns m hm1 hm2
              rw [decide_eq_true hp2, Bool.true_and] at hI
              by_cases hx : m < (bs.length : Int)
              · rw [decide_eq_true hx] at hI ⊢
                refine iteT ⟨_, rfl, last _ _ _ H6 _ rfl (g5.trans g9) ?_ ?_⟩
                · rw [hB2, if_pos hI]
                  exact ⟨a, rfl, seqT_ext g9.ext hT⟩
                · rw [hB2, if_pos hI]
                  intro ns' e
                  cases e
                  omega
              · rw [decide_eq_false hx] at hI ⊢
                exact iteF (none_ (nol (by rw [hI]; exact Bool.false_ne_true)) _ _ H6 _ rfl g9)
            · rw [decide_eq_false hp2]
              refine iteF ⟨_, rfl, _, rfl, iteF (none_ (nol fun z => ?_) _ _ _ _ rfl g8)⟩
              unfold isLoss at z
              simp only [Bool.and_eq_true, decide_eq_true_eq] at z
              exact hp2 z.2
        · rw [decide_eq_false hh]
          refine iteF ⟨_, rfl, _, rfl, iteF (none_ ?_ _ _ H5 _ rfl (Gr.refl g5.tab))⟩
          rw [hB2]
          cases numsW t with
          | none => rfl
          | some ns => exact if_neg fun z => hh z.1
end
end Kt
set_option maxHeartbeats 4000000
/-! _law_alike. -/
namespace Kt
open PySem PySem.Spec PyProof.Rows L2 SX Km
theorem pss_no {X : Cx} {st : List Stmt} : PSs X st (fun _ _ _ => False) := ⟨fun _ _ _ _ _ _ h => h.elim⟩
def rIxA (K : PySem.W.Frag) : R2 := fun x y H Q => rIxL K x y H Q ∨ rIxT K x y H Q
theorem ix_any {X : Cx} {K : PySem.W.Frag} (hK : X.K = K) : IxR X (rIxA K) := by
  subst hK
  intro value slice pins s σ H x y v u Q I rx ry h hs
  rcases h with h | h
  · exact ix_list value slice pins s σ H x y v u Q I rx ry h hs
  · exact ix_tup value slice pins s σ H x y v u Q I rx ry h hs
/-- two values that look the same -/
inductive Al (K : PySem.W.Frag) (H : Hp) : Nat → V → V → Prop where
  | int (n : Nat) (i : Int) : Al K H n (.int i) (.int i)
  | str (n : Nat) (s : Str) : Al K H n (.str s) (.str s)
  | tup (n : Nat) (a b : Addr) (xs ys : List V) (h1 : SqT K H a xs) (h2 : SqT K H b ys) (hl : xs.length = ys.length) (hz : ys.length ≤ 100000) (h : ∀ (i : Nat) (x y : V), xs[i]? = some x → ys[i]? = some y → Al K H n x y) : Al K H (n + 1) (.ref a) (.ref b)
  | lst (n : Nat) (a b : Addr) (xs ys : List V) (h1 : SqL K H a xs) (h2 : SqL K H b ys) (hl : xs.length = ys.length) (hz : ys.length ≤ 100000) (h : ∀ (i : Nat) (x y : V), xs[i]? = some x → ys[i]? = some y → Al K H n x y) : Al K H (n + 1) (.ref a) (.ref b)
theorem Al.ext {K : PySem.W.Frag} {H H' : Hp} (e : LamX.ExtN H H') {n : Nat} {x y : V} (h : Al K H n x y) : Al K H' n x y := by
  induction h with
  | int n i => exact .int n i
  | str n s => exact .str n s
  | tup n a b xs ys h1 h2 hl hz h ih => exact .tup n a b xs ys (seqT_ext e h1) (seqT_ext e h2) hl hz fun i x y hx hy => ih i x y hx hy
  | lst n a b xs ys h1 h2 hl hz h ih => exact .lst n a b xs ys (seqL_ext e h1) (seqL_ext e h2) hl hz fun i x y hx hy => ih i x y hx hy
theorem kit_tl {K : PySem.W.Frag} {t : String} {b1 b2 : Bool} (h1 : kitB t "tuple" = some b1) (h2 : kitB t "list" = some b2) : PySem.W.kitAny K (.type t) [.type "tuple", .type "list"] = some (b1 || b2) :=
  kitAny_cons (kit_ty h1) (fun e => kitAny_cons (kit_ty h2) (fun e2 => by rw [e, e2]; exact kitAny_nil) (fun e2 => by rw [e2, Bool.or_true])) (fun e => by rw [e, Bool.true_or])
section
variable {P : Program} {w : World} {K : PySem.W.Frag} {mg : Str → Option Value} {base : Heap}
def spAlike (K : PySem.W.Frag) (n : Nat) : Sp := fun vs H Q _ => ∃ x y, vs = [x, y] ∧ Al K H n x y ∧ TabOk K H ∧ ∀ H', Gr K H H' → Q (.bl true) H'
def spPrev (K : PySem.W.Frag) : Nat → Sp
  | 0 => fun _ _ _ _ => False
  | n + 1 => spAlike K n
abbrev nmAl : List Str := ["_law_found", "_law_due", "_law_k", "_law_key"]
theorem scAl : FnScope nmAl ["_law_found", "_law_due"] (defScope sAlike) := ⟨rfl, rfl, rfl, by decide +kernel, rfl, by decide +kernel, by decide +kernel⟩
theorem cl_al0 (T : Fx K mg base) : Cl P w K mg base 1 "_law_alike" (spPrev K 0) := by
  refine cl_of T.d_law_alike T.g_law_alike scAl (fun _ _ _ _ _ _ us hl => match us, hl with | [_, _], _ => rfl) (fun vs H Q E h => h.elim) (fun A outer s H vs Q E hr h => h.elim)
theorem al_step (T : Fx K mg base) (n : Nat) (rec_ : Cl P w K mg base (n + 1) "_law_alike" (spPrev K n)) : Cl P w K mg base (n + 2) "_law_alike" (spAlike K n) := by
  refine cl_of T.d_law_alike T.g_law_alike scAl (fun _ _ _ _ _ _ us hl => match us, hl with | [_, _], _ => rfl) (fun vs H Q E h => ?_) (fun A outer s H vs Q E hr h => ?_)
  · obtain ⟨x, y, rfl, _⟩ := h
    rfl
  · obtain ⟨x, y, rfl, hal, t0, hQ⟩ := h
    refine ⟨_, pss_cons (ps_if (pt_val (pe_callB call_isiT (by rfl) T.n_isinstance (by decide +kernel) (pa_cons (pv 1) (pa_cons (pe_tup (pa_cons (pe_bltn (v := .ty "tuple") (by rfl) T.n_tuple (by decide +kernel) rfl) (pa_cons (pe_bltn (v := .ty "list") (by rfl) T.n_list (by decide +kernel) rfl) pa_nil))) pa_nil))))
        (pss_cons (ps_if (PW.pt (pw_or (pt_not (pt_val (pe_callB call_isiT (by rfl) T.n_isinstance (by decide +kernel) (pa_cons (pv 0) (pa_cons (pe_tup (pa_cons (pe_bltn (v := .ty "tuple") (by rfl) T.n_tuple (by decide +kernel) rfl) (pa_cons (pe_bltn (v := .ty "list") (by rfl) T.n_list (by decide +kernel) rfl) pa_nil))) pa_nil)))))
            (pw_or1 (pt_cmpR op_ne (pe_is (T := "list") (by rfl) T.n_isinstance (by rfl) T.n_list (by decide +kernel) (pv 0)) (pe_is (T := "list") (by rfl) T.n_isinstance (by rfl) T.n_list (by decide +kernel) (pv 1)) (nomark _)))))
          (pss_one (ps_ret pe_bl)) pss_nil)
        (pss_cons (ps_if (pt_cmpR op_ne (pe_callB call_len (by rfl) T.n_len (by decide +kernel) (pa_cons (pv 0) pa_nil)) (pe_callB call_len (by rfl) T.n_len (by decide +kernel) (pa_cons (pv 1) pa_nil)) (nomark _)) (pss_one (ps_ret pe_bl)) pss_nil)
        (pss_one (ps_ret (pe_cmpR (op_eqD hr.units) (pe_lc (own := [("_law_k", 2)]) (g := gName 2) rfl scAl.nd (pi_range1 (by rfl) T.n_range (pa_cons (pe_callB call_len (by rfl) T.n_len (by decide +kernel) (pa_cons (pv 1) pa_nil)) pa_nil)) (blkOk_by (own := [("_law_k", 2)]) (N := nmAl) (sc := defScope sAlike) (by decide +kernel)) (fun _ _ _ _ _ => pg_name (i := 2) scAl.nd rfl (.inl rfl))
          (fun _ _ _ _ _ => pts_one (pt_not (pt_val (pe_cl rec_ hr (Nat.le_refl _) (by rfl) quiet (pa_cons (pe_ix (ix_any (K := K) rfl) (pv 0) (pv 2) (fun _ _ => rfl)) (pa_cons (pe_ix (ix_any (K := K) rfl) (pv 1) (pv 2) (fun _ _ => rfl)) pa_nil)))))) (fun _ _ _ _ _ => pv 2)) (pe_lst pa_nil) (nomark _)))))) pss_nil)
      (pss_cons (ps_if (pt_val (pe_is (T := "dict") (by rfl) T.n_isinstance (by rfl) T.n_dict (by decide +kernel) (pv 1))) pss_no pss_nil)
      (pss_cons (ps_if (PW.pt (pw_or (pt_cmpR op_isN (pv 1) pe_non (nomark _)) (pw_or1 (pt_val (pe_is (T := "str") (by rfl) T.n_isinstance (by rfl) T.n_str (by decide +kernel) (pv 1))))))
        (pss_one (ps_ret (pe_and (pe_cmpR op_eq (pv 0) (pv 1) (nomark _)) (pe_one (pe_cmpR op_eq (pe_is (T := "str") (by rfl) T.n_isinstance (by rfl) T.n_str (by decide +kernel) (pv 0)) (pe_is (T := "str") (by rfl) T.n_isinstance (by rfl) T.n_str (by decide +kernel) (pv 1)) (nomark _)))))) pss_nil)
      (pss_one (ps_ret (pe_and (pe_is (T := "int") (by rfl) T.n_isinstance (by rfl) T.n_int (by decide +kernel) (pv 0)) (pe_and (pe_cmpR op_eq (pe_is (T := "bool") (by rfl) T.n_isinstance (by rfl) T.n_bool (by decide +kernel) (pv 0)) (pe_is (T := "bool") (by rfl) T.n_isinstance (by rfl) T.n_bool (by decide +kernel) (pv 1)) (nomark _))
        (pe_one (pe_cmpR op_eq (pv 0) (pv 1) (nomark _))))))))), ?_⟩
    have h2 : 2 ≤ sizeLine := by decide
    have cs : Paired ClsV [.ty "tuple", .ty "list"] [.type "tuple", .type "list"] := .cons (.ty _) (.cons (.ty _) .nil)
    cases hal with
    | int n i =>
      refine ⟨_, rfl, h2, fun p np => ⟨_, p, _, _, _, false, rfl, upd_same, cs, .base (.int i), kit_tl (b1 := false) (b2 := false) (by decide +kernel) (by decide +kernel), false, rfl, iteF ?_⟩⟩
      have g1 : Gr K H (upd H p (.tup [.ty "tuple", .ty "list"])) := (Gr.refl t0).new np
      refine ⟨_, rfl, "int", false, .base (.int i), by decide +kernel, false, rfl, iteF ⟨_, rfl, rfl, _, rfl, iteF ⟨_, rfl, "int", false, .base (.int i), by decide +kernel, false, rfl, iteF ?_⟩⟩⟩
      refine ⟨_, rfl, "int", true, .base (.int i), by decide +kernel, true, rfl, iteT ⟨_, rfl, "int", false, .base (.int i), by decide +kernel, _, rfl, "int", false, .base (.int i), by decide +kernel, rfl, _, rfl, iteT ⟨_, rfl, _, rfl, rfl, ?_⟩⟩⟩
      have := hQ _ g1
      rw [decide_eq_true rfl]
      exact this
    | str n s =>
      refine ⟨_, rfl, h2, fun p np => ⟨_, p, _, _, _, false, rfl, upd_same, cs, .base (.str s), kit_tl (b1 := false) (b2 := false) (by decide +kernel) (by decide +kernel), false, rfl, iteF ?_⟩⟩
      have g1 : Gr K H (upd H p (.tup [.ty "tuple", .ty "list"])) := (Gr.refl t0).new np
      refine ⟨_, rfl, "str", false, .base (.str s), by decide +kernel, false, rfl, iteF ⟨_, rfl, rfl, _, rfl, iteF ⟨_, rfl, "str", true, .base (.str s), by decide +kernel, true, rfl, iteT ?_⟩⟩⟩
      refine ⟨_, rfl, _, rfl, rfl, true, by rw [decide_eq_true rfl], iteT ⟨_, rfl, "str", true, .base (.str s), by decide +kernel, _, rfl, "str", true, .base (.str s), by decide +kernel, rfl, ?_⟩⟩
      have := hQ _ g1
      rw [decide_eq_true rfl]
      exact this
    | tup n a b xs ys h1 h2' hl hz h =>
      refine ⟨_, rfl, h2, fun p np => ⟨_, p, _, _, _, true, rfl, upd_same, cs, ty_tup (seqT_ext (LamX.ExtN.of (same_new np)) h2'), kit_tl (b1 := true) (b2 := false) (by decide +kernel) (by decide +kernel), true, rfl, iteT ?_⟩⟩
      have g1 : Gr K H (upd H p (.tup [.ty "tuple", .ty "list"])) := (Gr.refl t0).new np
      refine ⟨_, rfl, h2, fun p2 np2 => ⟨_, p2, _, _, _, true, rfl, upd_same, cs, ty_tup (seqT_ext (g1.new np2).ext h1), kit_tl (b1 := true) (b2 := false) (by decide +kernel) (by decide +kernel), true, rfl, iteF ?_⟩⟩
      have g2 := g1.new (o := .tup [.ty "tuple", .ty "list"]) np2
      have t1 := seqT_ext g2.ext h1
      have t2 := seqT_ext g2.ext h2'
      refine ⟨_, rfl, "tuple", false, ty_tup t1, by decide +kernel, _, rfl, "tuple", false, ty_tup t2, by decide +kernel, rfl, false, by rw [decide_eq_true rfl]; rfl, iteF ?_⟩
      refine ⟨_, rfl, _, _, rfl, .inr ⟨_, t1, rfl⟩, _, rfl, _, _, rfl, .inr ⟨_, t2, rfl⟩, rfl, false, by rw [hl, decide_eq_true rfl]; rfl, iteF ?_⟩
      refine ⟨_, rfl, _, _, rfl, .inr ⟨_, t2, rfl⟩, _, rfl, by omega, by simp; omega, fun D nD => ?_⟩
      rw [Int.toNat_natCast]
      refine lc_range (fun i H4 => Gr K H H4 ∧ H4 D = some (.lst [])) ⟨g2.new nD, upd_same⟩ (fun i H4 hi hP => ?_) (fun H4 hP => ?_)
      · obtain ⟨g4, hD4⟩ := hP
        have hx : xs[i]? = some xs[i] := List.getElem?_eq_getElem (by omega)
        have hy : ys[i]? = some ys[i] := List.getElem?_eq_getElem hi
        have e0 : (0 : Int) + (i : Int) = ((i : Nat) : Int) := by omega
        refine ⟨rfl, _, rfl, _, rfl, .inr ⟨a, xs, _, _, rfl, rfl, seqT_ext g4.ext h1, by rw [e0]; exact atI_nat hx, _, rfl, _, rfl, .inr ⟨b, ys, _, _, rfl, rfl, seqT_ext g4.ext h2', by rw [e0]; exact atI_nat hy, _, _, rfl, (h i _ _ hx hy).ext g4.ext, g4.tab, fun H5 g5 => ⟨true, rfl, ?_⟩⟩⟩⟩
        exact iteF ⟨g4.trans g5, g5.ext _ _ hD4 (fun _ z => nomatch z)⟩
      · obtain ⟨g4, hD4⟩ := hP
        refine ⟨Nat.zero_le _, fun L nL => ⟨.list [], .list [], .lst (.of ?_) .nil, .lst (.of upd_same) .nil, by decide, by decide, hQ _ (g4.new nL)⟩⟩
        rw [upd_ne (ne_of_none hD4 nL)]
        exact hD4
    | lst n a b xs ys h1 h2' hl hz h =>
      refine ⟨_, rfl, h2, fun p np => ⟨_, p, _, _, _, true, rfl, upd_same, cs, ty_lst (seqL_ext (LamX.ExtN.of (same_new np)) h2'), kit_tl (b1 := false) (b2 := true) (by decide +kernel) (by decide +kernel), true, rfl, iteT ?_⟩⟩
      have g1 : Gr K H (upd H p (.tup [.ty "tuple", .ty "list"])) := (Gr.refl t0).new np
      refine ⟨_, rfl, h2, fun p2 np2 => ⟨_, p2, _, _, _, true, rfl, upd_same, cs, ty_lst (seqL_ext (g1.new np2).ext h1), kit_tl (b1 := false) (b2 := true) (by decide +kernel) (by decide +kernel), true, rfl, iteF ?_⟩⟩
      have g2 := g1.new (o := .tup [.ty "tuple", .ty "list"]) np2
      have t1 := seqL_ext g2.ext h1
      have t2 := seqL_ext g2.ext h2'
      refine ⟨_, rfl, "list", true, ty_lst t1, by decide +kernel, _, rfl, "list", true, ty_lst t2, by decide +kernel, rfl, false, by rw [decide_eq_true rfl]; rfl, iteF ?_⟩
      refine ⟨_, rfl, _, _, rfl, .inl ⟨_, t1, rfl⟩, _, rfl, _, _, rfl, .inl ⟨_, t2, rfl⟩, rfl, false, by rw [hl, decide_eq_true rfl]; rfl, iteF ?_⟩
      refine ⟨_, rfl, _, _, rfl, .inl ⟨_, t2, rfl⟩, _, rfl, by omega, by simp; omega, fun D nD => ?_⟩
      rw [Int.toNat_natCast]
      refine lc_range (fun i H4 => Gr K H H4 ∧ H4 D = some (.lst [])) ⟨g2.new nD, upd_same⟩ (fun i H4 hi hP => ?_) (fun H4 hP => ?_)
      · obtain ⟨g4, hD4⟩ := hP
        have hx : xs[i]? = some xs[i] := List.getElem?_eq_getElem (by omega)
        have hy : ys[i]? = some ys[i] := List.getElem?_eq_getElem hi
        have e0 : (0 : Int) + (i : Int) = ((i : Nat) : Int) := by omega
        refine ⟨rfl, _, rfl, _, rfl, .inl ⟨a, xs, _, _, rfl, rfl, seqL_ext g4.ext h1, by rw [e0]; exact atI_nat hx, _, rfl, _, rfl, .inl ⟨b, ys, _, _, rfl, rfl, seqL_ext g4.ext h2', by rw [e0]; exact atI_nat hy, _, _, rfl, (h i _ _ hx hy).ext g4.ext, g4.tab, fun H5 g5 => ⟨true, rfl, ?_⟩⟩⟩⟩
        exact iteF ⟨g4.trans g5, g5.ext _ _ hD4 (fun _ z => nomatch z)⟩
      · obtain ⟨g4, hD4⟩ := hP
        refine ⟨Nat.zero_le _, fun L nL => ⟨.list [], .list [], .lst (.of ?_) .nil, .lst (.of upd_same) .nil, by decide, by decide, hQ _ (g4.new nL)⟩⟩
        rw [upd_ne (ne_of_none hD4 nL)]
        exact hD4
theorem cl_alike (T : Fx K mg base) : ∀ n : Nat, Cl P w K mg base (n + 2) "_law_alike" (spAlike K n)
  | 0 => al_step T 0 (cl_al0 T)
  | n + 1 => al_step T (n + 1) (cl_alike T n)
/-! what looks alike -/
theorem al_nums {H : Hp} {a b : Addr} {ns : List Nat} (h1 : SqT K H a (ns.map nV)) (h2 : SqT K H b (ns.map nV)) (hz : ns.length ≤ 100000) (n : Nat) : Al K H (n + 1) (.ref a) (.ref b) :=
  .tup n a b _ _ h1 h2 rfl (by rw [List.length_map]; exact hz) fun i x y hx hy => by
    rw [hx] at hy
    cases hy
    rw [List.getElem?_map] at hx
    obtain ⟨m, _, rfl⟩ := Option.map_eq_some_iff.mp hx
    exact .int n _
theorem al_ords {H : Hp} {q q' : Addr} {os : List Ord} {xs ys : List V} (h1 : SqT K H q xs) (h2 : SqT K H q' ys) (o1 : OrdsAt K H os xs) (o2 : OrdsAt K H os ys) (hz : os.length ≤ 100000) (n : Nat) : Al K H (n + 2) (.ref q) (.ref q') := by
  have l1 := o1.len
  have l2 := o2.len
  refine .tup (n + 1) q q' _ _ h1 h2 (by omega) (by omega) fun i x y hx hy => ?_
  obtain ⟨as, rfl, e1, f1⟩ := o1
  obtain ⟨bs, rfl, e2, f2⟩ := o2
  rw [List.getElem?_map] at hx hy
  obtain ⟨a, ha, rfl⟩ := Option.map_eq_some_iff.mp hx
  obtain ⟨b, hb, rfl⟩ := Option.map_eq_some_iff.mp hy
  have hi : i < os.length := by
    have := (List.getElem?_eq_some_iff.mp ha).1
    omega
  have ho : os[i]? = some os[i] := List.getElem?_eq_getElem hi
  refine .tup n a b _ _ (f1 i a _ ha ho) (f2 i b _ hb ho) rfl (by simp) fun j x y hx hy => ?_
  rw [hx] at hy
  cases hy
  match j, hx with
  | 0, hx => cases hx; exact .str n _
  | 1, hx => cases hx; exact .int n _
theorem al_pair {H : Hp} {p p' a b a' b' : Addr} {n : Nat} (h1 : SqT K H p [.ref a, .ref b]) (h2 : SqT K H p' [.ref a', .ref b']) (ha : Al K H n (.ref a) (.ref a')) (hb : Al K H n (.ref b) (.ref b')) : Al K H (n + 1) (.ref p) (.ref p') :=
  .tup n p p' _ _ h1 h2 rfl (by simp) fun i x y hx hy => by
    match i, hx, hy with
    | 0, hx, hy => cases hx; cases hy; exact ha
    | 1, hx, hy => cases hx; cases hy; exact hb
theorem al_pairL {H : Hp} {p p' a b a' b' : Addr} {n : Nat} (h1 : SqL K H p [.ref a, .ref b]) (h2 : SqL K H p' [.ref a', .ref b']) (ha : Al K H n (.ref a) (.ref a')) (hb : Al K H n (.ref b) (.ref b')) : Al K H (n + 1) (.ref p) (.ref p') :=
  .lst n p p' _ _ h1 h2 rfl (by simp) fun i x y hx hy => by
    match i, hx, hy with
    | 0, hx, hy => cases hx; cases hy; exact ha
    | 1, hx, hy => cases hx; cases hy; exact hb
theorem al_read {H : Hp} {v v' : V} {r : List Nat × List Ord} (h1 : ReadV K H v r) (h2 : ReadV K H v' r) (hz : r.1.length ≤ 100000) (hz2 : r.2.length ≤ 100000) : Al K H 3 v v' := by
  obtain ⟨p, b, q, xs, rfl, s1, s2, s3, s4⟩ := h1
  obtain ⟨p', b', q', xs', rfl, u1, u2, u3, u4⟩ := h2
  exact al_pair s1 u1 (al_nums s2 u2 hz 1) (al_ords s3 u3 s4 u4 hz2 0)
def Res.small : Res → Prop
  | .box ns => ns.length ≤ 100000
  | .ords r => r.1.length ≤ 100000 ∧ r.2.length ≤ 100000
  | .bad _ => True
theorem al_res {H : Hp} {v v' : V} {r : Res} (h1 : ResV K H v r) (h2 : ResV K H v' r) (hz : r.small) : Al K H 3 v v' := by
  cases r with
  | box ns =>
    obtain ⟨a, rfl, k1⟩ := (show TupN K H v ns from h1)
    obtain ⟨b, rfl, k2⟩ := (show TupN K H v' ns from h2)
    exact al_nums k1 k2 hz 2
  | ords r => exact al_read h1 h2 hz.1 hz.2
  | bad i =>
    obtain ⟨a, rfl, k1⟩ := (show ∃ a, v = .ref a ∧ SqT K H a [.str ("BadLine" : Str), nV i] from h1)
    obtain ⟨b, rfl, k2⟩ := (show ∃ a, v' = .ref a ∧ SqT K H a [.str ("BadLine" : Str), nV i] from h2)
    refine .tup 2 a b _ _ k1 k2 rfl (by simp) fun j x y hx hy => ?_
    rw [hx] at hy
    cases hy
    match j, hx with
    | 0, hx => cases hx; exact .str 2 _
    | 1, hx => cases hx; exact .int 2 _
end
end Kt
set_option maxHeartbeats 4000000
/-! A def called with a lambda; what the making of the lambda leaves. -/
namespace Kt
open PySem PySem.Spec PyProof.Rows L2 SX Km
section
variable {X : Cx} {pins : List (Addr × Obj)} {σ : L2.St} {H : Hp} {s : Shared}
/-- a lambda is made: all but its table stays -/
theorem lam_made {c P : Addr} {params : Arguments} {body : Expr} {scope : Scope} {pos : Pos} {E : Value → Shared → Prop} {Q : Value → Shared → Prop} (I : Inv X pins σ H s) (TB : LamX.TabB X.base X.mg c P) (hcode : X.env.code = .ref c)
    (hT : LamX.TabS H P (X.env.qual ++ "<lambda>")) (hdef : defaultsOf params X.env = ([], [])) (hfree : ∀ y ∈ scope.names, y.2 = .free → ∃ c, X.env.cells.lookup y.1 = some c)
    (h : ∀ (f c' : Addr) (pm ctv : Value) (H1 : Hp) (s' : Shared), Inv X pins σ H1 s' → (∀ b o, H b = some o → b ≠ P → H1 b = some o) → LamX.TabS H1 P (X.env.qual ++ "<lambda>") →
      s'.heap.get? f = some (PySem.W.kla_obj "<lambda>" (X.env.qual ++ "<lambda>") params body scope (cloFrom X.env.cells scope.names []) pm c' ctv) → H1 f = none → f ∉ frs X.stack → H1 c' = some (LamX.CodeO c' (X.env.qual ++ "<lambda>")) → Q (.ref f) s') :
    wpAny (model X.prog X.w) X.A (eval (.Lambda params body scope pos) X.env) Q E s := by
  have hT0 := hT
  obtain ⟨ps, hP, ht, ha⟩ := hT
  refine PySem.W.kla_eval hdef ?_
  have bP : s.heap.BuiltinsAt X.mg P := TB.bm.keeps I.bk
  have hP' : s.heap.get? P = some { cls := .none, data := .fields ps } := I.hok P _ hP
  have nofr : ∀ f, s.heap.objs.size ≤ f → f ∉ frs X.stack := fun f hf z => by
    rcases List.mem_cons.mp (I.stkSub _ z) with e | e
    · have h1 := I.lt
      rw [← e] at h1
      exact Nat.lt_irrefl _ (Nat.lt_of_lt_of_le h1 hf)
    · exact I.nofs hf e
  cases hc : codeAmong pos ps.toList with
  | none =>
    refine PySem.W.kla_makeFunction (mg := X.mg) (c := c) (P := P) (ps := ps) (closure_ok hfree) I.ok.glob (I.mod.glob.keeps I.bk) hcode (TB.code.keeps I.bk) hP' ht hc TB.gP bP fun c' ctv h' tk hx hge hlt hrec htb => ?_
    obtain ⟨c2, oc, vs, t, e2, hoc, hd, hv⟩ := hrec
    cases e2
    have hsz : s.heap.objs.size ≤ h'.objs.size := Nat.le_trans hge (Nat.le_of_lt hlt)
    have nC : H c' = none := I.hok.fresh hge
    have I1 := LamX.inv_table (t' := tk) (more := #[rawInt pos.line, rawInt pos.col, .ref c']) (h' := h'.push (PySem.W.kla_obj "<lambda>" (X.env.qual ++ "<lambda>") params body scope (cloFrom X.env.cells scope.names []) ((X.mg "__name__").getD .none) c' ctv)) I hP
      (fun b o hb e => Heap.get?_push_of_some _ (hx b o hb e)) (Heap.get?_push_of_some _ htb) hge ⟨oc, vs, t, Heap.get?_push_of_some _ hoc, hd, hv⟩
    have hE : ∀ b o, H b = some o → b ≠ P → (upd (upd H P (.tbl (ps ++ #[rawInt pos.line, rawInt pos.col, .ref c']))) c' (LamX.CodeO c' (X.env.qual ++ "<lambda>"))) b = some o := fun b o e n => by
      rw [upd_ne (ne_of_none e nC), upd_ne n]
      exact e
    have eL : (ps ++ #[rawInt pos.line, rawInt pos.col, .ref c']).toList = ps.toList ++ [rawInt pos.line, rawInt pos.col, .ref c'] := by simp
    refine h h'.objs.size c' ((X.mg "__name__").getD .none) ctv _ _ I1 hE ⟨_, by rw [upd_ne (ne_of_none hP nC), upd_same], by rw [eL]; exact PySem.TriplesOk_snoc _ _ _ _ ht, fun p' cv hcv => ?_⟩ (Heap.get?_push_size _ rfl) ?_ (nofr _ hsz) upd_same
    · rw [eL] at hcv
      rcases LamX.among_app _ ht hcv with z | z
      · obtain ⟨c0, e1, e2⟩ := ha p' cv z
        exact ⟨c0, e1, hE _ _ e2 fun z => by
          rw [z, hP] at e2
          exact LamX.codeO_ne _ (Option.some.inj e2).symm⟩
      · exact ⟨c', z, upd_same⟩
    · have n1 : h'.objs.size ≠ c' := Nat.ne_of_gt hlt
      have n2 : h'.objs.size ≠ P := Nat.ne_of_gt (Nat.lt_of_lt_of_le (Heap.lt_size hP') hsz)
      rw [upd_ne n1, upd_ne n2]
      exact I.hok.fresh hsz
  | some cv =>
    obtain ⟨c', e, hco⟩ := ha pos cv hc
    subst e
    refine PySem.W.kla_makeFunctionHit (mg := X.mg) (c := c) (P := P) (ps := ps) (closure_ok hfree) I.ok.glob (I.mod.glob.keeps I.bk) hcode (TB.code.keeps I.bk) hP' ht hc bP fun ctv h' tk hx hsz => ?_
    have I1 : Inv X pins σ H { s with heap := h'.push (PySem.W.kla_obj "<lambda>" (X.env.qual ++ "<lambda>") params body scope (cloFrom X.env.cells scope.names []) ((X.mg "__name__").getD .none) c' ctv), toks := tk } := I.kept fun b o e => Heap.get?_push_of_some _ (hx b o e)
    exact h h'.objs.size c' ((X.mg "__name__").getD .none) ctv H _ I1 (fun b o e _ => e) hT0 (Heap.get?_push_size _ rfl) (I.hok.fresh hsz) (nofr _ hsz) hco
end
theorem tabS_but2 {H H' : Hp} {P R : Addr} {q q' : Str} (e : ∀ b o, H b = some o → b ≠ P → H' b = some o) (hP : LamX.TabS H P q') (n : R ≠ P) (h : LamX.TabS H R q) : LamX.TabS H' R q := by
  obtain ⟨ps, h1, h2, h3⟩ := h
  refine ⟨ps, e _ _ h1 n, h2, fun pos cv hc => ?_⟩
  obtain ⟨c, e1, e2⟩ := h3 pos cv hc
  refine ⟨c, e1, e _ _ e2 fun z => ?_⟩
  obtain ⟨ps2, p1, _⟩ := hP
  rw [z, p1] at e2
  exact LamX.codeO_ne ps2 (Option.some.inj e2).symm
theorem ext_but {H H' : Hp} {P : Addr} {q' : Str} (e : ∀ b o, H b = some o → b ≠ P → H' b = some o) (hP : LamX.TabS H P q') : LamX.ExtN H H' := fun b o hb hn => e b o hb fun z => by
  obtain ⟨ps2, p1, _⟩ := hP
  rw [z, p1] at hb
  exact hn ps2 (Option.some.inj hb).symm
theorem gr_tab3 {K : PySem.W.Frag} (m : ex K = true) {H H' : Hp} (t : TabOk K H) (e : ∀ b o, H b = some o → b ≠ tL3 K → H' b = some o) (h : LamX.TabS H' (tL3 K) q3) : Gr K H H' := by
  obtain ⟨n12, n13, n14, n23, n24, n34⟩ := tabs_apart m
  refine ⟨ext_but e t.a3, ?_, ?_, h, tabS_but2 e t.a3 n34.symm t.a4⟩
  · obtain ⟨ps, p1, p2⟩ := t.a1
    exact ⟨ps, e _ _ p1 n13, p2⟩
  · obtain ⟨ps, p1, p2⟩ := t.a2
    exact ⟨ps, e _ _ p1 n23, p2⟩
theorem gr_tab4 {K : PySem.W.Frag} (m : ex K = true) {H H' : Hp} (t : TabOk K H) (e : ∀ b o, H b = some o → b ≠ tL4 K → H' b = some o) (h : LamX.TabS H' (tL4 K) q4) : Gr K H H' := by
  obtain ⟨n12, n13, n14, n23, n24, n34⟩ := tabs_apart m
  refine ⟨ext_but e t.a4, ?_, ?_, tabS_but2 e t.a4 n34 t.a3, h⟩
  · obtain ⟨ps, p1, p2⟩ := t.a1
    exact ⟨ps, e _ _ p1 n14, p2⟩
  · obtain ⟨ps, p1, p2⟩ := t.a2
    exact ⟨ps, e _ _ p1 n24, p2⟩
/-- x(lambda: body) -/
theorem pe_lamdef {X : Cx} {x : Str} {params : Arguments} {dbody : List Stmt} {dscope : Scope} {N : List Str} {a : Str} {c P : Addr} {lparams : Arguments} {lbody : Expr} {lscope : Scope} {lpos p pos : Pos} {k kl : Nat} {tb : XK → TE} {TT : (XK → Hp → VK → Prop) → Hp → VK → Prop}
    (hg : Gl X x) (hm : X.mg x = some (.ref (He.ga X.K x))) (d : ∃ fd, FunD X.K x x params dbody dscope [] [] (He.ga X.K x) fd) (S : FnScope N [a] dscope)
    (hb : ∀ (kV doc pm : Value) (an : Option Addr) (cdv ct : Value) (us : List Value), us.length = [a].length → bindArgs (PySem.W.fnOf x x params dbody dscope .none kV doc pm an cdv ct) ⟨us, []⟩ = pure ([a].zip us))
    (TB : LamX.TabB X.base X.mg c P) (hcode : X.env.code = .ref c) (hTab : ∀ H, TabOk X.K H → LamX.TabS H P (X.env.qual ++ "<lambda>"))
    (hGr : ∀ H H1, TabOk X.K H → (∀ b o, H b = some o → b ≠ P → H1 b = some o) → LamX.TabS H1 P (X.env.qual ++ "<lambda>") → Gr X.K H H1)
    (L : LamX.LamS X.env.scope lscope) (hdef : defaultsOf lparams X.env = ([], [])) (hbind : ∀ (q : Str) (cl : List (Str × Addr)) (pm cv ctv : Value), bindArgs (PySem.W.kla_fn "<lambda>" q lparams lbody lscope cl pm cv ctv) ⟨[], []⟩ = pure [])
    (hr : Room (k + 1) X.A)
    (hlam : ∀ (pins : List (Addr × Obj)) (σ : L2.St) (H : Hp) (s : Shared) (f c' : Addr) (A : Around) (outer : List Env) (s1 : Shared) (HZ : Hp) (E : XK), Inv X pins σ H s → Room kl (A.deeper (LamX.lamEnv X lscope s1.heap.objs.size f c')) → Un (frs X.stack) [] H HZ s.heap s1.heap →
      (∀ b ∈ frs outer, b ∈ frs X.stack ∨ s.heap.get? b = none) → PE (LamX.lamCx X A outer s1 HZ E lscope f c') lbody (tb E))
    (hdefn : ∀ (f : Addr) (s : Shared) (H1 : Hp) (tl : XK → Hp → VK → Prop) (Q : VK), Kr.LamP X.prog X.w X.K X.mg X.base (kl + 1) f s H1 (frs X.stack) tl → Room k (X.A.deeper (envOfC x dscope s.heap.objs.size (He.ga X.K x) (.ref (He.cT X.K (x, none)).1))) → TT tl H1 Q →
      ∃ t, PSs (cxOf (L2.CX X.prog X.w) X.prog X.w X.K X.mg X.base N x dscope (He.ga X.K x) (.ref (He.cT X.K (x, none)).1) X.A X.stack s H1 E0) dbody t ∧ t { nx := fun _ H' => Q .non H', rt := Q } (L2.start N [.ref f]) H1)
    (hdb : (x == ("__debug__" : Str)) = false := by decide) :
    PE X (.Call (.Name x p) [.Lambda lparams lbody lscope lpos] [] pos) (fun σ H Q => TabOk X.K H ∧ ∀ (H1 : Hp) (c' : Addr), Gr X.K H H1 → H1 c' = some (LamX.CodeO c' (X.env.qual ++ "<lambda>")) → TT (fun E H2 Q2 => H2 c' = some (LamX.CodeO c' (X.env.qual ++ "<lambda>")) ∧ tb E σ H2 Q2) H1 Q) := by
  refine ⟨fun pins s σ H Q I h => ?_⟩
  obtain ⟨t0, h⟩ := h
  obtain ⟨fd, F⟩ := d
  have hbn := F.bindsN hb
  have kp := F.kp
  obtain ⟨oc, od, dV, kV, doc, pm, an, cdv, ct, osl, rfl, lk, hcd, _, _⟩ := F.ex
  obtain ⟨c0, rfl⟩ := He.codeIn_ref hcd
  have e : (He.cT X.K (x, none)).1 = c0 := He.codeOf_eq lk rfl
  refine wpAny_Call_Name_kw (ld_glob I hg hm ?_ hdb)
  refine PySem.W.callWith_K (h₀ := X.base) I.ok.mod.kin kp ?_ (by rfl) (by rfl)
  show wpAny _ _ (spliced ((false, eval (.Lambda lparams lbody lscope lpos) X.env) :: backTo pos (starEach [] X.env))) _ _ s
  refine Calls.spliced_cons (lam_made I TB hcode (hTab H t0) hdef (L.has I.ok) fun f c' pm' ctv H1 s' I1 eN T1 hf hfn hfr hco => ?_)
  refine Calls.spliced_nil ⟨I1.kIn, ?_⟩
  have g1 := hGr H H1 t0 eN T1
  have LP := Kr.lamP_of (k := kl) (tb := tb) I1 L hf hfn hfr hco (hbind _ _ _ _ _) fun A outer s1 HZ E hrA un ho => hlam pins σ H1 s' f c' A outer s1 HZ E I1 hrA un ho
  have rc : codeAny (model X.prog X.w) X.A (.call (.ref (He.ga X.K x)) ⟨[.ref f], []⟩) (CR (L2.CX X.prog X.w) X.stack X.prog X.w H1 s' Q E0) s' := by
    refine LamX.run_ofS (N := N) (ps := [a]) (us := [.ref f]) (vs := [.ref f]) lk hcd S hr I1.env0 (hbn s' [.ref f] I1.kIn rfl) (.cons rfl .nil) rfl fun hr' => ?_
    rw [← e] at hr' ⊢
    exact hdefn f s' H1 _ Q LP hr' (h H1 c' g1 hco)
  refine wpAny_call (codeAny_mono rc fun r s2 hq => ?_)
  cases r with
  | error e => exact (quiet pins σ H1 s' e s2 I1 hq)
  | ok fl =>
    cases fl with
    | ret u => exact I1.after hq
    | next => exact False.elim hq
    | brk => exact False.elim hq
    | cont => exact False.elim hq
end Kt
set_option maxHeartbeats 4000000
/-! _law_error. -/
namespace Kt
open PySem PySem.Spec PyProof.Rows L2 SX Km
theorem new_none (h : Heap) : h.get? h.objs.size = none := by
  cases e : h.get? h.objs.size with
  | none => rfl
  | some o => exact absurd (Heap.lt_size e) (Nat.lt_irrefl _)
theorem frs_new {e : Env} {stk : List Env} {h : Heap} (he : e.frame = some h.objs.size) : ∀ b ∈ frs (e :: stk), b ∈ frs stk ∨ h.get? b = none := fun b hb => by
  unfold frs at hb ⊢
  rw [List.filterMap_cons, he] at hb
  rcases List.mem_cons.mp hb with z | z
  · rw [z]
    exact .inr (new_none h)
  · exact .inl z
section
variable {P : Program} {w : World} {K : PySem.W.Frag} {mg : Str → Option Value} {base : Heap}
def EErr (K : PySem.W.Frag) (Q : VK) : XK := fun cls d H' => cls = .ref (cLine K) ∧ ∃ (dd : Addr) (i : Nat), d = some dd ∧ H' dd = some (.xd [("line", nV i)]) ∧ ∀ p, H' p = none → Q (.ref p) (upd H' p (.tup [.str ("BadLine" : Str), nV i]))
def TTe (K : PySem.W.Frag) : (XK → Hp → VK → Prop) → Hp → VK → Prop := fun tl H Q => tl (EErr K Q) H (fun _ H' => Q (.str ("" : Str)) H')
abbrev nmErr : List Str := ["_law_call", "e"]
theorem scErr : FnScope nmErr ["_law_call"] (defScope sError) := ⟨rfl, rfl, rfl, by decide +kernel, rfl, by decide +kernel, by decide +kernel⟩
def tSuite (K : PySem.W.Frag) (a : Addr) (cls : Value) (d : Option Addr) : TS := fun D σ H => (1 < σ.length → σ[1]? = some (some (.ref a))) ∧ cls = .ref (cLine K) ∧ ∃ (dd : Addr) (i : Nat), d = some dd ∧ H dd = some (.xd [("line", nV i)]) ∧ ∀ p, H p = none → D.rt (.ref p) (upd H p (.tup [.str ("BadLine" : Str), nV i]))
theorem err_body (T : Fx K mg base) {A : Around} {stk : List Env} {s : Shared} {H1 : Hp} {f : Addr} {k kl : Nat} {tl : XK → Hp → VK → Prop} {Q : VK} (LP : Kr.LamP P w K mg base kl f s H1 (frs stk) tl)
    (hr : Room k (A.deeper (envOfC "_law_error" (defScope sError) s.heap.objs.size (He.ga K "_law_error") (.ref (He.cT K ("_law_error", none)).1)))) (hk : kl ≤ k) (h : TTe K tl H1 Q) :
    ∃ t, PSs (cxOf (L2.CX P w) P w K mg base nmErr "_law_error" (defScope sError) (He.ga K "_law_error") (.ref (He.cT K ("_law_error", none)).1) A stk s H1 E0) (defBody sError) t ∧ t { nx := fun _ H' => Q .non H', rt := Q } (L2.start nmErr [.ref f]) H1 := by
  refine ⟨_, pss_cons (Kr.ps_try_first (i := 1) (c := .ref (cLine K)) (ts := tSuite K)
      (tb := fun W D σ H => ∃ Ech : XK, (∀ cls d σ' H', Ech cls d H' → W cls d σ' H') ∧ σ[0]? = some (some (.ref f)) ∧ tl Ech H (fun _ H' => D.nx σ H'))
      rfl rfl scErr.nd rfl rfl ⟨by rfl, by decide, .inl T.g_BadLine⟩ (fun W pn xe tk po => ?_) (fun a oe cls d pn hz hvs => ?_)) (pss_one (ps_ret pe_str)), ?_⟩
  · refine ⟨fun pins s' σ H' D I h' => ?_⟩
    obtain ⟨Ech, hW, h1, h2⟩ := h'
    have un0 : Un (frs stk) [] H1 H1 s.heap s.heap := Un.kept (fun b o e => e)
    have hst : ∀ b ∈ frs (envOfC "_law_error" (defScope sError) s.heap.objs.size (He.ga K "_law_error") (.ref (He.cT K ("_law_error", none)).1) :: stk), b ∈ frs stk ∨ s.heap.get? b = none := frs_new rfl
    have hp := fun p1 p2 => Kr.pe_lamV (Z := (cxOf (L2.CX P w) P w K mg base nmErr "_law_error" (defScope sError) (He.ga K "_law_error") (.ref (He.cT K ("_law_error", none)).1) A stk s H1 E0).tr pn xe) (i := 0) (a := "_law_call") (p1 := p1) (p2 := p2) LP (hr.mono hk) un0 rfl (fun b hb => .inl hb) hst (passes_call tk hW) rfl (.inl rfl)
    exact (pss_one (ps_expr (hp _ _))).run pins s' σ H' D I ⟨h1, h2⟩
  · refine ⟨fun pins s' σ H' D I h' => ?_⟩
    obtain ⟨h0, rfl, dd, i, rfl, hx, hq⟩ := h'
    have hl : σ.length = 2 := I.len
    have h2 : 2 ≤ sizeLine := by decide
    have := h0 (by omega)
    refine (pss_one (ps_ret (pe_ifExp (pt_val (pe_callB (Kr.call_isX (b := true) (T := "ValueError") T.isC hz hvs T.isVE) (by rfl) T.n_isinstance (by decide +kernel) (pa_cons (pv 1) (pa_cons (pe_bltn (v := .ty "ValueError") (by rfl) T.n_ValueError (by decide +kernel) rfl) pa_nil))))
      (pe_tup (pa_cons pe_str (pa_cons (pe_xf T.line.xf T.line.no hz hvs (pv 1)) pa_nil))) pe_str))).run pins s' σ H' D I ?_
    exact ⟨_, this, rfl, ⟨_, hx⟩, true, rfl, iteT ⟨_, this, rfl, rfl, dd, _, _, rfl, hx, rfl, h2, hq⟩⟩
  · exact ⟨EErr K Q, fun cls d σ' H' ⟨e1, dd, i, e2, e3, e4⟩ => ⟨by rw [e1]; exact T.line.me, fun a na => ⟨fun hl => by
      rw [List.length_set] at hl
      rw [List.getElem?_set_self hl], e1, dd, i, e2, e3, e4⟩⟩, rfl, h⟩
end
end Kt
set_option maxHeartbeats 4000000
/-! _law_told. -/
namespace Kt
open PySem PySem.Spec PyProof.Rows L2 SX Km
theorem pe_wk {X : Cx} {e : Expr} {t t' : TE} (h : PE X e t) (hm : ∀ σ H Q, t' σ H Q → t σ H Q) : PE X e t' := ⟨fun pins s σ H Q I hq => h.run pins s σ H Q I (hm σ H Q hq)⟩
section
variable {P : Program} {w : World} {K : PySem.W.Frag} {mg : Str → Option Value} {base : Heap}
theorem Fx.tabL (T : Fx K mg base) {q : He.Defn} (h : q ∈ tf) : LamX.TabB base mg (He.cT K q).1 (He.cT K q).2 := T.tb _ (List.mem_map.mpr ⟨q, h, rfl⟩)
/-- what _law_told makes of a lambda that tells tl -/
def TTt (K : PySem.W.Frag) : (XK → Hp → VK → Prop) → Hp → VK → Prop := fun tl H Q => TabOk K H ∧ ∃ (G : V → Hp → Prop) (B : Nat → Prop), (∀ v H2 H3, G v H2 → ExtL H2 H3 → G v H3) ∧
  (∀ H1 E2 Q2, Gr K H H1 → (∀ v H2, Gr K H1 H2 → G v H2 → Q2 v H2) → (∀ i, B i → BadAt K H1 E2 i) → tl E2 H1 Q2) ∧ (∀ v H', Gr K H H' → G v H' → Q v H') ∧
  (∀ i a H', B i → Gr K H H' → SqT K H' a [.str ("BadLine" : Str), nV i] → Q (.ref a) H')
def tb3 (f : Addr) (tl : XK → Hp → VK → Prop) : XK → TE := fun E σ H Q => σ[0]? = some (some (.ref f)) ∧ ∃ F, σ[1]? = some (some (.ref F)) ∧ (∃ l, H F = some (.lst l)) ∧ tl E H (fun v H' => ∃ xs, H' F = some (.lst xs) ∧ xs.length < sizeLine ∧ Q .non (upd H' F (.lst (xs ++ [v]))))
abbrev nmTold : List Str := ["_law_work", "_law_found", "_law_error_here"]
theorem scTold : FnScope nmTold ["_law_work"] (defScope sTold) := ⟨rfl, rfl, rfl, by decide +kernel, rfl, by decide +kernel, by decide +kernel⟩
theorem dp_bad {H : Hp} {a : Addr} {i : Nat} (h : SqT K H a [.str ("BadLine" : Str), nV i]) : Dp K H (.ref a) (.tuple [.str ("BadLine" : Str), .int (i : Int)]) := .tup h (.cons (.str _) (.cons (.int _) .nil))
theorem shaped_bad (i : Nat) : SeqAt.shaped (.tuple [.str ("BadLine" : Str), .int (i : Int)]) = true := by
  unfold SeqAt.shaped
  rw [Bool.and_eq_true]
  refine ⟨?_, decide_eq_true ?_⟩
  · show (PyData.strOk ("BadLine" : Str) && (true && true)) = true
    decide +kernel
  · simp only [PyData.depth, PyData.depthAll]
    omega
theorem told_body (T : Fx K mg base) {A : Around} {stk : List Env} {s4 : Shared} {H4 : Hp} {f : Addr} {k kl : Nat} {tl : XK → Hp → VK → Prop} {Q : VK} (LP : Kr.LamP P w K mg base kl f s4 H4 (frs stk) tl)
    (hr : Room k (A.deeper (envOfC "_law_told" (defScope sTold) s4.heap.objs.size (He.ga K "_law_told") (.ref (He.cT K ("_law_told", none)).1)))) (hk : kl + 2 ≤ k) (h : TTt K tl H4 Q) :
    ∃ t, PSs (cxOf (L2.CX P w) P w K mg base nmTold "_law_told" (defScope sTold) (He.ga K "_law_told") (.ref (He.cT K ("_law_told", none)).1) A stk s4 H4 E0) (defBody sTold) t ∧ t { nx := fun _ H' => Q .non H', rt := Q } (L2.start nmTold [.ref f]) H4 := by
  have eq : (cxOf (L2.CX P w) P w K mg base nmTold "_law_told" (defScope sTold) (He.ga K "_law_told") (.ref (He.cT K ("_law_told", none)).1) A stk s4 H4 E0).env.qual ++ "<lambda>" = q3 := by
    show ("_law_told.<locals>." : Str) ++ "<lambda>" = q3
    decide +kernel
  refine ⟨_, pss_cons (ps_set (i := 1) scTold.nd rfl (.inr rfl) (pe_lst pa_nil))
    (pss_cons (ps_set (i := 2) scTold.nd rfl (.inl rfl) (pe_lamdef (kl := kl) (k := kl + 1) (TT := TTe K) (tb := tb3 f tl) (by rfl) T.g_law_error T.d_law_error scErr (fun _ _ _ _ _ _ us hl => match us, hl with | [_], _ => rfl)
        (T.tabL (q := ("_law_told", none)) (by simp [tf])) rfl (fun H t => by rw [eq]; exact t.a3) (fun H H1 t e h => gr_tab3 T.m t e (by rw [← eq]; exact h)) (LamX.lamS_by (by show LamX.lamSB (defScope sTold) _ = true; decide +kernel)) rfl (fun _ _ _ _ _ => rfl) (hr.mono hk)
        (fun pins σ H s f3 c3 A3 outer s1 HZ E I hrA un ho => ?_) (fun f3 s H1 tl3 Q3 LP3 hr3 h3 => err_body T LP3 hr3 (Nat.le_refl _) h3)))
    (pss_one (ps_ret (pe_ifExp (pt_cmpR (op_neD hr.units) (pv 2) pe_str (nomark _)) (pv 2) (pe_ix ix_list (pv 1) pe_int (fun _ _ => rfl)))))), ?_⟩
  · have un4 : Un (frs stk) [] H4 HZ s4.heap s1.heap := Kr.un_trans (show Un (frs stk) [] H4 H s4.heap s.heap from I.base) un (frs_new rfl)
    have back : ∀ b, s.heap.get? b = none → s4.heap.get? b = none := fun b hb => by
      cases e : s4.heap.get? b with
      | none => rfl
      | some o =>
        obtain ⟨o', e'⟩ := (show Un (frs stk) [] H4 H s4.heap s.heap from I.base).there b o e (by simp)
        rw [hb] at e'
        cases e'
    have hfs : ∀ b ∈ frs outer, b ∈ frs stk ∨ s4.heap.get? b = none := fun b hb => by
      rcases ho b hb with z | z
      · exact frs_new rfl b z
      · exact .inr (back b z)
    have hst : ∀ e : Env, e.frame = some s1.heap.objs.size → ∀ b ∈ frs (e :: outer), b ∈ frs stk ∨ s4.heap.get? b = none := fun e he b hb => by
      rcases frs_new he b hb with z | z
      · exact hfs b z
      · cases e : s4.heap.get? b with
        | none => exact .inr rfl
        | some o =>
          obtain ⟨o', e'⟩ := un4.there b o e (by simp)
          rw [z] at e'
          cases e'
    refine pe_wk (pe_bm PySem.F.plainAttrs_list PySem.F.slot_list_append PySem.F.type_list_append mt_append (pv 1) (pa_cons (PE.mono (Kr.pe_lamV (i := 0) (a := "_law_work") LP (hrA.mono (Nat.le_refl _)) un4 rfl hfs (hst _ rfl) (passes_call (takes_of rfl rfl rfl rfl) (fun _ _ _ _ h => h)) rfl (.inr (.inr rfl)))) pa_nil)) (fun σ' H' Q' hq => ?_)
    obtain ⟨h0, F, h1, ⟨l, hl⟩, ht⟩ := hq
    exact ⟨_, h1, .inl ⟨rfl, _, .of hl⟩, _, ⟨h0, ht⟩, fun v H2 ⟨xs, hx, hz, hq⟩ => ⟨F, xs, v, rfl, rfl, hx, hz, hq⟩⟩
  · obtain ⟨t0, G, B, hst, hw, hg, hb⟩ := h
    have h9 : 1 ≤ sizeLine := by decide
    refine ⟨Nat.zero_le _, fun F nF => ?_⟩
    have g0 : Gr K H4 (upd H4 F (.lst [])) := (Gr.refl t0).new nF
    refine ⟨g0.tab, fun H5 c3 g5 hc3 => ⟨hc3, rfl, F, rfl, ⟨_, g5.ext _ _ upd_same (fun _ z => nomatch z)⟩, ?_⟩⟩
    have g5' := g0.trans g5
    have hF5 : H5 F = some (.lst []) := g5.ext _ _ upd_same (fun _ z => nomatch z)
    refine hw H5 _ _ g5' (fun v H6 g6 hG => ?_) (fun i hi d H6 g6 hx => ?_)
    · have hF6 : H6 F = some (.lst []) := g6.ext _ _ hF5 (fun _ z => nomatch z)
      refine ⟨[], hF6, h9, ?_⟩
      refine ⟨_, rfl, .str ("" : Str), .str ("" : Str), .str _, .str _, by decide +kernel, by decide +kernel, _, rfl, iteF ⟨_, rfl, F, [v], 0, v, rfl, rfl, .of upd_same, atI_nat (j := 0) rfl, ?_⟩⟩
      exact hg v _ (gr_push nF ⟨_, hF6⟩ (g5'.trans g6)) (hst v _ _ hG (ExtL.upd hF6))
    · refine ⟨rfl, d, i, rfl, hx, fun p np => ?_⟩
      have g7 := (g5'.trans g6).new (o := .tup [.str ("BadLine" : Str), nV i]) np
      have hp : SqT K (upd H6 p (.tup [.str ("BadLine" : Str), nV i])) p [.str ("BadLine" : Str), nV i] := .inl (.inl upd_same)
      exact ⟨_, rfl, _, .str ("" : Str), dp_bad hp, .str _, shaped_bad i, by decide +kernel, _, rfl, iteT ⟨_, rfl, hb i p _ hi g7 hp⟩⟩
end
end Kt
set_option maxHeartbeats 4000000
/-! Good lines, their texts. -/
namespace Kt
open PySem PySem.Spec PyProof.Rows L2 SX Km
theorem S_own (s : Str) : V.str s = sV s.cps.toList := rfl
/-- a line that the law may write -/
def GoodL (l : List Nat) : Prop := Asc l ∧ 10 ∉ l ∧ l.length ≤ 200 ∧ (wordsOf l).length ≤ 50
def goodB (l : List Nat) : Bool := l.all (fun c => decide (c < 128)) && (!l.contains 10 && (decide (l.length ≤ 200) && decide ((wordsOf l).length ≤ 50)))
theorem goodB_ok {l : List Nat} (h : goodB l = true) : GoodL l := by
  unfold goodB at h
  simp only [Bool.and_eq_true, List.all_eq_true, decide_eq_true_eq, Bool.not_eq_true', List.contains_eq_mem, decide_eq_false_iff_not] at h
  exact ⟨h.1, h.2.1, h.2.2.1, h.2.2.2⟩
theorem GoodL.ok {l : List Nat} (h : GoodL l) : LineOk l := ⟨h.1, by have := h.2.2.1; omega, h.2.2.2⟩
def moreA : List Str := ["box 1 2", "box 2 1", "box", "box 0", "box 1001", "box 1000", "box 01", "lost 0", "lost", "lost 1 0", "lost 9", "lose 0", "find 1"]
def moreB : List Str := ["weigh 10000", "weigh 10001", "lose -1", "lose", "weigh 1 1", "", "Box 1", "weigh 1_0", "find 0 ", "lost  0", "weigh 00010"]
theorem more_good : ∀ s ∈ moreA ++ moreB, GoodL s.cps.toList := by
  have h : ((moreA ++ moreB).all fun s => goodB s.cps.toList) = true := by decide +kernel
  intro s hs
  exact goodB_ok (List.all_eq_true.mp h s hs)
theorem cut_lines2 {c : Nat} : ∀ {ls : List (List Nat)} {p : List Nat}, (∀ q ∈ ls, c ∉ q) → c ∉ p → cut c ((ls.map (· ++ [c])).flatten ++ p) = ls ++ [p]
  | [], p, _, hp => cut_free hp
  | q :: ls, p, h, hp => by
    have h1 := h q List.mem_cons_self
    have ih := cut_lines2 (c := c) (ls := ls) (p := p) (fun q hq => h q (List.mem_cons_of_mem _ hq)) hp
    show cut c (((q ++ [c]) ++ (ls.map (· ++ [c])).flatten) ++ p) = q :: (ls ++ [p])
    rw [List.append_assoc, List.append_assoc, List.singleton_append, cut_piece _ h1, ih]
def TxGood (tx : Option (List Nat)) : Prop := ∀ l, tx = some l → l.length ≤ 90000 ∧ ∀ u ∈ cut 10 l, LineOk u
theorem nil_ok : LineOk [] := ⟨(fun _ h => nomatch h), by decide, by decide⟩
theorem flat_le {ls : List (List Nat)} {k : Nat} (h : ∀ l ∈ ls, l.length ≤ k) : (ls.flatten).length ≤ k * ls.length := by
  rw [flat_len]
  exact sum_le h
theorem textT_len {ls : List (List Nat)} (h : ∀ l ∈ ls, GoodL l) : (textT ls).length ≤ 201 * ls.length := by
  unfold textT
  have := flat_le (ls := ls.map (· ++ [10])) (k := 201) fun l hl => by
    obtain ⟨q, hq, rfl⟩ := List.mem_map.mp hl
    have := (h q hq).2.2.1
    rw [List.length_append]
    show _ + 1 ≤ 201
    omega
  rw [List.length_map] at this
  exact this
theorem tx_text {ls : List (List Nat)} (h : ∀ l ∈ ls, GoodL l) (hz : ls.length ≤ 300) : TxGood (some (textT ls)) := fun l e => by
  cases e
  have h1 := textT_len h
  refine ⟨by omega, fun u hu => ?_⟩
  have e2 : cut 10 (textT ls) = ls ++ [[]] := cut_lines fun q hq => (h q hq).2.1
  rw [e2] at hu
  rcases List.mem_append.mp hu with z | z
  · exact (h u z).ok
  · rw [List.mem_singleton.mp z]
    exact nil_ok
theorem tx_cut {ls : List (List Nat)} (h : ∀ l ∈ ls, GoodL l) (hz : ls.length ≤ 300) : TxGood (some (textT ls).dropLast) := fun l e => by
  cases e
  have h1 := textT_len h
  refine ⟨by rw [List.length_dropLast]; omega, fun u hu => ?_⟩
  rcases List.eq_nil_or_concat ls with e | ⟨ks, p, e⟩
  · rw [e] at hu
    have : cut 10 (textT ([] : List (List Nat))).dropLast = [[]] := rfl
    rw [this] at hu
    rw [List.mem_singleton.mp hu]
    exact nil_ok
  · rw [List.concat_eq_append] at e
    subst e
    have e2 : (textT (ks ++ [p])).dropLast = (ks.map (· ++ [10])).flatten ++ p := by
      unfold textT
      rw [List.map_append, List.flatten_append]
      show (_ ++ ((p ++ [10]) ++ [])).dropLast = _
      rw [List.append_nil, ← List.append_assoc, List.dropLast_concat]
    rw [e2, cut_lines2 (fun q hq => (h q (List.mem_append_left _ hq)).2.1) (h p (by simp)).2.1] at hu
    exact (h u hu).ok
theorem tx_nl : TxGood (some [10]) := tx_text (ls := [[]]) (fun l hl => by rw [List.mem_singleton.mp hl]; exact goodB_ok (by decide +kernel)) (by decide)
theorem tx_nil : TxGood (some []) := tx_text (ls := []) (fun l hl => by cases hl) (by decide)
theorem tx_none : TxGood none := fun l e => by cases e
section
variable {P : Program} {w : World} {K : PySem.W.Frag} {mg : Str → Option Value} {base : Heap}
/-- ''.join([x + '\n' for x in the list at a]) -/
theorem lines_read {σ : L2.St} {H : Hp} {Q : VK} {a : Addr} {ls : List (List Nat)} (hT : SqL K H a (ls.map sV)) (hg : ∀ l ∈ ls, GoodL l) (hz : ls.length ≤ 300) (t0 : TabOk K H) (hQ : ∀ H', Gr K H H' → Q (.str (S (textT ls))) H')
    (te : TE) (i : Nat) (hs : ∀ l H2 Q, l.length ≤ 200 → Q (.str (S (l ++ [10]))) H2 → te ((wipe σ [i]).set i (some (sV l))) H2 Q) :
    ∀ D, H D = none → ∃ W : Nat → Nat → Hp → Prop, (∃ m, W 0 m (upd H D (.lst []))) ∧ ∀ k m H, W k m H →
      ((Itl K a).stop k H ∧ (∃ a' p, ∃ ys : List Str, V.str "" = .str a' ∧ [V.ref D] = [.ref p] ∧ (SqL K H p (ys.map V.str) ∨ SqT K H p (ys.map V.str)) ∧ (ys.map (·.length)).sum + ys.length * a'.length ≤ 16777216 ∧ Q (.str (Txt.join a' ys)) H)) ∨
      ((Itl K a).go k H ∧ ∃ Nx : Hp → Prop, (∀ H', Nx H' → ∃ m', m' < m ∧ W (k + 1) m' H') ∧ ∀ x H', (Itl K a).yld k H x H' → gName i x (wipe σ [i]) H' fun σ2 H2 => wipe σ2 [i] = wipe σ [i] ∧ tYes σ2 H2 fun b H3 =>
        if b = true then te σ2 H3 fun y H4 => ∃ acc, H4 D = some (.lst acc) ∧ acc.length < sizeLine ∧ Nx (upd H4 D (.lst (acc ++ [y]))) else Nx H3) := by
  intro D nD
  refine lc_mapL t0 nD hT (by rw [List.length_map]; omega) (fun j y _ => ∃ t, (ls.map (· ++ [10]))[j]? = some t ∧ y = .str (S t)) (fun j y H2 H3 h _ => h) (fun j x H2 Qe hx g hq => ?_) (fun ys H2 g hy hl2 hf => ?_)
  · rw [List.getElem?_map] at hx
    obtain ⟨l, hl, rfl⟩ := Option.map_eq_some_iff.mp hx
    exact hs l H2 Qe (hg l (List.mem_of_getElem? hl)).2.2.1 (hq _ H2 (Gr.refl g.tab) ⟨_, by rw [List.getElem?_map, hl]; rfl, rfl⟩)
  · have e := texts_of (ts := ls.map (· ++ [10])) (by rw [List.length_map] at hl2 ⊢; exact hl2) hf
    refine ⟨"", D, (ls.map (· ++ [10])).map S, rfl, rfl, .inl (.of (by rw [← e]; exact hy)), ?_, ?_⟩
    · rw [lens, List.length_map]
      have : ("" : Str).length = 0 := by decide +kernel
      rw [this]
      have h1 := textT_len hg
      unfold textT at h1
      rw [flat_len] at h1
      have e3 : (List.map (fun x : List Nat => x.length) (ls.map (· ++ [10]))).sum = ((ls.map (· ++ [10])).map List.length).sum := rfl
      omega
    · rw [s_none, join_S, joinL_nil]
      exact hQ H2 g
end
end Kt
set_option maxHeartbeats 4000000
/-! _law_bent. -/
namespace Kt
open PySem PySem.Spec PyProof.Rows L2 SX Km
theorem cutS_last (l : List Nat) : cutS (S l) none (some (-1)) = S l.dropLast := by
  have e : cutS (S l) none (some (-1)) = ⟨((l.drop 0).take (l.length - 1 - 0)).toArray⟩ := by
    unfold cutS
    have h1 : (S l).length = l.length := S_len l
    rw [HT.sIx_none, h1]
    have e : HT.sIx l.length l.length (some (-1)) = l.length - 1 := by
      show (if (-1 : Int) < 0 then ((-1 : Int) + (l.length : Int)).toNat else min (-1 : Int).toNat l.length) = _
      rw [if_pos (by omega)]
      omega
    rw [e]
  rw [e, List.drop_zero, Nat.sub_zero, ← List.dropLast_eq_take]
theorem good_at {ls : List (List Nat)} (h : ∀ l ∈ ls, GoodL l) (k : Nat) : (∀ l ∈ ls.take k, GoodL l) ∧ (∀ l ∈ ls.drop k, GoodL l) := ⟨fun l hl => h l (List.mem_of_mem_take hl), fun l hl => h l (List.mem_of_mem_drop hl)⟩
theorem take_sV (ls : List (List Nat)) (k : Nat) : cutV (ls.map sV) none (some (k : Int)) = (ls.take k).map sV := by
  rw [cut_to, List.map_take]
theorem drop_sV (ls : List (List Nat)) (k : Nat) : cutV (ls.map sV) (some (k : Int)) none = (ls.drop k).map sV := by
  rw [cut_from, List.map_drop]
theorem drop_sV1 (ls : List (List Nat)) (k : Nat) : cutV (ls.map sV) (some ((k : Int) + 1)) none = (ls.drop (k + 1)).map sV := drop_sV ls (k + 1)
theorem mid_sV (ls : List (List Nat)) (k : Nat) : cutV (ls.map sV) (some (k : Int)) (some ((k : Int) + 1)) = ((ls.take (k + 1)).drop k).map sV := by
  have e : cutV (ls.map sV) (some (k : Int)) (some (((k + 1 : Nat)) : Int)) = _ := cut_mid (ls.map sV) k (k + 1)
  rw [List.map_drop, List.map_take]
  exact e
section
variable {P : Program} {w : World} {K : PySem.W.Frag} {mg : Str → Option Value} {base : Heap}
def spLBent (K : PySem.W.Frag) (ns : List Int) (sc : Addr) : Sp := fun vs H Q _ => ∃ (r D : Addr) (ls : List (List Nat)), vs = [.ref r, .ref D] ∧ RowAt K ns sc H r ∧ SqL K H D (ls.map sV) ∧ D ≠ r ∧ ls.length ≤ 8 ∧ (∀ l ∈ ls, GoodL l) ∧ TabOk K H ∧
  ∀ (v : V) (tx : Option (List Nat)) (H' : Hp), GrR K ns sc r H H' → TxOk v tx → TxGood tx → Q v H'
abbrev nmBent : List Str := ["_law_row", "_law_lines_here", "_law_more", "_law_at", "_law_way", "_law_bent_here", "_law_line_here", "_law_text"]
theorem scBent : FnScope nmBent ["_law_row", "_law_lines_here"] (defScope sBent) := ⟨rfl, rfl, rfl, by decide +kernel, rfl, by decide +kernel, by decide +kernel⟩
def tBentR (K : PySem.W.Frag) (ns : List Int) (sc r : Addr) : TS := fun D σ H => ∃ (v1 v2 v3 v4 : V) (y6 : Option V) (B : Addr) (bl : List (List Nat)), σ = [some (.ref r), some v1, some v2, some v3, some v4, some (.ref B), y6, none] ∧ TabOk K H ∧ RowAt K ns sc H r ∧ H B = some (.lst (bl.map sV)) ∧ B ≠ r ∧
  (∀ l ∈ bl, GoodL l) ∧ bl.length ≤ 10 ∧ ∀ (v : V) (tx : Option (List Nat)) (H' : Hp), GrR K ns sc r H H' → TxOk v tx → TxGood tx → D.rt v H'
theorem bent_rest (T : Fx K mg base) (ns : List Int) (sc r : Addr) {j : Nat} {A : Around} {outer : List Env} {s : Shared} {H0 : Hp} {E : XK} (hr : Room j (A.deeper (envOfC "_law_bent" (defScope sBent) s.heap.objs.size (He.ga K "_law_bent") (.ref (He.cT K ("_law_bent", none)).1)))) (hj : 2 ≤ j) :
    PSs (cxOf (L2.CX P w) P w K mg base nmBent "_law_bent" (defScope sBent) (He.ga K "_law_bent") (.ref (He.cT K ("_law_bent", none)).1) A outer s H0 E) ((defBody sBent).drop 5) (tBentR K ns sc r) := by
  refine pss_wk (pss_cons (ps_set (i := 7) scBent.nd rfl (.inl rfl) (PE.mono (pe_join pe_str (pe_lc (own := [("_law_line_here", 6)]) (g := gName 6) (tt := tYes) rfl scBent.nd (pi_list (pv 5)) (blkOk_by (own := [("_law_line_here", 6)]) (N := nmBent) (sc := defScope sBent) (by decide +kernel)) (fun _ _ _ _ _ => pg_name (i := 6) scBent.nd rfl (.inl rfl)) (fun _ _ _ _ _ => pts_nil)
      (fun _ _ _ _ _ => pe_op op_add_str (pv 6) pe_str)))))
    (pss_one (ps_ret (pe_cl (cl_pick T ns sc) hr hj (by rfl) quiet (pa_cons (pv 0) (pa_cons (pe_lst (pa_cons (pv 7) (pa_cons (pv 7) (pa_cons (pv 7) (pa_cons (pv 7) (pa_cons (pe_slice sl_str (pv 7) po_none (po_some (pe_un un_neg pe_int))) (pa_cons pe_str (pa_cons pe_non (pa_cons pe_int (pa_cons pe_str pa_nil)))))))))) pa_nil)))))) (fun D σ H h => ?_)
  obtain ⟨v1, v2, v3, v4, y6, B, bl, rfl, t0, hrow, hB, hBr, hg, hz, hQ⟩ := h
  have h9 : 100000 ≤ sizeLine := by decide
  refine ⟨fun v H2 => Gr K H H2 ∧ v = .str (S (textT bl)), ⟨⟨_, rfl⟩, _, rfl, B, rfl, ⟨_, .of hB⟩, fun Dn nD => ?_⟩, fun v H2 ⟨g2, e⟩ => ?_⟩
  refine lines_read (Q := fun v H2 => Gr K H H2 ∧ v = .str (S (textT bl))) (.of hB) hg (by omega) t0 (fun H2 g2 => ⟨g2, rfl⟩) _ 6 (fun l H2 Q hl hq => ?_) Dn nD
  · have h2 : ("\n" : Str).length = 1 := by decide +kernel
    refine ⟨_, rfl, _, _, rfl, rfl, by rw [S_len, h2]; omega, ?_⟩
    rw [s_nl, S_cat]
    exact hq
  · subst e
    have r2 := hrow.ext g2.ext
    have hl := textT_len hg
    refine ⟨_, rfl, _, rfl, _, rfl, _, rfl, _, rfl, _, rfl, 1, rfl, _, rfl, S (textT bl), rfl, by rw [S_len]; omega, by show 9 ≤ sizeLine; decide, fun p np => ?_⟩
    rw [show cutS (S (textT bl)) none (some (-1)) = S (textT bl).dropLast from cutS_last _]
    have g3 := g2.new (o := .lst [sV (textT bl), sV (textT bl), sV (textT bl), sV (textT bl), sV (textT bl).dropLast, .str ("\n" : Str), .non, .int 5, .str ("" : Str)]) np
    have r3 := hrow.ext g3.ext
    refine ⟨r, p, _, rfl, r3, .of upd_same, ?_, by simp, by simp, fun k v H' hk e1 r4 => ?_⟩
    · obtain ⟨l0, hl0⟩ := r2.lst
      exact (ne_of_none hl0 np).symm
    · have g4 : GrR K ns sc r H H' := (GrR.of g3 hrow).trans (GrR.drawn g3.tab r3 e1 r4)
      have t1 := tx_text hg (by omega)
      match k, hk with
      | 0, hk => cases hk; exact hQ _ (some _) H' g4 rfl t1
      | 1, hk => cases hk; exact hQ _ (some _) H' g4 rfl t1
      | 2, hk => cases hk; exact hQ _ (some _) H' g4 rfl t1
      | 3, hk => cases hk; exact hQ _ (some _) H' g4 rfl t1
      | 4, hk => cases hk; exact hQ _ (some _) H' g4 rfl (tx_cut hg (by omega))
      | 5, hk => cases hk; exact hQ _ (some [10]) H' g4 (congrArg V.str s_nl) tx_nl
      | 6, hk => cases hk; exact hQ _ none H' g4 (.inl rfl) tx_none
      | 7, hk => cases hk; exact hQ _ none H' g4 (.inr rfl) tx_none
      | 8, hk => cases hk; exact hQ _ (some []) H' g4 (congrArg V.str s_none) tx_nil
theorem cl_law_bent (T : Fx K mg base) (ns : List Int) (sc : Addr) : Cl P w K mg base 3 "_law_bent" (spLBent K ns sc) := by
  refine cl_of T.d_law_bent T.g_law_bent scBent (fun _ _ _ _ _ _ us hl => match us, hl with | [_, _], _ => rfl) (fun vs H Q E h => ?_) (fun A outer s H vs Q E hr h => ?_)
  · obtain ⟨r, D, ls, rfl, _⟩ := h
    rfl
  · obtain ⟨r, D, ls, rfl, hrow, hD, hDr, hz, hg, t0, hQ⟩ := h
    refine ⟨_, pss_cons (ps_set (i := 2) scBent.nd rfl (.inr rfl) (pe_lst (pa_cons pe_str (pa_cons pe_str (pa_cons pe_str (pa_cons pe_str (pa_cons pe_str (pa_cons pe_str (pa_cons pe_str (pa_cons pe_str (pa_cons pe_str (pa_cons pe_str (pa_cons pe_str (pa_cons pe_str (pa_cons pe_str pa_nil)))))))))))))))
      (pss_cons (ps_set (i := 2) scBent.nd rfl (.inr rfl) (pe_op op_cat (pv 2) (pe_lst (pa_cons pe_str (pa_cons pe_str (pa_cons pe_str (pa_cons pe_str (pa_cons pe_str (pa_cons pe_str (pa_cons pe_str (pa_cons pe_str (pa_cons pe_str (pa_cons pe_str (pa_cons pe_str pa_nil))))))))))))))
      (pss_cons (ps_par (i := 3) (j := 4) rfl scBent.nd rfl rfl (by decide) rfl rfl (pa_cons (pe_cl (cl_taken T ns sc) hr (by decide) (by rfl) quiet (pa_cons (pv 0) (pa_cons (pe_op op_add (pe_callB call_len (by rfl) T.n_len (by decide +kernel) (pa_cons (pv 1) pa_nil)) pe_int) pa_nil)))
          (pa_cons (pe_cl (cl_taken T ns sc) hr (by decide) (by rfl) quiet (pa_cons (pv 0) (pa_cons pe_int pa_nil))) pa_nil)) (by rfl))
      (pss_cons (ps_set (i := 5) scBent.nd rfl (.inl rfl) (PE.mono (pe_ifExp (pt_cmpR op_lt (pv 4) pe_int (nomark _)) (pe_op op_cat (pe_op op_cat (pe_slice sl_list (pv 1) po_none (po_some (pv 3))) (pe_lst (pa_cons (pe_cl (cl_pick T ns sc) hr (by decide) (by rfl) quiet (pa_cons (pv 0) (pa_cons (pv 2) pa_nil))) pa_nil))) (pe_slice sl_list (pv 1) (po_some (pv 3)) po_none)) (pe_op op_cat (pe_slice sl_list (pv 1) po_none (po_some (pv 3))) (pe_slice sl_list (pv 1) (po_some (pe_op op_add (pv 3) pe_int)) po_none)))))
      (pss_cons (ps_if (pt_cmpR op_gt (pv 4) pe_int (nomark _)) (pss_one (ps_set (i := 5) scBent.nd rfl (.inl rfl) (pe_op op_cat (pe_op op_cat (pe_slice sl_list (pv 1) po_none (po_some (pv 3))) (pe_lc (own := [("_law_line_here", 6)]) (g := gName 6) (tt := tYes) rfl scBent.nd (pi_list (pe_slice sl_list (pv 1) (po_some (pv 3)) (po_some (pe_op op_add (pv 3) pe_int))))
          (blkOk_by (own := [("_law_line_here", 6)]) (N := nmBent) (sc := defScope sBent) (by decide +kernel)) (fun _ _ _ _ _ => pg_name (i := 6) scBent.nd rfl (.inl rfl)) (fun _ _ _ _ _ => pts_nil) (fun _ _ _ _ _ => (pe_cl (cl_pick T ns sc) hr (by decide) (by rfl) quiet (pa_cons (pv 0) (pa_cons (pv 2) pa_nil)))))) (pe_slice sl_list (pv 1) (po_some (pe_op op_add (pv 3) pe_int)) po_none)))) pss_nil)
      (bent_rest T ns sc r hr (by decide)))))), ?_⟩
    have h30 : 30 ≤ sizeLine := by decide
    refine ⟨by show 13 ≤ sizeLine; decide, fun M0 nM0 => ?_⟩
    have g1 := (Gr.refl t0).new (o := .lst (moreA.map V.str)) nM0
    refine ⟨_, rfl, by show 11 ≤ sizeLine; decide, fun M1 nM1 => ?_⟩
    have g2 := g1.new (o := .lst (moreB.map V.str)) nM1
    have hM0 : (upd (upd H M0 (.lst (moreA.map V.str))) M1 (.lst (moreB.map V.str))) M0 = some (.lst (moreA.map V.str)) := by rw [upd_ne (ne_of_none upd_same nM1), upd_same]
    refine ⟨M0, M1, _, _, rfl, rfl, hM0, upd_same, by show 24 ≤ sizeLine; decide, fun M nM => ?_⟩
    have g3 := g2.new (o := .lst (moreA.map V.str ++ moreB.map V.str)) nM
    have nr : ∀ {H' : Hp} {p : Addr}, RowAt K ns sc H' r → H' p = none → p ≠ r := fun {H' p} h np => by
      obtain ⟨l0, hl0⟩ := h.lst
      exact (ne_of_none hl0 np).symm
    have r3 := hrow.ext g3.ext
    have hM3 : (upd (upd (upd H M0 (.lst (moreA.map V.str))) M1 (.lst (moreB.map V.str))) M (.lst (moreA.map V.str ++ moreB.map V.str))) M = some (.lst ((moreA ++ moreB).map V.str)) := by rw [upd_same, List.map_append]
    have hMr : M ≠ r := nr (hrow.ext g2.ext) nM
    have q3 := GrR.of g3 hrow
    have hD3 := q3.seqL hDr hD
    refine ⟨_, rfl, _, rfl, _, _, rfl, .inl ⟨_, hD3, rfl⟩, _, _, rfl, rfl, r, ls.length + 1, ?_, r3, by omega, by omega, fun at_ H4 hat e4 r4 => ?_⟩
    · rw [List.length_map]
      rfl
    have q4 := q3.trans (GrR.drawn q3.tab r3 e4 r4)
    refine ⟨_, rfl, r, 5, rfl, r4, by decide, by decide, fun way H5 hway e5 r5 => ⟨_, _, rfl, ?_⟩⟩
    have q5 := q4.trans (GrR.drawn q4.tab r4 e5 r5)
    have hM5 : H5 M = some (.lst ((moreA ++ moreB).map V.str)) := by rw [e5 M hMr, e4 M hMr]; exact hM3
    have hD5 := q5.seqL hDr hD
    have mgood : ∀ (k : Nat) (v : V), ((moreA ++ moreB).map V.str)[k]? = some v → ∃ u, v = sV u ∧ GoodL u := fun k v h => by
      rw [List.getElem?_map] at h
      obtain ⟨s, hs, rfl⟩ := Option.map_eq_some_iff.mp h
      exact ⟨_, S_own s, more_good s (List.mem_of_getElem? hs)⟩
    have mlen : ((moreA ++ moreB).map V.str).length = 24 := rfl
    have tl := good_at hg
    refine ⟨fun v H6 => GrR K ns sc r H5 H6 ∧ ∃ (B : Addr) (bl : List (List Nat)), v = .ref B ∧ H6 B = some (.lst (bl.map sV)) ∧ B ≠ r ∧ (∀ l ∈ bl, GoodL l) ∧ bl.length ≤ 10, ⟨_, rfl, _, _, rfl, rfl, _, rfl, ?_⟩, fun v H6 hv => ?_⟩
    · by_cases hw : (way : Int) < 2
      · rw [decide_eq_true hw]
        refine iteT ⟨_, rfl, _, rfl, _, rfl, D, _, rfl, hD5, fun L1 n1 => ?_⟩
        have p1 := (GrR.refl q5.tab q5.row).new (o := .lst (cutV (ls.map sV) none (some (at_ : Int)))) n1
        have L1r := nr q5.row n1
        have hM6 : (upd H5 L1 (.lst (cutV (ls.map sV) none (some (at_ : Int))))) M = some (.lst ((moreA ++ moreB).map V.str)) := by rw [upd_ne (ne_of_none hM5 n1)]; exact hM5
        refine ⟨_, rfl, _, rfl, r, M, _, rfl, p1.row, .of hM6, hMr, by rw [mlen]; decide, by rw [mlen]; decide, fun k v H7 hk e7 r7 => ⟨by show 1 ≤ sizeLine; decide, fun L2 n2 => ?_⟩⟩
        obtain ⟨u, rfl, hu⟩ := mgood k v hk
        have p2 := p1.trans (GrR.drawn p1.tab p1.row e7 r7)
        have p3 := p2.new (o := .lst [sV u]) n2
        have hL1 : (upd H7 L2 (.lst [sV u])) L1 = some (.lst (cutV (ls.map sV) none (some (at_ : Int)))) := by
          have : H7 L1 = some (.lst (cutV (ls.map sV) none (some (at_ : Int)))) := by rw [e7 L1 L1r, upd_same]
          rw [upd_ne (ne_of_none this n2)]
          exact this
        have zt : (cutV (ls.map sV) none (some (at_ : Int))).length ≤ 8 := by
          rw [take_sV, List.length_map, List.length_take]
          omega
        refine ⟨L1, L2, _, _, rfl, rfl, hL1, upd_same, ?_, fun L3 n3 => ?_⟩
        · show _ + 1 ≤ _
          omega
        have p4 := p3.new (o := .lst (cutV (ls.map sV) none (some (at_ : Int)) ++ [sV u])) n3
        refine ⟨_, rfl, _, rfl, _, rfl, D, _, rfl, p4.seqL hDr hD5, fun L4 n4 => ?_⟩
        have p5 := p4.new (o := .lst (cutV (ls.map sV) (some (at_ : Int)) none)) n4
        have zd : (cutV (ls.map sV) (some (at_ : Int)) none).length ≤ 8 := by
          rw [drop_sV, List.length_map, List.length_drop]
          omega
        refine ⟨L3, L4, _, _, rfl, rfl, by rw [upd_ne (ne_of_none upd_same n4), upd_same], upd_same, ?_, fun L5 n5 => ?_⟩
        · rw [List.length_append]
          show _ + 1 + _ ≤ _
          omega
        · refine ⟨p5.new n5, L5, ls.take at_ ++ [u] ++ ls.drop at_, rfl, ?_, nr p5.row n5, fun l hl => ?_, ?_⟩
          · rw [upd_same, take_sV, drop_sV, List.map_append, List.map_append]
            rfl
          · rcases List.mem_append.mp hl with hl | hl
            · rcases List.mem_append.mp hl with hl | hl
              · exact (tl at_).1 l hl
              · rw [List.mem_singleton.mp hl]
                exact hu
            · exact (tl at_).2 l hl
          · rw [List.length_append, List.length_append, List.length_take, List.length_drop]
            show _ + 1 + _ ≤ 10
            omega
      · rw [decide_eq_false hw]
        refine iteF ⟨_, rfl, _, rfl, _, rfl, D, _, rfl, hD5, fun L1 n1 => ?_⟩
        have p1 := (GrR.refl q5.tab q5.row).new (o := .lst (cutV (ls.map sV) none (some (at_ : Int)))) n1
        refine ⟨_, rfl, _, rfl, _, _, rfl, rfl, _, rfl, D, _, rfl, p1.seqL hDr hD5, fun L4 n4 => ?_⟩
        have p5 := p1.new (o := .lst (cutV (ls.map sV) (some ((at_ : Int) + 1)) none)) n4
        have zt : (cutV (ls.map sV) none (some (at_ : Int))).length ≤ 8 := by
          rw [take_sV, List.length_map, List.length_take]
          omega
        have zd : (cutV (ls.map sV) (some ((at_ : Int) + 1)) none).length ≤ 8 := by
          rw [drop_sV1, List.length_map, List.length_drop]
          omega
        refine ⟨L1, L4, _, _, rfl, rfl, by rw [upd_ne (ne_of_none upd_same n4), upd_same], upd_same, by omega, fun L5 n5 => ?_⟩
        refine ⟨p5.new n5, L5, ls.take at_ ++ ls.drop (at_ + 1), rfl, ?_, nr p5.row n5, fun l hl => ?_, ?_⟩
        · rw [upd_same, take_sV, drop_sV1, List.map_append]
        · rcases List.mem_append.mp hl with hl | hl
          · exact (tl at_).1 l hl
          · exact (tl (at_ + 1)).2 l hl
        · rw [List.length_append, List.length_take, List.length_drop]
          omega
    · obtain ⟨q6, B, bl, rfl, hB, hBr, hgb, hzb⟩ := hv
      have q6' := q5.trans q6
      refine ⟨_, rfl, _, _, rfl, rfl, _, rfl, ?_⟩
      by_cases hw : (way : Int) > 2
      · rw [decide_eq_true hw]
        have hM6 : H6 M = some (.lst ((moreA ++ moreB).map V.str)) := q6.lst hMr hM5
        refine iteT ⟨_, rfl, _, rfl, _, rfl, D, _, rfl, q6'.seqL hDr hD, fun L1 n1 => ?_⟩
        have p1 := (GrR.refl q6'.tab q6'.row).new (o := .lst (cutV (ls.map sV) none (some (at_ : Int)))) n1
        have L1r := nr q6'.row n1
        refine ⟨_, rfl, _, rfl, _, rfl, _, rfl, _, _, rfl, rfl, _, rfl, D, _, rfl, (q6'.trans p1).seqL hDr hD, fun L2 n2 => ⟨L2, rfl, ⟨_, .of upd_same⟩, fun Dn nD => ?_⟩⟩
        have p2 := p1.new (o := .lst (cutV (ls.map sV) (some (at_ : Int)) (some ((at_ : Int) + 1)))) n2
        have L2r := nr p1.row n2
        have hL1 : (upd (upd H6 L1 (.lst (cutV (ls.map sV) none (some (at_ : Int))))) L2 (.lst (cutV (ls.map sV) (some (at_ : Int)) (some ((at_ : Int) + 1))))) L1 = some (.lst (cutV (ls.map sV) none (some (at_ : Int)))) := by rw [upd_ne (ne_of_none upd_same n2), upd_same]
        have hL2 : (upd (upd H6 L1 (.lst (cutV (ls.map sV) none (some (at_ : Int))))) L2 (.lst (cutV (ls.map sV) (some (at_ : Int)) (some ((at_ : Int) + 1))))) L2 = some (.lst (cutV (ls.map sV) (some (at_ : Int)) (some ((at_ : Int) + 1)))) := upd_same
        have hM8 := p2.lst hMr hM6
        generalize upd (upd H6 L1 (.lst (cutV (ls.map sV) none (some (at_ : Int))))) L2 (.lst (cutV (ls.map sV) (some (at_ : Int)) (some ((at_ : Int) + 1)))) = H8 at p2 hL1 hL2 hM8 nD ⊢
        have zt : (cutV (ls.map sV) none (some (at_ : Int))).length = min at_ ls.length := by
          rw [take_sV, List.length_map, List.length_take]
        have zd : (cutV (ls.map sV) (some ((at_ : Int) + 1)) none).length ≤ 8 := by
          rw [drop_sV1, List.length_map, List.length_drop]
          omega
        have zm : (cutV (ls.map sV) (some (at_ : Int)) (some ((at_ : Int) + 1))).length = min (at_ + 1) ls.length - at_ := by
          rw [mid_sV, List.length_map, List.length_drop, List.length_take]
        have Dnr := nr p2.row nD
        refine lc_list (xs := cutV (ls.map sV) (some (at_ : Int)) (some ((at_ : Int) + 1))) (fun k H => ∃ ks : List (List Nat), GrR K ns sc r H8 H ∧ H Dn = some (.lst (ks.map sV)) ∧ ks.length = k ∧ ∀ l ∈ ks, GoodL l)
          ⟨[], (GrR.refl p2.tab p2.row).new nD, upd_same, rfl, fun l hl => by cases hl⟩ (fun k H _ ⟨ks, q, _⟩ => .of (q.lst L2r hL2)) (fun k x H hx ⟨ks, q, hDn, hk, hks⟩ => ?_) (fun H ⟨ks, q, hDn, hk, hks⟩ => ?_)
        · have hk8 := (List.getElem?_eq_some_iff.mp hx).1
          refine ⟨rfl, ⟨_, rfl, _, rfl, r, M, _, rfl, q.row, .of (q.lst hMr hM8), hMr, by rw [mlen]; decide, by rw [mlen]; decide, fun k9 v H9 hk9 e9 r9 => ?_⟩⟩
          obtain ⟨u, rfl, hu⟩ := mgood k9 v hk9
          have q9 := q.trans (GrR.drawn q.tab q.row e9 r9)
          have hD9 : H9 Dn = some (.lst (ks.map sV)) := by rw [e9 Dn Dnr]; exact hDn
          refine ⟨_, hD9, by rw [List.length_map]; omega, ks ++ [u], GrR.push p2.row nD ⟨_, hD9⟩ q9, by rw [upd_same, List.map_append]; rfl, by rw [List.length_append, hk]; rfl, fun l hl => ?_⟩
          rcases List.mem_append.mp hl with hl | hl
          · exact hks l hl
          · rw [List.mem_singleton.mp hl]
            exact hu
        · have q8 := q6'.trans (p2.trans q)
          refine ⟨L1, Dn, _, _, rfl, rfl, q.lst L1r hL1, hDn, by rw [List.length_map]; omega, fun L3 n3 => ?_⟩
          have q9 := q8.new (o := .lst (cutV (ls.map sV) none (some (at_ : Int)) ++ ks.map sV)) n3
          refine ⟨_, rfl, _, rfl, _, _, rfl, rfl, _, rfl, D, _, rfl, q9.seqL hDr hD, fun L4 n4 => ?_⟩
          have q10 := q9.new (o := .lst (cutV (ls.map sV) (some ((at_ : Int) + 1)) none)) n4
          refine ⟨L3, L4, _, _, rfl, rfl, by rw [upd_ne (ne_of_none upd_same n4), upd_same], upd_same, by rw [List.length_append, List.length_map]; omega, fun L5 n5 => ?_⟩
          have q11 := q10.new (o := .lst (cutV (ls.map sV) none (some (at_ : Int)) ++ ks.map sV ++ cutV (ls.map sV) (some ((at_ : Int) + 1)) none)) n5
          refine ⟨_, _, _, _, _, L5, ls.take at_ ++ ks ++ ls.drop (at_ + 1), rfl, q11.tab, q11.row, ?_, nr q10.row n5, fun l hl => ?_, ?_, fun v tx H' q7 h1 h2 => hQ v tx H' (q11.trans q7) h1 h2⟩
          · rw [upd_same, take_sV, drop_sV1, List.map_append, List.map_append]
          · rcases List.mem_append.mp hl with hl | hl
            · rcases List.mem_append.mp hl with hl | hl
              · exact (tl at_).1 l hl
              · exact hks l hl
            · exact (tl (at_ + 1)).2 l hl
          · rw [List.length_append, List.length_append, List.length_take, List.length_drop]
            omega
      · rw [decide_eq_false hw]
        exact iteF ⟨_, _, _, _, _, B, bl, rfl, q6'.tab, q6'.row, hB, hBr, hgb, hzb, fun v tx H' q7 h1 h2 => hQ v tx H' (q6'.trans q7) h1 h2⟩
end
end Kt
set_option maxHeartbeats 4000000
/-! What the law needs: good lines, results, a text many times. -/
namespace Kt
open PySem PySem.Spec PyProof.Rows L2 SX Km
open TL (numL)
theorem asc_of {l : List Nat} (h : ∀ c, 128 ≤ c → c ∉ l) : Asc l := fun c hc => by
  by_cases hx : c < 128
  · exact hx
  · exact absurd hc (h c (by omega))
theorem asc_line {h : List Nat} {ns : List Nat} (ha : Asc h) : Asc (lineT (h :: ns.map numL)) := asc_of fun c hc => free_join (by omega) fun w hw => by
  rcases List.mem_cons.mp hw with e | hw
  · rw [e]
    intro z
    have := ha c z
    omega
  · obtain ⟨n, _, rfl⟩ := List.mem_map.mp hw
    intro z
    have := TL.numL_digits n c z
    omega
theorem good_box {ns : List Nat} (h : isBox ns = true) : GoodL (boxL ns) := by
  have h1 := boxL_len h
  refine ⟨asc_line (h := wBox) (by unfold Asc; decide), boxL_free ns, by omega, ?_⟩
  unfold boxL
  rw [words_nums (by decide)]
  have := isBox_len h
  simp
  omega
theorem good_loss {m : Nat} {ns : List Nat} (hm : m ≤ 10) (hl : ns.length ≤ 10) (h : isLoss m ns = true) : GoodL (lossL ns) := by
  have h1 := lossL_len hl fun n hn => by have := isLoss_small h n hn; omega
  refine ⟨asc_line (h := wLost) (by unfold Asc; decide), lossL_free ns, by omega, ?_⟩
  unfold lossL
  rw [words_nums (by decide)]
  simp
  omega
theorem good_ord {m : Nat} {o : Ord} (hm : m ≤ 10) (h : isOrd m o = true) : GoodL (ordL o) := by
  have h1 := (wd_ord hm h).2.2
  have e : ordL o = lineT (o.1 :: [o.2].map numL) := rfl
  refine ⟨?_, ordL_free h, by omega, ?_⟩
  · rw [e]
    refine asc_line ?_
    rcases ord_word h with z | z | z <;> rw [z] <;> unfold Asc <;> decide
  · rw [e, words_nums (ord_free (by omega) h)]
    simp
/-! ### results -/
theorem rk_box (bs : List Nat) (tx : Option (List Nat)) : readK bs .box tx = match readBoxR tx with
    | .ok ns => .box ns
    | .error i => .bad i := by
  unfold readK readBoxR
  cases linesR tx with
  | error i => rfl
  | ok ls =>
    cases ls with
    | nil => rfl
    | cons l r =>
      show restK (boxIn l) .box r = _
      dsimp only
      cases boxIn l with
      | none => rfl
      | some ns =>
        show (if r = [] then Res.box ns else Res.bad 1) = _
        by_cases hr : r = []
        · rw [if_pos hr]
          dsimp only
          rw [if_pos hr]
        · rw [if_neg hr]
          dsimp only
          rw [if_neg hr]
theorem rk_loss (bs : List Nat) (tx : Option (List Nat)) : readK bs .loss tx = match readLossR bs.length tx with
    | .ok ns => .box ns
    | .error i => .bad i := by
  unfold readK readLossR
  cases linesR tx with
  | error i => rfl
  | ok ls =>
    cases ls with
    | nil => rfl
    | cons l r =>
      show restK (lossIn bs.length l) .loss r = _
      dsimp only
      cases lossIn bs.length l with
      | none => rfl
      | some ns =>
        show (if r = [] then Res.box ns else Res.bad 1) = _
        by_cases hr : r = []
        · rw [if_pos hr]
          dsimp only
          rw [if_pos hr]
        · rw [if_neg hr]
          dsimp only
          rw [if_neg hr]
theorem rk_ords (bs : List Nat) (tx : Option (List Nat)) : readK bs .orders tx = match readOrdersR tx with
    | .ok r => .ords r
    | .error i => .bad i := by
  unfold readK readOrdersR
  cases linesR tx with
  | error i => rfl
  | ok ls =>
    cases ls with
    | nil => rfl
    | cons l r =>
      show restK (boxIn l) .orders r = _
      dsimp only
      cases boxIn l with
      | none => rfl
      | some ns =>
        show (match ordsR ns.length 1 r with
          | .error i => Res.bad i
          | .ok os => .ords (ns, os)) = _
        dsimp only
        cases ordsR ns.length 1 r <;> rfl
theorem ords_len : ∀ {m k : Nat} {r : List (List Nat)} {os : List Ord}, ordsR m k r = .ok os → os.length = r.length
  | m, k, [], os, h => by
    cases h
    rfl
  | m, k, l :: r, os, h => by
    unfold ordsR at h
    split at h
    · cases h
    · split at h
      · cases h
      · split at h
        · cases h
        · rename_i os' e
          cases h
          rw [List.length_cons, List.length_cons, ords_len e]
theorem loss_small {m : Nat} {l : List Nat} {ns : List Nat} (h : lossIn m l = some ns) (hl : (wordsOf l).length ≤ 50) : ns.length ≤ 50 := by
  unfold lossIn at h
  split at h
  · cases h
  · rename_i hd t e
    split at h
    · cases h
    · rename_i ns' e2
      split at h
      · cases h
        have := congrArg List.length ((allSome_iff _ _).mp e2)
        rw [List.length_map, List.length_map] at this
        rw [e, List.length_cons] at hl
        omega
      · cases h
theorem small_res {bs : List Nat} {k : Kind} {tx : Option (List Nat)} (hg : TxGood tx) : (readK bs k tx).small := by
  unfold readK
  cases e : linesR tx with
  | error i => exact True.intro
  | ok ls =>
    cases ls with
    | nil => exact True.intro
    | cons l r =>
      obtain ⟨z1, z2⟩ := lines_small (fun l e => (hg l e).1) e
      obtain ⟨tt, ett, hm⟩ := lines_mem e
      show (restK (firstK bs k l) k r).small
      cases e2 : firstK bs k l with
      | none => exact True.intro
      | some ns =>
        have hns : ns.length ≤ 50 := by
          unfold firstK at e2
          cases hk : k.isL with
          | true =>
            rw [hk, if_pos rfl] at e2
            exact loss_small e2 ((hg tt ett).2 l (hm l List.mem_cons_self)).2.2
          | false =>
            rw [hk, if_neg Bool.false_ne_true] at e2
            have := isBox_len (boxIn_is e2)
            omega
        show Res.small (if k.isO = true then _ else if r = [] then Res.box ns else Res.bad 1)
        cases hk : k.isO with
        | false =>
          rw [if_neg Bool.false_ne_true]
          split
          · show ns.length ≤ 100000
            omega
          · exact True.intro
        | true =>
          rw [if_pos rfl]
          cases eo : ordsR ns.length 1 r with
          | error i => exact True.intro
          | ok os =>
            have := ords_len eo
            rw [List.length_cons] at z1
            exact ⟨by show ns.length ≤ 100000; omega, by show os.length ≤ 100000; omega⟩
section
variable {K : PySem.W.Frag}
theorem ResV.extL {H H' : Hp} {v : V} {r : Res} (h : ResV K H v r) (e : ExtL H H') : ResV K H' v r := by
  cases r with
  | box ns => exact TupN.extL e h
  | ords r =>
    obtain ⟨p, b, q, xs, h1, h2, h3, h4, h5⟩ := h
    exact ⟨p, b, q, xs, h1, seqT_extL e h2, seqT_extL e h3, seqT_extL e h4, h5.extL e⟩
  | bad i =>
    obtain ⟨a, h1, h2⟩ := h
    exact ⟨a, h1, seqT_extL e h2⟩
/-- what _law_told makes of a lambda that tells res -/
theorem told_res {tl : XK → Hp → VK → Prop} {H1 : Hp} {Q : VK} (res : Res) (t0 : TabOk K H1)
    (hw : ∀ H2 E2 Q2, Gr K H1 H2 → (∀ v H3, Gr K H2 H3 → ResV K H3 v res → Q2 v H3) → (∀ i, res = .bad i → BadAt K H2 E2 i) → tl E2 H2 Q2) (hQ : ∀ v H', Gr K H1 H' → ResV K H' v res → Q v H') : TTt K tl H1 Q :=
  ⟨t0, fun v H => ResV K H v res, fun i => res = .bad i, fun _ _ _ h e => ResV.extL h e, hw, hQ, fun i a H' e g h => hQ _ H' g (by rw [e]; exact ⟨a, rfl, h⟩)⟩
end
/-! ### a text many times -/
theorem mul_S (l : List Nat) (k : Nat) : Txt.mul (S l) (k : Int) = S (List.replicate k l).flatten := by
  unfold Txt.mul
  by_cases h0 : (k : Int) < 1
  · rw [if_pos h0]
    have : k = 0 := by omega
    rw [this]
    rfl
  · rw [if_neg h0]
    by_cases h1 : ((k : Int) == 1 || (S l).length == 0) = true
    · rw [if_pos h1]
      rw [Bool.or_eq_true, beq_iff_eq, beq_iff_eq] at h1
      rcases h1 with h1 | h1
      · have : k = 1 := by omega
        rw [this]
        simp
      · rw [S_len] at h1
        have : l = [] := List.eq_nil_of_length_eq_zero h1
        rw [this]
        simp
    · rw [if_neg h1]
      have f : ∀ (n : Nat) (acc : List Nat), List.foldl (fun x y => x ++ y) acc.toArray (List.replicate n l.toArray) = (acc ++ (List.replicate n l).flatten).toArray := by
        intro n
        induction n with
        | zero => intro acc; simp
        | succ n ih =>
          intro acc
          rw [List.replicate_succ, List.foldl_cons, List.replicate_succ, List.flatten_cons]
          have := ih (acc ++ l)
          rw [List.append_assoc] at this
          rw [← this]
          congr 1
          simp
      have := f k []
      rw [List.nil_append] at this
      rw [Int.toNat_natCast]
      show (⟨List.foldl (fun x y => x ++ y) #[] (List.replicate k l.toArray)⟩ : Str) = ⟨_⟩
      rw [← this]
theorem op_mulS {X : Cx} : OpR X (binaryOp .Mult) (fun x y H Q => ∃ (l : List Nat) (k : Nat), x = sV l ∧ y = nV k ∧ l.length ≤ 16 ∧ k ≤ 1048576 ∧ Q (sV (List.replicate k l).flatten) H) := by
  intro pins s σ H x y v u Q I rx ry h
  obtain ⟨l, k, rfl, rfl, hl, hk, q⟩ := h
  obtain ⟨t, rfl⟩ := rx
  obtain ⟨t', rfl⟩ := ry
  refine PySem.W.KXi.mul (n := l.length) (S_len l) hl (by omega) (by omega) fun t2 k2 _ _ => ?_
  refine ⟨.str (Txt.mul (S l) (k : Int)), H, I.tok k2, ⟨t2, rfl⟩, ?_⟩
  rw [mul_S]
  exact q
theorem eqv_strs : ∀ ts : List (List Nat), PyData.eqvAll (ts.map fun t => PyData.str (S t)) (ts.map fun t => PyData.str (S t)) = true
  | [] => rfl
  | t :: ts => by
    show ((S t == S t) && PyData.eqvAll (ts.map fun t => PyData.str (S t)) (ts.map fun t => PyData.str (S t))) = true
    rw [eqv_strs ts, S_beq_eq]
    simp
theorem asc_text {ls : List (List Nat)} (h : ∀ l ∈ ls, GoodL l) : Asc (textT ls) := fun c hc => by
  unfold textT at hc
  obtain ⟨p, hp, hc⟩ := List.mem_flatten.mp hc
  obtain ⟨l, hl, rfl⟩ := List.mem_map.mp hp
  rcases List.mem_append.mp hc with z | z
  · exact (h l hl).1 c z
  · rw [List.mem_singleton.mp z]
    decide
end Kt
set_option maxHeartbeats 4000000
/-! The law: its last lines. -/
namespace Kt
open PySem PySem.Spec PyProof.Rows L2 SX Km
section
variable {P : Program} {w : World} {K : PySem.W.Frag} {mg : Str → Option Value} {base : Heap} {A : Around} {outer : List Env} {s : Shared} {H0 : Hp} {E : XK} {j : Nat}
abbrev nmLaw : List Str := ["_law_script", "_law_row", "_law_box_here", "_law_loss", "_law_orders_here", "_law_first", "_law_last", "_law_whole", "_law_order", "_law_line_here", "_law_some_here", "_law_turn", "_law_one", "_law_two", "_law_three", "_law_many", "_law_long"]
theorem scLaw : FnScope nmLaw ["_law_script"] (defScope sLaw) := ⟨rfl, rfl, rfl, by decide +kernel, rfl, by decide +kernel, by decide +kernel⟩
abbrev lawX (P : Program) (w : World) (K : PySem.W.Frag) (mg : Str → Option Value) (base : Heap) (A : Around) (outer : List Env) (s : Shared) (H0 : Hp) (E : XK) : Cx := cxOf (L2.CX P w) P w K mg base nmLaw "law" (defScope sLaw) (He.ga K "law") (.ref (He.cT K ("law", none)).1) A outer s H0 E
abbrev RoomL (K : PySem.W.Frag) (j : Nat) (A : Around) (s : Shared) : Prop := Room j (A.deeper (envOfC "law" (defScope sLaw) s.heap.objs.size (He.ga K "law") (.ref (He.cT K ("law", none)).1)))
def tTell (K : PySem.W.Frag) (tb : XK → TE) : TE := fun σ H Q => TabOk K H ∧ ∀ H1, Gr K H H1 → TTt K (fun E H2 Q2 => tb E σ H2 Q2) H1 Q
/-- _law_told(lambda: body), in the law -/
theorem pe_tell (T : Fx K mg base) (hr : RoomL K j A s) (hj : 9 ≤ j) {lparams : Arguments} {lbody : Expr} {lscope : Scope} {lpos p pos : Pos} {tb : XK → TE} (L : LamX.lamSB (defScope sLaw) lscope = true)
    (hdef : defaultsOf lparams (lawX P w K mg base A outer s H0 E).env = ([], [])) (hbind : ∀ (q : Str) (cl : List (Str × Addr)) (pm cv ctv : Value), bindArgs (PySem.W.kla_fn "<lambda>" q lparams lbody lscope cl pm cv ctv) ⟨[], []⟩ = pure [])
    (hlam : ∀ (f c' : Addr) (A1 : Around) (outer1 : List Env) (s1 : Shared) (HZ : Hp) (E1 : XK), Room 5 (A1.deeper (LamX.lamEnv (lawX P w K mg base A outer s H0 E) lscope s1.heap.objs.size f c')) → PE (LamX.lamCx (lawX P w K mg base A outer s H0 E) A1 outer1 s1 HZ E1 lscope f c') lbody (tb E1)) :
    PE (lawX P w K mg base A outer s H0 E) (.Call (.Name "_law_told" p) [.Lambda lparams lbody lscope lpos] [] pos) (tTell K tb) := by
  have eq : (lawX P w K mg base A outer s H0 E).env.qual ++ "<lambda>" = q4 := by
    show ("law.<locals>." : Str) ++ "<lambda>" = q4
    decide +kernel
  refine pe_wk (pe_lamdef (kl := 5) (k := 8) (TT := TTt K) (tb := tb) (by rfl) T.g_law_told T.d_law_told scTold (fun _ _ _ _ _ _ us hl => match us, hl with | [_], _ => rfl)
    (T.tabL (q := ("law", none)) (by simp [tf])) rfl (fun H t => by rw [eq]; exact t.a4) (fun H H1 t e h => gr_tab4 T.m t e (by rw [← eq]; exact h)) (LamX.lamS_by L) hdef hbind (hr.mono hj)
    (fun pins σ H s f3 c3 A3 outer s1 HZ E I hrA un ho => hlam f3 c3 A3 outer s1 HZ E hrA) (fun f4 s H1 tl4 Q4 LP4 hr4 h4 => told_body T LP4 hr4 (Nat.le_refl _) h4)) (fun σ H Q h => ?_)
  obtain ⟨t0, h⟩ := h
  refine ⟨t0, fun H1 c' g hc => ?_⟩
  obtain ⟨t1, G, B, h1, h2, h3, h4⟩ := h H1 g
  exact ⟨t1, G, B, h1, fun H2 E2 Q2 g2 a b => ⟨g2.ext _ _ hc (fun ps => LamX.codeO_ne ps), h2 H2 E2 Q2 g2 a b⟩, h3, h4⟩
def tbLen (K : PySem.W.Frag) : XK → TE := fun E σ H Q => ∃ v, σ[16]? = some (some v) ∧ ∃ Q', spReadOrds K [v] H Q' E ∧ ∀ v' H', Q' v' H' → ∃ (p b q : Addr) (xs : List V), v' = .ref p ∧ SqT K H' p [.ref b, .ref q] ∧ SqT K H' q xs ∧ Q (nV xs.length) H'
def tTail (K : PySem.W.Frag) (ns : List Int) (sc : Addr) : TS := fun D σ H => ∃ (r b : Addr) (bs : List Nat) (v0 v3 v4 v5 v6 v7 v8 v9 v10 v11 v12 v13 v14 v15 v16 : Option V), σ = [v0, some (.ref r), some (.ref b), v3, v4, v5, v6, v7, v8, v9, v10, v11, v12, v13, v14, v15, v16] ∧
  TabOk K H ∧ RowAt K ns sc H r ∧ SqT K H b (bs.map nV) ∧ isBox bs = true ∧ ∀ H', D.rt (.bl true) H'
theorem law_tail (T : Fx K mg base) (ns : List Int) (sc : Addr) (hr : RoomL K j A s) (hj : 9 ≤ j) : PSs (lawX P w K mg base A outer s H0 E) ((defBody sLaw).drop 9) (tTail K ns sc) := by
  refine pss_wk (pss_cons (ps_set (i := 15) scLaw.nd rfl (.inl rfl) (pe_op op_add pe_int (pe_cl (cl_taken T ns sc) hr (by omega) (by rfl) quiet (pa_cons (pv 1) (pa_cons pe_int pa_nil)))))
    (pss_cons (ps_set (i := 16) scLaw.nd rfl (.inr rfl) (pe_op op_add_str (pe_cl (cl_box_text T) hr (by omega) (by rfl) quiet (pa_cons (pv 2) pa_nil)) (pe_op op_mulS pe_str (pv 15))))
    (pss_one (ps_ret (pe_cmpR (op_eqD hr.units) (pe_tell (tb := tbLen K) T hr hj (by decide +kernel) rfl (fun _ _ _ _ _ => rfl) (fun f c' A1 outer1 s1 HZ E1 hrA => ?_))
      (pe_ifExp (pt_cmpR op_lt (pv 15) pe_int (nomark _)) (pv 15) (pe_tup (pa_cons pe_str (pa_cons pe_int pa_nil)))) (nomark _)))))) (fun D σ H h => ?_)
  · refine pe_wk (pe_callB call_len (by rfl) T.n_len (by decide +kernel) (pa_cons (pe_ix ix_tup (PE.mono (pe_cl (cl_read_orders T) hrA (by decide) (by rfl) (passes_call (takes_of rfl rfl rfl rfl) (fun _ _ _ _ h => h)) (pa_cons (pv 16) pa_nil))) pe_int (fun _ _ => rfl)) pa_nil)) (fun σ H Q h => ?_)
    obtain ⟨v, hv, Q', hs, hq⟩ := h
    refine ⟨Q', ⟨v, hv, hs⟩, fun v' H' h' => ?_⟩
    obtain ⟨p, b, q, xs, rfl, h1, h2, hq⟩ := hq v' H' h'
    exact ⟨p, _, 1, .ref q, rfl, rfl, h1, atI_nat (j := 1) rfl, _, xs.length, rfl, .inr ⟨_, h2, rfl⟩, hq⟩
  · obtain ⟨r, b, bs, v0, v3, v4, v5, v6, v7, v8, v9, v10, v11, v12, v13, v14, v15, v16, rfl, t0, hrow, hB, hb, hQ⟩ := h
    refine ⟨_, rfl, r, 3, rfl, hrow, by decide, by decide, fun k H1 hk e1 r1 => ⟨_, _, rfl, rfl, ?_⟩⟩
    have g1 := GrR.drawn t0 hrow e1 r1
    have e0 : (199 : Int) + (k : Int) = ((199 + k : Nat) : Int) := by omega
    have sw : V.str ("weigh 0\n" : Str) = sV (ordL (wWeigh, 0) ++ [10]) := congrArg V.str (by decide +kernel)
    have lw : (ordL (wWeigh, 0) ++ [10]).length = 8 := by decide +kernel
    have hbl := boxL_len hb
    have h9 : 100000 ≤ sizeLine := by decide
    have ht : boxL bs ++ [10] ++ (List.replicate (199 + k) (ordL (wWeigh, 0) ++ [10])).flatten = textT (boxL bs :: (List.replicate (199 + k) ((wWeigh, 0) : Ord)).map ordL) := by
      unfold textT
      rw [List.map_cons, List.flatten_cons, List.map_map, List.map_replicate]
      rfl
    have hlen : (boxL bs ++ [10]).length + (List.replicate (199 + k) (ordL (wWeigh, 0) ++ [10])).flatten.length ≤ 5000 := by
      have h1 := flat_le (ls := List.replicate (199 + k) (ordL (wWeigh, 0) ++ [10])) (k := 8) fun l hl => by
        rw [(List.mem_replicate.mp hl).2, lw]
        exact Nat.le_refl _
      rw [List.length_replicate] at h1
      rw [List.length_append]
      show _ + 1 + _ ≤ _
      omega
    have hoo : ∀ o ∈ List.replicate (199 + k) ((wWeigh, 0) : Ord), isOrd bs.length o = true := fun o ho => by
      rw [(List.mem_replicate.mp ho).2]
      unfold isOrd
      simp
    refine ⟨_, rfl, b, bs, rfl, seqT_extL (g1.extL hrow) hB, hb, g1.tab, fun H2 g2 => ⟨_, rfl, _, 199 + k, sw, congrArg V.int e0, by rw [lw]; omega, by omega, _, _, rfl, rfl, by rw [S_len, S_len]; omega, ?_⟩⟩
    rw [S_cat, ht]
    refine ⟨g2.tab, fun H3 g3 => ?_⟩
    have hread : ∀ (H4 : Hp) (E2 : XK) (Q' : VK), Gr K H3 H4 → (∀ r, readOrdersR (some (textT (boxL bs :: (List.replicate (199 + k) ((wWeigh, 0) : Ord)).map ordL))) = .ok r → ∀ v' H', Gr K H4 H' → ReadV K H' v' r → Q' v' H') →
        (∀ i, readOrdersR (some (textT (boxL bs :: (List.replicate (199 + k) ((wWeigh, 0) : Ord)).map ordL))) = .error i → BadAt K H4 E2 i) → spReadOrds K [sV (textT (boxL bs :: (List.replicate (199 + k) ((wWeigh, 0) : Ord)).map ordL))] H4 Q' E2 := fun H4 E2 Q' g4 h1 h2 =>
      ⟨_, some _, rfl, rfl, fun l e => by
        cases e
        rw [← ht, List.length_append]
        omega, g4.tab, h1, h2⟩
    by_cases h2 : k < 2
    · have hr0 := read_orders_back hb hoo (by rw [List.length_replicate]; omega)
      refine ⟨g3.tab, fun v _ => v = nV (199 + k), fun _ => False, fun _ _ _ h _ => h, fun H4 E2 Q2 g4 hg hb2 => ⟨_, rfl, fun v' H' => Gr K H4 H' ∧ ReadV K H' v' (bs, List.replicate (199 + k) ((wWeigh, 0) : Ord)), hread H4 E2 _ g4 (fun r e v' H' g hv => ⟨g, ?_⟩) (fun i e => ?_), fun v' H' hv => ?_⟩, fun v H' g hv => ?_, fun i a H' z => z.elim⟩
      · rw [hr0] at e
        cases e
        exact hv
      · rw [hr0] at e
        cases e
      · obtain ⟨g, p, b2, q, xs, rfl, a1, a2, a3, a4⟩ := hv
        refine ⟨p, b2, q, xs, rfl, a1, a3, hg _ H' g ?_⟩
        rw [a4.len, List.length_replicate]
      · subst hv
        have hlt : decide ((199 : Int) + (k : Int) < 201) = true := decide_eq_true (by omega)
        refine ⟨_, rfl, _, _, rfl, rfl, _, rfl, ?_⟩
        rw [hlt]
        refine iteT ⟨_, rfl, .int ((199 + k : Nat) : Int), .int ((199 : Int) + (k : Int)), .int _, .int _, rfl, rfl, ?_⟩
        have e5 : PyData.eqv (.int ((199 + k : Nat) : Int)) (.int ((199 : Int) + (k : Int))) = true := by
          show (((199 + k : Nat) : Int) == ((199 : Int) + (k : Int))) = true
          rw [e0, beq_self_eq_true]
        rw [e5]
        exact hQ H'
    · obtain rfl : k = 2 := by omega
      have hr0 := read_orders_long hb hoo (by rw [List.length_replicate]; omega)
      refine ⟨g3.tab, fun _ _ => False, fun i => i = 201, fun _ _ _ h _ => h, fun H4 E2 Q2 g4 hg hb2 => ⟨_, rfl, fun _ _ => False, hread H4 E2 _ g4 (fun r e => ?_) (fun i e => ?_), fun v' H' hv => hv.elim⟩, fun v H' g hv => hv.elim, fun i a H' e g ha => ?_⟩
      · rw [hr0] at e
        cases e
      · rw [hr0] at e
        cases e
        exact hb2 201 rfl
      · subst e
        refine ⟨_, rfl, _, _, rfl, rfl, _, rfl, iteF ⟨by show 2 ≤ sizeLine; decide, fun p np => ?_⟩⟩
        refine ⟨_, _, dp_bad (seqT_ext (LamX.ExtN.of (same_new np)) ha), dp_bad (i := 201) (.inl (.inl upd_same)), shaped_bad 201, shaped_bad 201, ?_⟩
        have e5 : PyData.eqv (.tuple [.str ("BadLine" : Str), .int ((201 : Nat) : Int)]) (.tuple [.str ("BadLine" : Str), .int ((201 : Nat) : Int)]) = true := by decide +kernel
        rw [e5]
        exact hQ _
end
end Kt
set_option maxHeartbeats 4000000
/-! The law: its five turns. -/
namespace Kt
open PySem PySem.Spec PyProof.Rows L2 SX Km
section
variable {P : Program} {w : World} {K : PySem.W.Frag} {mg : Str → Option Value} {base : Heap} {A : Around} {outer : List Env} {s : Shared} {H0 : Hp} {E : XK} {j : Nat}
def LnsAt (H : Hp) (r F : Addr) (l : List (List Nat)) : Prop := H F = some (.lst (l.map sV)) ∧ F ≠ r ∧ l.length ≤ 8 ∧ ∀ u ∈ l, GoodL u
theorem LnsAt.grow {ns : List Int} {sc r F : Addr} {H H' : Hp} {l : List (List Nat)} (h : LnsAt H r F l) (g : GrR K ns sc r H H') : LnsAt H' r F l := ⟨g.lst h.2.1 h.1, h.2⟩
def LawSt (K : PySem.W.Frag) (ns : List Int) (sc : Addr) (σ : L2.St) (H : Hp) : Prop := ∃ (r b : Addr) (bs : List Nat) (F1 F2 F3 : Addr) (l1 l2 l3 : List (List Nat)) (v0 v3 v4 v8 v9 v10 v11 v12 v13 v14 v15 v16 : Option V),
  σ = [v0, some (.ref r), some (.ref b), v3, v4, some (.ref F1), some (.ref F2), some (.ref F3), v8, v9, v10, v11, v12, v13, v14, v15, v16] ∧ TabOk K H ∧ RowAt K ns sc H r ∧ SqT K H b (bs.map nV) ∧ isBox bs = true ∧ LnsAt H r F1 l1 ∧ LnsAt H r F2 l2 ∧ LnsAt H r F3 l3
def tLoop (K : PySem.W.Frag) (ns : List Int) (sc : Addr) : TS := fun D σ H => LawSt K ns sc σ H ∧ ∀ H', D.rt (.bl true) H'
def tbBox (K : PySem.W.Frag) : XK → TE := fun E σ H Q => ∃ v, σ[12]? = some (some v) ∧ spReadBox K [v] H Q E
def tbLoss (K : PySem.W.Frag) : XK → TE := fun E σ H Q => ∃ b v, σ[2]? = some (some b) ∧ σ[13]? = some (some v) ∧ spReadLoss K [b, v] H Q E
def tbOrds (K : PySem.W.Frag) : XK → TE := fun E σ H Q => ∃ v, σ[14]? = some (some v) ∧ spReadOrds K [v] H Q E
theorem law_loop (T : Fx K mg base) (ns : List Int) (sc : Addr) (hr : RoomL K j A s) (hj : 9 ≤ j) : PSs (lawX P w K mg base A outer s H0 E) ((defBody sLaw).drop 8) (tLoop K ns sc) := by
  refine pss_wk (pss_cons (ps_for (passes_of rfl) rfl (pi_range1 (by rfl) T.n_range (pa_cons pe_int pa_nil)) (pg_name (i := 11) scLaw.nd rfl (.inl rfl))
      (pss_cons (ps_asg (pe_tup (pa_cons (pe_cl (cl_law_bent T ns sc) hr (by omega) (by rfl) quiet (pa_cons (pv 1) (pa_cons (pv 5) pa_nil))) (pa_cons (pe_cl (cl_law_bent T ns sc) hr (by omega) (by rfl) quiet (pa_cons (pv 1) (pa_cons (pv 6) pa_nil)))
          (pa_cons (pe_cl (cl_law_bent T ns sc) hr (by omega) (by rfl) quiet (pa_cons (pv 1) (pa_cons (pv 7) pa_nil))) pa_nil)))) (pg_tup rfl (pgs_cons (pg_name (i := 12) scLaw.nd rfl (.inr rfl)) (pgs_cons (pg_name (i := 13) scLaw.nd rfl (.inr rfl)) (pgs_cons (pg_name (i := 14) scLaw.nd rfl (.inr rfl)) pgs_nil)))))
      (pss_cons (ps_if (pt_not (pt_val (pe_cl (cl_alike T 3) hr (by omega) (by rfl) quiet (pa_cons (pe_tell (tb := tbBox K) T hr hj (by decide +kernel) rfl (fun _ _ _ _ _ => rfl) (fun f c' A1 outer1 s1 HZ E1 hrA => ?_)) (pa_cons (pe_cl (cl_law_read T) hr (by omega) (by rfl) quiet (pa_cons (pv 2) (pa_cons (pv 12) (pa_cons pe_str pa_nil)))) pa_nil))))) (pss_one (ps_ret pe_bl)) pss_nil)
      (pss_cons (ps_if (pt_not (pt_val (pe_cl (cl_alike T 3) hr (by omega) (by rfl) quiet (pa_cons (pe_tell (tb := tbLoss K) T hr hj (by decide +kernel) rfl (fun _ _ _ _ _ => rfl) (fun f c' A1 outer1 s1 HZ E1 hrA => ?_)) (pa_cons (pe_cl (cl_law_read T) hr (by omega) (by rfl) quiet (pa_cons (pv 2) (pa_cons (pv 13) (pa_cons pe_str pa_nil)))) pa_nil))))) (pss_one (ps_ret pe_bl)) pss_nil)
      (pss_one (ps_if (pt_not (pt_val (pe_cl (cl_alike T 3) hr (by omega) (by rfl) quiet (pa_cons (pe_tell (tb := tbOrds K) T hr hj (by decide +kernel) rfl (fun _ _ _ _ _ => rfl) (fun f c' A1 outer1 s1 HZ E1 hrA => ?_)) (pa_cons (pe_cl (cl_law_read T) hr (by omega) (by rfl) quiet (pa_cons (pv 2) (pa_cons (pv 14) (pa_cons pe_str pa_nil)))) pa_nil))))) (pss_one (ps_ret pe_bl)) pss_nil))))))
    (law_tail T ns sc hr hj)) (fun D σ H h => ?_)
  · refine pe_wk (pe_cl (cl_read_box T) hrA (by decide) (by rfl) (passes_call (takes_of rfl rfl rfl rfl) (fun _ _ _ _ h => h)) (pa_cons (pv 12) pa_nil)) (fun σ H Q ⟨v, hv, h⟩ => ⟨v, hv, h⟩)
  · refine pe_wk (pe_cl (cl_read_loss T) hrA (by decide) (by rfl) (passes_call (takes_of rfl rfl rfl rfl) (fun _ _ _ _ h => h)) (pa_cons (pv 2) (pa_cons (pv 13) pa_nil))) (fun σ H Q ⟨b, v, hb, hv, h⟩ => ⟨b, hb, v, hv, h⟩)
  · refine pe_wk (pe_cl (cl_read_orders T) hrA (by decide) (by rfl) (passes_call (takes_of rfl rfl rfl rfl) (fun _ _ _ _ h => h)) (pa_cons (pv 14) pa_nil)) (fun σ H Q ⟨v, hv, h⟩ => ⟨v, hv, h⟩)
  · obtain ⟨hst, hQ⟩ := h
    refine ⟨_, rfl, by decide, by decide, ?_⟩
    refine for_range (fun i σ H => LawSt K ns sc σ H) hst (fun i σ H hi hP => ?_) (fun σ H hP => ?_)
    · obtain ⟨r, b, bs, F1, F2, F3, l1, l2, l3, v0, v3, v4, v8, v9, v10, v11, v12, v13, v14, v15, v16, rfl, t0, hrow, hB, hb, L1, L2, L3⟩ := hP
      refine ⟨_, rfl, _, rfl, r, F1, l1, rfl, hrow, .of L1.1, L1.2.1, L1.2.2.1, L1.2.2.2, t0, fun one tx1 H1 g1 ok1 gd1 => ?_⟩
      have M2 := L2.grow g1
      refine ⟨_, rfl, _, rfl, r, F2, l2, rfl, g1.row, .of M2.1, M2.2.1, M2.2.2.1, M2.2.2.2, g1.tab, fun two tx2 H2 g2' ok2 gd2 => ?_⟩
      have g2 := g1.trans g2'
      have M3 := L3.grow g2
      refine ⟨_, rfl, _, rfl, r, F3, l3, rfl, g2.row, .of M3.1, M3.2.1, M3.2.2.1, M3.2.2.2, g2.tab, fun three tx3 H3 g3' ok3 gd3 => ⟨by show 3 ≤ sizeLine; decide, fun p np => ?_⟩⟩
      have g3 := (g2.trans g3').new (o := .tup [one, two, three]) np
      refine ⟨p, _, rfl, .inl (.inl upd_same), rfl, one, _, rfl, two, _, rfl, three, _, rfl, rfl, ?_⟩
      generalize upd H3 p (.tup [one, two, three]) = H4 at g3 ⊢
      have hB4 := seqT_extL (g3.extL hrow) hB
      refine ⟨g3.tab, fun H5 g5 => told_res (readK bs .box tx1) g5.tab (fun H6 E2 Q2 g6 h1 h2 => ⟨_, rfl, one, tx1, rfl, ok1, fun l e => (gd1 l e).1, g6.tab, fun ns e v' H' g' hv' => h1 v' H' g' (by rw [rk_box, e]; exact hv'), fun i e => h2 i (by rw [rk_box, e])⟩)
        (fun x H6 g6 hx => ⟨_, rfl, _, rfl, ⟨b, bs, one, tx1, .box, rfl, seqT_ext (g5.trans g6).ext hB4, hb, ok1, gd1, g6.tab, fun y H7 g7 hy => ⟨x, y, rfl, al_res (ResV.extL hx (ExtL.of g7.ext)) hy (small_res gd1), g7.tab, fun H9 g9 => ⟨true, rfl, iteF ?_⟩⟩⟩⟩)⟩
      have k7 := g5.trans (g6.trans (g7.trans g9))
      clear g5 g6 hx g7 g9 hy
      refine ⟨k7.tab, fun H8 g8 => told_res (readK bs .loss tx2) g8.tab (fun H6 E2 Q2 g6 h1 h2 => ⟨_, _, rfl, rfl, b, bs, two, tx2, rfl, seqT_ext ((k7.trans g8).trans g6).ext hB4, hb, ok2, fun l e => (gd2 l e).1, g6.tab, fun ns e v' H' g' hv' => h1 v' H' g' (by rw [rk_loss, e]; exact hv'), fun i e => h2 i (by rw [rk_loss, e])⟩)
        (fun x H6 g6 hx => ⟨_, rfl, _, rfl, ⟨b, bs, two, tx2, .loss, rfl, seqT_ext ((k7.trans g8).trans g6).ext hB4, hb, ok2, gd2, g6.tab, fun y H7 g7 hy => ⟨x, y, rfl, al_res (ResV.extL hx (ExtL.of g7.ext)) hy (small_res gd2), g7.tab, fun H9 g9 => ⟨true, rfl, iteF ?_⟩⟩⟩⟩)⟩
      have k9 := k7.trans (g8.trans (g6.trans (g7.trans g9)))
      clear g8 g6 hx g9 g7 hy
      refine ⟨k9.tab, fun H8 g8 => told_res (readK bs .orders tx3) g8.tab (fun H6 E2 Q2 g6 h1 h2 => ⟨_, rfl, three, tx3, rfl, ok3, fun l e => (gd3 l e).1, g6.tab, fun ns e v' H' g' hv' => h1 v' H' g' (by rw [rk_ords, e]; exact hv'), fun i e => h2 i (by rw [rk_ords, e])⟩)
        (fun x H6 g6 hx => ⟨_, rfl, _, rfl, ⟨b, bs, three, tx3, .orders, rfl, seqT_ext ((k9.trans g8).trans g6).ext hB4, hb, ok3, gd3, g6.tab, fun y H7 g7 hy => ⟨x, y, rfl, al_res (ResV.extL hx (ExtL.of g7.ext)) hy (small_res gd3), g7.tab, fun H9 g9 => ⟨true, rfl, iteF ?_⟩⟩⟩⟩)⟩
      have k10 := k9.trans (g8.trans (g6.trans (g7.trans g9)))
      have gz := g3.trans (GrR.of k10 g3.row)
      exact ⟨r, b, bs, F1, F2, F3, l1, l2, l3, _, _, _, _, _, _, _, _, _, _, _, _, rfl, gz.tab, gz.row, seqT_extL (gz.extL hrow) hB, hb, L1.grow gz, L2.grow gz, L3.grow gz⟩
    · obtain ⟨r, b, bs, F1, F2, F3, l1, l2, l3, v0, v3, v4, v8, v9, v10, v11, v12, v13, v14, v15, v16, rfl, t0, hrow, hB, hb, _⟩ := hP
      exact ⟨r, b, bs, v0, v3, v4, _, _, _, v8, v9, v10, v11, v12, v13, v14, v15, v16, rfl, t0, hrow, hB, hb, hQ⟩
end
end Kt
set_option maxHeartbeats 8000000
/-! The law. -/
namespace Kt
open PySem PySem.Spec PyProof.Rows L2 SX Km
/-- what stands in the base is not told by H -/
theorem pe_base {X : Cx} {e : Expr} {t : TE} (h : PE X e t) : PE X e (fun σ H Q => t σ H (fun v H' => (∀ b o, X.base.get? b = some o → H' b = none) → Q v H')) := by
  refine ⟨fun pins s σ H Q I hq => ?_⟩
  exact thn (h.run pins s σ H _ I hq) fun u s' ⟨v, H', J, r, q⟩ => ⟨v, H', J, r, q fun b o e => (J.bs b o e).2⟩
def rJoin (K : PySem.W.Frag) : V → List V → Hp → VK → Prop := fun x xs H Q => ∃ a p, ∃ ys : List Str, x = .str a ∧ xs = [.ref p] ∧ (SqL K H p (ys.map V.str) ∨ SqT K H p (ys.map V.str)) ∧ (ys.map (·.length)).sum + ys.length * a.length ≤ 16777216 ∧ Q (.str (Txt.join a ys)) H
theorem pe_joinK {X : Cx} {K : PySem.W.Frag} {o e : Expr} {to te : TE} {apos pos : Pos} (hK : X.K = K) (ho : PE X o to) (he : PE X e te) (hs : starEach [e] X.env = [(false, eval e X.env)] := by rfl) (hbase : attributeBase o "join" X.env (eval o X.env) = eval o X.env := by rfl) (hline : (apos.endLine == pos.line) = true := by rfl) :
    PE X (.Call (.Attribute o "join" apos) [e] [] pos) (tMono (tM1 (rJoin K) to te)) := by
  subst hK
  exact PE.mono (pe_join ho he hs hbase hline)
theorem pi_listK {X : Cx} {K : PySem.W.Frag} {tg l : Expr} {tl : TE} (hK : X.K = K) (hl : PE X l tl) : PI X tg l (iList K tl) := by
  subst hK
  exact pi_list hl
section
variable {P : Program} {w : World} {K : PySem.W.Frag} {mg : Str → Option Value} {base : Heap}
theorem sq_ne {H H' : Hp} {a r : Addr} {xs : List V} (kin : K.In base) (h : SqL K H a xs) (hr : H r = none) (hr' : ∃ o, H' r = some o) (hb : ∀ b o, base.get? b = some o → H' b = none) : a ≠ r := by
  obtain ⟨o', hr'⟩ := hr'
  rcases h with (h | ⟨o, h⟩) | ⟨o, its, n, h, hc, _⟩
  · exact ne_of_none h hr
  · exact ne_of_none h hr
  · intro z
    have := hb a o (kin _ _ h)
    rw [z, hr'] at this
    cases this
def spLaw (K : PySem.W.Frag) : Sp := fun vs H Q _ => ∃ (a : Addr) (ns : List Int), vs = [.ref a] ∧ SqL K H a (ns.map V.int) ∧ TabOk K H ∧ ∀ H', Q (.bl true) H'
theorem law_ok (T : Fx K mg base) {fd : FuncData} (F : FunD K "law" "law" (defArgs sLaw) (defBody sLaw) (defScope sLaw) [] [] (He.ga K "law") fd) : FnOk P w K mg base (L2.CX P w) 10 (He.ga K "law") fd ["_law_script"] (spLaw K) := by
  refine okT (q := ("law", none)) F scLaw (fun vs H Q E h => ?_) (fun A outer s H vs Q E hr h => ?_)
  · obtain ⟨a, ns, rfl, _⟩ := h
    rfl
  · obtain ⟨sc, ns, rfl, hS, t0, hQ⟩ := h
    refine ⟨_, pss_cons (ps_set (i := 1) scLaw.nd rfl (.inl rfl) (pe_base (pe_lst (pa_cons (pv 0) (pa_cons pe_int (pa_cons pe_int (pa_cons pe_int pa_nil)))))))
      (pss_cons (ps_set (i := 2) scLaw.nd rfl (.inr rfl) (pe_cl (cl_law_box T ns sc) hr (by decide) (by rfl) quiet (pa_cons (pv 1) (pa_cons pe_int (pa_cons (pe_cl (cl_pick T ns sc) hr (by decide) (by rfl) quiet (pa_cons (pv 1) (pa_cons (pe_lst (pa_cons pe_int (pa_cons pe_int (pa_cons pe_int pa_nil)))) pa_nil))) pa_nil)))))
      (pss_cons (ps_par (i := 3) (j := 4) rfl scLaw.nd rfl rfl (by decide) rfl rfl (pa_cons (pe_cl (cl_law_some T ns sc) hr (by decide) (by rfl) quiet (pa_cons (pv 1) (pa_cons (pe_callB call_len (by rfl) T.n_len (by decide +kernel) (pa_cons (pv 2) pa_nil)) pa_nil)))
          (pa_cons (pe_cl (cl_law_orders T ns sc) hr (by decide) (by rfl) quiet (pa_cons (pv 1) (pa_cons (pv 2) (pa_cons (pe_cl (cl_taken T ns sc) hr (by decide) (by rfl) quiet (pa_cons (pv 1) (pa_cons pe_int pa_nil))) pa_nil)))) pa_nil)) (by rfl))
      (pss_cons (ps_par (i := 5) (j := 6) rfl scLaw.nd rfl rfl (by decide) rfl rfl (pa_cons (pe_lst (pa_cons (pe_cl (cl_law_line T) hr (by decide) (by rfl) quiet (pa_cons (pe_catW pe_str (pv 2)) pa_nil)) pa_nil)) (pa_cons (pe_lst (pa_cons (pe_cl (cl_law_line T) hr (by decide) (by rfl) quiet (pa_cons (pe_catW pe_str (pv 3)) pa_nil)) pa_nil)) pa_nil)) (by rfl))
      (pss_cons (ps_set (i := 7) scLaw.nd rfl (.inl rfl) (pe_op op_cat (pv 5) (pe_lc (own := [("_law_order", 8)]) (g := gName 8) (tt := tYes) rfl scLaw.nd (pi_tup (pv 4)) (blkOk_by (own := [("_law_order", 8)]) (N := nmLaw) (sc := defScope sLaw) (by decide +kernel)) (fun _ _ _ _ _ => pg_name (i := 8) scLaw.nd rfl (.inl rfl)) (fun _ _ _ _ _ => pts_nil)
          (fun _ _ _ _ _ => pe_cl (cl_law_line T) hr (by decide) (by rfl) quiet (pa_cons (pv 8) pa_nil)))))
      (pss_cons (ps_if (pt_cmpR (op_neD hr.units) (pe_lst (pa_cons (pe_cl (cl_box_text T) hr (by decide) (by rfl) quiet (pa_cons (pv 2) pa_nil)) (pa_cons (pe_cl (cl_loss_text T) hr (by decide) (by rfl) quiet (pa_cons (pv 2) (pa_cons (pv 3) pa_nil))) (pa_cons (pe_cl (cl_orders_text T) hr (by decide) (by rfl) quiet (pa_cons (pv 2) (pa_cons (pv 4) pa_nil))) pa_nil))))
          (pe_lc (own := [("_law_some_here", 10)]) (g := gName 10) (tt := tYes) rfl scLaw.nd (pi_list (pe_lst (pa_cons (pv 5) (pa_cons (pv 6) (pa_cons (pv 7) pa_nil))))) (blkOk_by (own := [("_law_some_here", 10)]) (N := nmLaw) (sc := defScope sLaw) (by decide +kernel)) (fun _ _ _ _ _ => pg_name (i := 10) scLaw.nd rfl (.inl rfl)) (fun _ _ _ _ _ => pts_nil)
            (fun _ _ _ _ _ => (pe_joinK (K := K) rfl pe_str (pe_lc (own := [("_law_line_here", 9)]) (g := gName 9) (tt := tYes) rfl scLaw.nd (pi_listK (K := K) rfl (pv 10)) (blkOk_by (own := [("_law_line_here", 9)]) (N := nmLaw) (sc := { kind := .function, names := [(".0", .local), ("_law_some_here", .local)], isGenerator := false, isCoroutine := false }) (by decide +kernel)) (fun _ _ _ _ _ => pg_name (i := 9) scLaw.nd rfl (.inl rfl)) (fun _ _ _ _ _ => pts_nil)
              (fun _ _ _ _ _ => pe_op op_add_str (pv 9) pe_str))))) (nomark _)) (pss_one (ps_ret pe_bl)) pss_nil)
      (pss_cons (ps_if (pt_not (pt_val (pe_cl (cl_alike T 2) hr (by decide) (by rfl) quiet (pa_cons (pe_lst (pa_cons (pe_cl (cl_read_box T) hr (by decide) (by rfl) quiet (pa_cons (pe_cl (cl_box_text T) hr (by decide) (by rfl) quiet (pa_cons (pv 2) pa_nil)) pa_nil))
          (pa_cons (pe_cl (cl_read_loss T) hr (by decide) (by rfl) quiet (pa_cons (pv 2) (pa_cons (pe_cl (cl_loss_text T) hr (by decide) (by rfl) quiet (pa_cons (pv 2) (pa_cons (pv 3) pa_nil))) pa_nil))) pa_nil))) (pa_cons (pe_lst (pa_cons (pv 2) (pa_cons (pv 3) pa_nil))) pa_nil))))) (pss_one (ps_ret pe_bl)) pss_nil)
      (pss_cons (ps_if (pt_not (pt_val (pe_cl (cl_alike T 3) hr (by decide) (by rfl) quiet (pa_cons (pe_cl (cl_read_orders T) hr (by decide) (by rfl) quiet (pa_cons (pe_cl (cl_orders_text T) hr (by decide) (by rfl) quiet (pa_cons (pv 2) (pa_cons (pv 4) pa_nil))) pa_nil)) (pa_cons (pe_tup (pa_cons (pv 2) (pa_cons (pv 4) pa_nil))) pa_nil))))) (pss_one (ps_ret pe_bl)) pss_nil)
      (law_loop T ns sc hr (by decide))))))))), ?_⟩
    have h2 : 2 ≤ sizeLine := by decide
    refine ⟨_, rfl, by show 4 ≤ sizeLine; decide, fun r nr hbase => ?_⟩
    have g0 := (Gr.refl t0).new (o := .lst [.ref sc, .int 0, .int 9060, .int 0]) nr
    have scr : sc ≠ r := sq_ne T.kin hS nr ⟨_, upd_same⟩ hbase
    have r0 : RowAt K ns sc (upd H r (.lst [.ref sc, .int 0, .int 9060, .int 0])) r := ⟨0, 9060, 0, upd_same, seqL_ext g0.ext hS, scr, by decide, by decide, by decide⟩
    have nr2 : ∀ {H' : Hp} {p : Addr}, RowAt K ns sc H' r → H' p = none → p ≠ r := fun {H' p} h np => by
      obtain ⟨l0, hl0⟩ := h.lst
      exact (ne_of_none hl0 np).symm
    refine ⟨_, rfl, _, rfl, by show 3 ≤ sizeLine; decide, fun p np => ⟨r, p, _, rfl, (r0.ext ((Gr.refl g0.tab).new np).ext), .of upd_same, nr2 r0 np, by simp, by simp, fun k v H1 hk e1 r1 => ?_⟩⟩
    have q1 := (GrR.refl g0.tab r0).new (o := .lst [.int 9, .int 60, .int 1000]) np
    have q2 := q1.trans (GrR.drawn q1.tab q1.row e1 r1)
    obtain ⟨top, rfl, ht1, ht2⟩ : ∃ top : Nat, v = nV top ∧ 1 ≤ top ∧ top ≤ 1000 := by
      match k, hk with
      | 0, hk => cases hk; exact ⟨9, rfl, by decide, by decide⟩
      | 1, hk => cases hk; exact ⟨60, rfl, by decide, by decide⟩
      | 2, hk => cases hk; exact ⟨1000, rfl, by decide, by decide⟩
    refine ⟨r, top, rfl, r1, ht1, ht2, q2.tab, fun bs vb H2 hb g2 hvb => ?_⟩
    obtain ⟨b, rfl, hB⟩ := hvb
    have hbl := isBox_len hb
    have hlb : (bs.map nV).length = bs.length := List.length_map _
    refine ⟨_, rfl, _, rfl, _, _, rfl, .inr ⟨_, hB, rfl⟩, r, (bs.map nV).length, rfl, g2.row, by omega, g2.tab, fun ls vl H3 hls hll g3 hvl => ?_⟩
    obtain ⟨lo, rfl, hL⟩ := hvl
    rw [hlb] at hls hll
    have hB3 := seqT_extL (g3.extL g2.row) hB
    refine ⟨_, rfl, _, rfl, _, rfl, r, 7, rfl, g3.row, by decide, by decide, fun m H4 hm e4 r4 => ?_⟩
    have g4 := GrR.drawn g3.tab g3.row e4 r4
    refine ⟨r, b, bs, m, rfl, r4, seqT_extL (g4.extL g3.row) hB3, hb, by omega, g4.tab, fun os xs q H5 hol hok g5 hq hO => ⟨_, _, rfl, ?_⟩⟩
    have hB5 := seqT_extL (g5.extL r4) (seqT_extL (g4.extL g3.row) hB3)
    have hL5 := seqT_extL (g5.extL r4) (seqT_extL (g4.extL g3.row) hL)
    have row5 := g5.row
    have t5 := g5.tab
    clear e1 e4 q1 q2 g2 g3 g4 g5 hB hB3 hL
    have hbz := isBox_small hb
    have z3 : ∀ n ∈ bs, n < 100000 := fun n hn => by have := hbz n hn; omega
    have zl3 : ∀ n ∈ ls, n < 100000 := fun n hn => by have := isLoss_small hls n hn; omega
    have hsb := sum_nums z3
    have hsl := sum_nums zl3
    have G0 := Gr.refl t5
    refine fun t nt => ⟨_, rfl, b, bs.map nV, rfl, seqT_ext (G0.new nt).ext hB5, by omega, upd_same, fun p2 H6 s6 hp6 => ?_⟩
    have G1 := (G0.new (o := .tup [.str ("box" : Str)]) nt).trans (Gr.same (G0.new nt).tab s6)
    refine ⟨p2, _, wBox :: bs.map TL.numL, rfl, hp6, WdAll.cons (.inl (by rw [s_box])) (wd_nums z3), by rw [List.length_cons, hlb]; omega, ?_, G1.tab, fun H7 g7 => ⟨by show 1 ≤ sizeLine; decide, fun F1 nF1 => ?_⟩⟩
    · rw [List.map_cons, List.sum_cons]
      have : wBox.length = 3 := rfl
      omega
    have G2 := (G1.trans g7).new (o := .lst ([boxL bs].map sV)) nF1
    have hF1 : (upd H7 F1 (.lst ([boxL bs].map sV))) F1 = some (.lst ([boxL bs].map sV)) := upd_same
    have F1r : F1 ≠ r := nr2 (row5.ext (G1.trans g7).ext) nF1
    refine fun t2 nt2 => ⟨_, rfl, lo, ls.map nV, rfl, seqT_ext (G2.new nt2).ext hL5, by rw [List.length_map]; omega, upd_same, fun p3 H8 s8 hp8 => ?_⟩
    have G3a := (Gr.refl G2.tab).new (o := .tup [.str ("lost" : Str)]) nt2
    have G3 := G3a.trans (Gr.same G3a.tab s8)
    refine ⟨p3, _, wLost :: ls.map TL.numL, rfl, hp8, WdAll.cons (.inl (by rw [s_lost])) (wd_nums zl3), by rw [List.length_cons, List.length_map]; omega, ?_, G3.tab, fun H9 g9 => ⟨by show 1 ≤ sizeLine; decide, fun F2 nF2 => ⟨_, _, rfl, ?_⟩⟩⟩
    · rw [List.map_cons, List.sum_cons]
      have : wLost.length = 4 := rfl
      omega
    have G4 := (G3.trans g9).new (o := .lst ([lossL ls].map sV)) nF2
    have hF2 : (upd H9 F2 (.lst ([lossL ls].map sV))) F2 = some (.lst ([lossL ls].map sV)) := upd_same
    have F2r : F2 ≠ r := nr2 (row5.ext (G2.trans (G3.trans g9)).ext) nF2
    have hF1' := G4.ext F1 _ hF1 (fun _ z => nomatch z)
    have G5 := G2.trans G4
    have hq5 := seqT_ext G5.ext hq
    have hO5 := hO.ext G5.ext
    have hlx := hO.len
    refine ⟨_, rfl, _, rfl, q, rfl, ⟨_, hq5⟩, fun D nD => ?_⟩
    refine lc_mapT (xs := xs) G5.tab nD hq5 (by omega) (fun j y _ => ∃ t, (os.map ordL)[j]? = some t ∧ y = .str (S t)) (fun j y _ _ h _ => h) (fun j x H10 Qe hx g hqe => ?_) (fun ys H10 g10 hy hl2 hf => ?_)
    · obtain ⟨c, o, rfl, ho, hc⟩ := hO5.get hx
      obtain ⟨w1, w2, w3⟩ := wd_ord (by omega) (hok o (List.mem_of_getElem? ho))
      exact ⟨_, rfl, c, _, _, rfl, seqT_ext g.ext hc, w1, by simp, by omega, g.tab, fun H11 g11 => hqe _ H11 g11 ⟨_, by rw [List.getElem?_map, ho]; rfl, rfl⟩⟩
    · have e := texts_of (ts := os.map ordL) (by rw [List.length_map]; omega) hf
      refine ⟨F1, D, _, _, rfl, rfl, g10.ext _ _ hF1' (fun _ z => nomatch z), hy, ?_, fun F3 nF3 => ?_⟩
      · have h9 : 100 ≤ sizeLine := by decide
        show 1 + _ ≤ _
        omega
      have G6 := (G5.trans g10).new (o := .lst ([boxL bs].map sV ++ ys)) nF3
      have F3r : F3 ≠ r := nr2 (row5.ext (G5.trans g10).ext) nF3
      have G6' := g10.new (o := .lst ([boxL bs].map sV ++ ys)) nF3
      have hF3 : (upd H10 F3 (.lst ([boxL bs].map sV ++ ys))) F3 = some (.lst ((boxL bs :: os.map ordL).map sV)) := by
        rw [upd_same, e]
        rw [List.map_map]
        rfl
      have kF1 := G6'.ext F1 _ hF1' (fun _ z => nomatch z)
      have kF2 := G6'.ext F2 _ hF2 (fun _ z => nomatch z)
      have kB := seqT_ext G6.ext hB5
      have kL := seqT_ext G6.ext hL5
      have kq := seqT_ext G6.ext hq
      have kO := hO.ext G6.ext
      have krow := row5.ext G6.ext
      have h3z : 3 ≤ sizeLine := by decide
      have eb : boxL bs ++ [10] = textT [boxL bs] := by simp [textT]
      have el : lossL ls ++ [10] = textT [lossL ls] := by simp [textT]
      have gb := good_box hb
      have gl := good_loss hbl.2 (by omega) hls
      have go : ∀ o ∈ os, GoodL (ordL o) := fun o ho => good_ord hbl.2 (hok o ho)
      have good1 : ∀ u ∈ [boxL bs], GoodL u := fun u hu => by rw [List.mem_singleton.mp hu]; exact gb
      have good2 : ∀ u ∈ [lossL ls], GoodL u := fun u hu => by rw [List.mem_singleton.mp hu]; exact gl
      have good3 : ∀ u ∈ boxL bs :: os.map ordL, GoodL u := fun u hu => by
        rcases List.mem_cons.mp hu with z | z
        · rw [z]; exact gb
        · obtain ⟨o, ho, rfl⟩ := List.mem_map.mp z
          exact go o ho
      have ol : (boxL bs :: os.map ordL).length ≤ 8 := by rw [List.length_cons, List.length_map]; omega
      have T0 := G6.tab
      clear g10 G6' hF1' hF2 G5 G4 G3 G3a G2 G1 hq5 hO5
      refine ⟨_, rfl, b, bs, rfl, kB, hb, T0, fun H12 g12 => ?_⟩
      refine ⟨_, rfl, _, rfl, b, lo, bs, ls, rfl, seqT_ext g12.ext kB, hb, seqT_ext g12.ext kL, hls, by omega, g12.tab, fun H13 g13' => ?_⟩
      have g13 := g12.trans g13'
      refine ⟨_, rfl, _, rfl, b, q, bs, xs, os, rfl, seqT_ext g13.ext kB, hb, seqT_ext g13.ext kq, kO.ext g13.ext, by omega, hok, g13.tab, fun H14 g14' => ⟨h3z, fun T1 nT1 => ?_⟩⟩
      have g14 := (g13.trans g14').new (o := .lst [.str (S (boxL bs ++ [10])), .str (S (lossL ls ++ [10])), .str (S (textT (boxL bs :: os.map ordL)))]) nT1
      refine ⟨_, rfl, _, rfl, _, rfl, h3z, fun T2 nT2 => ⟨T2, rfl, ⟨_, .of upd_same⟩, fun Dn nDn => ?_⟩⟩
      have g15 := g14.new (o := .lst [.ref F1, .ref F2, .ref F3]) nT2
      have hT1 : (upd (upd H14 T1 (.lst [.str (S (boxL bs ++ [10])), .str (S (lossL ls ++ [10])), .str (S (textT (boxL bs :: os.map ordL)))])) T2 (.lst [.ref F1, .ref F2, .ref F3])) T1 = some (.lst [.str (S (boxL bs ++ [10])), .str (S (lossL ls ++ [10])), .str (S (textT (boxL bs :: os.map ordL)))]) := by
        rw [upd_ne (ne_of_none upd_same nT2), upd_same]
      refine lc_mapL (xs := [.ref F1, .ref F2, .ref F3]) g15.tab nDn (.of upd_same) (by simp) (fun j y _ => ∃ t, [textT [boxL bs], textT [lossL ls], textT (boxL bs :: os.map ordL)][j]? = some t ∧ y = .str (S t)) (fun j y _ _ h _ => h) (fun j x H16 Qe hx g16 hqe => ?_) (fun ys2 H16 g16 hy2 hl3 hf2 => ?_)
      · obtain ⟨F, l, rfl, hF, hgl, hll2, hjt⟩ : ∃ (F : Addr) (l : List (List Nat)), x = .ref F ∧ H16 F = some (.lst (l.map sV)) ∧ (∀ u ∈ l, GoodL u) ∧ l.length ≤ 8 ∧ [textT [boxL bs], textT [lossL ls], textT (boxL bs :: os.map ordL)][j]? = some (textT l) := by
          match j, hx with
          | 0, hx => cases hx; exact ⟨F1, [boxL bs], rfl, (g15.trans g16).ext _ _ kF1 (fun _ z => nomatch z), good1, by simp, rfl⟩
          | 1, hx => cases hx; exact ⟨F2, [lossL ls], rfl, (g15.trans g16).ext _ _ kF2 (fun _ z => nomatch z), good2, by simp, rfl⟩
          | 2, hx => cases hx; exact ⟨F3, boxL bs :: os.map ordL, rfl, (g15.trans g16).ext _ _ hF3 (fun _ z => nomatch z), good3, ol, rfl⟩
        refine ⟨fun v H17 => Gr K H16 H17 ∧ v = .str (S (textT l)), ⟨⟨_, rfl⟩, _, rfl, F, rfl, ⟨_, .of hF⟩, fun Dm nDm => ?_⟩, fun v H17 ⟨g17, ev⟩ => ?_⟩
        · refine lines_read (Q := fun v H2 => Gr K H16 H2 ∧ v = .str (S (textT l))) (.of hF) hgl (by omega) g16.tab (fun H2 g2 => ⟨g2, rfl⟩) _ 9 (fun u H2 Q hu hq => ?_) Dm nDm
          have hnl : ("\n" : Str).length = 1 := by decide +kernel
          have h9 : 100000 ≤ sizeLine := by decide
          refine ⟨_, rfl, _, _, rfl, rfl, by rw [S_len, hnl]; omega, ?_⟩
          rw [s_nl, S_cat]
          exact hq
        · subst ev
          exact hqe _ H17 g17 ⟨_, hjt, rfl⟩
      · have e2 := texts_of (ts := [textT [boxL bs], textT [lossL ls], textT (boxL bs :: os.map ordL)]) (by rw [hl3]; rfl) hf2
        have asc3 : ∀ t ∈ [textT [boxL bs], textT [lossL ls], textT (boxL bs :: os.map ordL)], Asc t := fun t ht => by
          simp only [List.mem_cons, List.not_mem_nil, or_false] at ht
          rcases ht with z | z | z <;> rw [z]
          · exact asc_text good1
          · exact asc_text good2
          · exact asc_text good3
        have hT1' : H16 T1 = some (.lst ([textT [boxL bs], textT [lossL ls], textT (boxL bs :: os.map ordL)].map sV)) := by
          have := g16.ext _ _ hT1 (fun _ z => nomatch z)
          rw [this, eb, el]
          rfl
        have hDn : H16 Dn = some (.lst ([textT [boxL bs], textT [lossL ls], textT (boxL bs :: os.map ordL)].map sV)) := by
          rw [hy2, e2, List.map_map]
          rfl
        refine ⟨_, _, .lst (.of hT1') (dp_strs _), .lst (.of hDn) (dp_strs _), shaped_strs asc3, shaped_strs asc3, _, rfl, ?_⟩
        have ev : PyData.eqv (.list ([textT [boxL bs], textT [lossL ls], textT (boxL bs :: os.map ordL)].map fun t => .str (S t))) (.list ([textT [boxL bs], textT [lossL ls], textT (boxL bs :: os.map ordL)].map fun t => .str (S t))) = true := eqv_strs _
        rw [ev]
        refine iteF ?_
        have K0 := g15.trans g16
        clear g16 hT1' hDn hy2 hf2 hl3 e2 hT1 nT1 nT2 nDn
        have z1 := boxL_len hb
        have z2 := lossL_len (by omega : ls.length ≤ 10) zl3
        refine ⟨_, rfl, b, bs, rfl, seqT_ext K0.ext kB, hb, K0.tab, fun H17 g17 => ?_⟩
        have K1 := K0.trans g17
        refine ⟨_, some _, rfl, rfl, fun l el2 => by cases el2; rw [List.length_append]; show _ + 1 ≤ _; omega, K1.tab, fun ns1 e1 v1 H18 g18 hv1 => ?_, fun i ei => ?_⟩
        rotate_left
        · rw [eb, read_box_back hb] at ei
          cases ei
        rw [eb, read_box_back hb] at e1
        cases e1
        obtain ⟨b1, rfl, hb1⟩ := hv1
        have K2 := K1.trans g18
        refine ⟨_, rfl, _, rfl, _, rfl, b, lo, bs, ls, rfl, seqT_ext K2.ext kB, hb, seqT_ext K2.ext kL, hls, by omega, K2.tab, fun H19 g19 => ?_⟩
        have K3 := K2.trans g19
        refine ⟨b, bs, _, some _, rfl, seqT_ext K3.ext kB, hb, rfl, fun l el2 => by cases el2; rw [List.length_append]; show _ + 1 ≤ _; omega, K3.tab, fun ns2 e3 v2 H20 g20 hv2 => ?_, fun i ei => ?_⟩
        rotate_left
        · rw [el, read_loss_back hbl.2 hls] at ei
          cases ei
        rw [el, read_loss_back hbl.2 hls] at e3
        cases e3
        obtain ⟨lo1, rfl, hl1⟩ := hv2
        have K4 := K3.trans g20
        refine ⟨h2, fun U1 nU1 => ⟨_, rfl, _, rfl, h2, fun U2 nU2 => ?_⟩⟩
        have K5 := (Gr.refl K4.tab).new (o := .lst [.ref b1, .ref lo1]) nU1
        have K6 := K5.new (o := .lst [.ref b, .ref lo]) nU2
        have K7 := K4.trans K6
        refine ⟨.ref U1, .ref U2, rfl, al_pairL (n := 1) (.of (by rw [upd_ne (ne_of_none upd_same nU2), upd_same])) (.of upd_same) (al_nums (seqT_ext ((g19.trans g20).trans K6).ext hb1) (seqT_ext K7.ext kB) (by omega) 0) (al_nums (seqT_ext K6.ext hl1) (seqT_ext K7.ext kL) (by omega) 0), K7.tab, fun H21 g21 => ⟨true, rfl, iteF ?_⟩⟩
        have M0 := K7.trans g21
        clear K0 K1 K2 K3 K4 K5 K6 K7 g17 g18 g19 g20 g21
        refine ⟨_, rfl, _, rfl, b, q, bs, xs, os, rfl, seqT_ext M0.ext kB, hb, seqT_ext M0.ext kq, kO.ext M0.ext, by omega, hok, M0.tab, fun H22 g22 => ?_⟩
        have M1 := M0.trans g22
        have z3' := textT_len good3
        refine ⟨_, some _, rfl, rfl, fun l el2 => by cases el2; omega, M1.tab, fun rr e4 v3 H23 g23 hv3 => ?_, fun i ei => ?_⟩
        rotate_left
        · rw [read_orders_back hb hok (by omega)] at ei
          cases ei
        rw [read_orders_back hb hok (by omega)] at e4
        cases e4
        have M2 := M1.trans g23
        refine ⟨_, rfl, _, rfl, h2, fun U nU => ?_⟩
        have M3a := (Gr.refl M2.tab).new (o := .tup [.ref b, .ref q]) nU
        have M3 := M2.trans M3a
        refine ⟨_, .ref U, rfl, al_read (hv3.ext M3a.ext) ⟨U, b, q, xs, rfl, .inl (.inl upd_same), seqT_ext M3.ext kB, seqT_ext M3.ext kq, kO.ext M3.ext⟩ (by show bs.length ≤ _; omega) (by show os.length ≤ _; omega), M3.tab, fun H24 g24 => ⟨true, rfl, iteF ?_⟩⟩
        have N0 := M3.trans g24
        exact ⟨⟨r, b, bs, F1, F2, F3, [boxL bs], [lossL ls], boxL bs :: os.map ordL, _, _, _, _, _, _, _, _, _, _, _, _, rfl, N0.tab, krow.ext N0.ext, seqT_ext N0.ext kB, hb, ⟨N0.ext _ _ kF1 (fun _ z => nomatch z), F1r, by simp, good1⟩, ⟨N0.ext _ _ kF2 (fun _ z => nomatch z), F2r, by simp, good2⟩, ⟨N0.ext _ _ hF3 (fun _ z => nomatch z), F3r, ol, good3⟩⟩, hQ⟩
end
end Kt
set_option maxHeartbeats 0
/-! The end: the head and the law. -/
namespace Kt
open PySem PySem.Spec PyProof.Rows L2 SX Km
theorem told_at {w : World} {K : PySem.W.Frag} {h : Heap} {mg : Str → Option Value} {f : Addr} (KX : K.In h) (G : h.Ns mainGlobals mg) (hfa : mg ("law" : Str) = some (.ref f)) (c : He.SaysX fa fn [] tf ex w h K) :
    LamX.LawAtS PySem.Challenge.rw_lostweights_k60_whole_texts w K (L2.CX PySem.Challenge.rw_lostweights_k60_whole_texts.prog w) 10 63 "_law_script" mg f h := by
  have cd : He.SaysD fa fn K := c.t.d
  obtain ⟨fd, F⟩ := cd.def_ 33 (d := dd "law" sLaw) rfl
  have F : FunD K "law" "law" (defArgs sLaw) (defBody sLaw) (defScope sLaw) [] [] (He.ga K "law") fd := F
  have e : f = He.ga K "law" := by
    have z := hfa.symm.trans (He.glo_ok KX G (cd.fact 33 (f := .glo "law") rfl))
    cases z
    rfl
  subst e
  have b := FunD.bindsA (ps := ["_law_script"]) F fun _ _ _ _ _ _ us hl => match us, hl with | [_], _ => rfl
  refine ⟨fd, tf.map (He.cT K), spLaw K, fun p hp => ?_, fun p hp => ?_, fun p hp => ?_, fun s v => b s [v] rfl, fun H a ns hlen _ hT hS => ?_, fun base kin gl tb => ?_⟩
  · obtain ⟨q, hq, rfl⟩ := List.mem_map.mp hp
    exact c.empty q hq
  · obtain ⟨q, hq, rfl⟩ := List.mem_map.mp hp
    exact c.out q hq
  · obtain ⟨q, hq, rfl⟩ := List.mem_map.mp hp
    exact PySem.W.codeHd_of_K KX (c.hd q hq)
  · have at_ : ∀ q ∈ tf, H (He.cT K q).2 = some (.tbl #[]) := fun q hq => hT _ (List.mem_map.mpr ⟨q, hq, rfl⟩)
    exact ⟨a, ns, rfl, hS, ⟨⟨_, at_ ("is_loss", none) (by simp [tf]), True.intro⟩, ⟨_, at_ ("number_of", none) (by simp [tf]), True.intro⟩, LamX.TabS.nil (at_ ("_law_told", none) (by simp [tf])), LamX.TabS.nil (at_ ("law", none) (by simp [tf]))⟩, fun _ => rfl⟩
  · exact law_ok ⟨kin, gl, cd, c.more, tb⟩ F
end Kt
open PySem PySem.W PySem.Calls PyProof.Rows
theorem PySem.Challenge.cw_lostweights_k60_whole_texts_holds : PySem.Challenge.rw_lostweights_k60_whole_texts.Holds := by
  w_on; o_law
  refine HandSHeadRun.head_any (r := OpenLaw.row PySem.Challenge.rw_lostweights_k60_whole_texts) (q := view (OpenLaw.row PySem.Challenge.rw_lostweights_k60_whole_texts).prog [49]) (H := Kt.hk) (ob := Kt.ob) (M := 6000) (loose := Kt.loose) (d := HandSHeadRun.topDef (OpenLaw.row PySem.Challenge.rw_lostweights_k60_whole_texts).prog 49) (kwd := []) Kt.ob_eq
    (by kernel_rfl) (fun s => by kernel_rfl) Kt.run (by kernel_rfl) (by kernel_rfl) (by kernel_rfl) (by rfl) (by first | assumption | decide +kernel) (by decide +kernel) ⟨rfl, rfl, rfl, rfl, rfl, by decide +kernel⟩ ?hw ?hc
  case hw => w_witness2
  case hc =>
    refine LamX.walk_ofTsE (l := PySem.Challenge.rw_lostweights_k60_whole_texts) (n := 63) (k := 10) (x := "_law_script") (CX := L2.CX PySem.Challenge.rw_lostweights_k60_whole_texts.prog) rfl (by decide) (by kernel_rfl) ⟨rfl, by decide, by decide⟩ ?F (fun _ _ _ _ _ h => ?_)
    · intro w mg fa h Y G hmg0
      obtain ⟨K, KX, c⟩ := Y
      have hmg : mg ("law" : PySem.Str) = some (.ref fa) := by
        have e : (HandSHeadRun.topDef (OpenLaw.row PySem.Challenge.rw_lostweights_k60_whole_texts).prog 49).name = ("law" : PySem.Str) := by kernel_rfl
        rw [← e]
        exact hmg0
      exact ⟨K, KX, Kt.told_at KX G hmg c⟩
    · obtain ⟨_, _, _, _, _, _, _, _, _, _, _, _, z⟩ := h
      exact z
