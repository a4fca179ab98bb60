import PyProof.Rows.All
import Wide.All
import OpenK.AllK
import Wide.FinOn
import HandS.ForMost
import HandS.ForSpec
import HandS.More
import HandS.IsInst
import HandS.WideBits
import HandS.FStr
import HandS.FStrTup
import HandS.ExcInit
import HandS.RaiseMore
import HandS.Flow
import HandS.TupAny
import HandS.Walk
import PySem.Challenge.RW_orderlycore_k18_whole_listing
set_option Elab.async false
set_option linter.all false
set_option maxRecDepth 100000
set_option maxHeartbeats 4000000
/-! The plain law: texts of instructions and their two readers, over code lists. No program here. -/
namespace K18
open PySem PySem.NumText TL

/-! ### numbers as signs -/
def numS (n : Int) : List Nat := tl (Str.ofString (toString n))
theorem numS_nat (m : Nat) : numS (m : Int) = numL m := tl_num m
theorem numS_neg (m : Nat) : numS (-((m + 1 : Nat) : Int)) = 45 :: numL (m + 1) := by
  show tl (Str.ofString ("-" ++ Nat.repr (m + 1))) = _
  rw [tl_ofString, String.toList_append, List.map_append, Nat.toList_repr]
  rfl
theorem dig_back : ∀ c : Nat, 48 ≤ c ∧ c ≤ 57 → (Char.ofNat c).toNat = c := fun c h => by
  have k : ∀ d : Fin 10, (Char.ofNat (48 + d.val)).toNat = 48 + d.val := by decide
  have := k ⟨c - 48, by omega⟩
  rw [show 48 + (c - 48) = c by omega] at this
  exact this
theorem digs_back : ∀ {l : List Nat}, AllDigits l → (l.map Char.ofNat).map Char.toNat = l
  | [], _ => rfl
  | c :: r, h => by
    rw [List.map_cons, List.map_cons, dig_back c h.head, digs_back h.tail]
theorem num_val {c : Nat} {r : List Nat} (h : AllDigits (c :: r)) (h9 : 49 ≤ c) : numL (digitsVal (c :: r)) = c :: r := by
  unfold numL
  rw [toDigits_digitsVal r.length (c :: r) rfl h (.inr ⟨c, r, rfl, h9⟩), digs_back h]
theorem drop_len : ∀ l : List Nat, (l.dropWhile (· == 48)).length ≤ l.length
  | [] => Nat.le_refl _
  | c :: r => by
    rw [List.dropWhile_cons]
    split
    · exact Nat.le_trans (drop_len r) (Nat.le_succ _)
    · exact Nat.le_refl _
theorem num_zero {r : List Nat} (h : AllDigits (48 :: r)) (e : numL (digitsVal (48 :: r)) = 48 :: r) : r = [] := by
  have k := toDigits_all r h.tail
  have l := congrArg List.length e
  unfold numL at l
  rw [digitsVal_zero, k, List.length_map, List.length_cons] at l
  have d := drop_len r
  split at l
  · rw [List.length_singleton] at l
    exact List.eq_nil_of_length_eq_zero (by omega)
  · rename_i c q e2
    rw [List.length_map, ← e2] at l
    omega
theorem val_four {a b c d : Nat} (h : 49 ≤ a) : 1000 ≤ digitsVal [a, b, c, d] := by
  show 1000 ≤ (((0 * 10 + (a - 48)) * 10 + (b - 48)) * 10 + (c - 48)) * 10 + (d - 48)
  omega

/-! ### the two readers of a number -/
def isDig (c : Nat) : Bool := decide (48 ≤ c ∧ c ≤ 57)
def digs (l : List Nat) : Bool := l.all isDig
theorem digs_all {l : List Nat} (h : digs l = true) : AllDigits l := fun c hc => of_decide_eq_true (List.all_eq_true.mp h c hc)
def bodyL (l : List Nat) : List Nat := if l.take 1 = [45] then l.drop 1 else l
def valL (l : List Nat) : Int := if l.take 1 = [45] then -((digitsVal (l.drop 1) : Nat) : Int) else ((digitsVal l : Nat) : Int)
theorem bodyL_neg (r : List Nat) : bodyL (45 :: r) = r := rfl
theorem valL_neg (r : List Nat) : valL (45 :: r) = -((digitsVal r : Nat) : Int) := rfl
theorem bodyL_pos {l : List Nat} (h : ¬ l.take 1 = [45]) : bodyL l = l := if_neg h
theorem valL_pos {l : List Nat} (h : ¬ l.take 1 = [45]) : valL l = ((digitsVal l : Nat) : Int) := if_neg h
/-- the program's -/
def intL (l : List Nat) : Option Int :=
  if (1 ≤ (bodyL l).length ∧ (bodyL l).length ≤ 3) ∧ digs (bodyL l) = true ∧ ¬ ((bodyL l).take 1 = [48] ∧ l ≠ [48]) then some (valL l) else none
/-- the law's -/
def numL2 (l : List Nat) : Option Int :=
  if bodyL l = [] ∨ digs (bodyL l) = false ∨ 4 < (bodyL l).length then none else if numS (valL l) = l then some (valL l) else none
def inR (lo hi : Int) (o : Option Int) : Option Int := match o with
  | some v => if lo ≤ v ∧ v ≤ hi then some v else none
  | none => none

theorem same_pos {l : List Nat} (hn : ¬ l.take 1 = [45]) {lo hi : Int} (h1 : -999 ≤ lo) (h2 : hi ≤ 999) : inR lo hi (intL l) = inR lo hi (numL2 l) := by
  unfold intL numL2
  rw [bodyL_pos hn, valL_pos hn, numS_nat]
  cases l with
  | nil => rw [if_neg (by simp), if_pos (by simp)]
  | cons c r =>
    cases hd : digs (c :: r) with
    | false => rw [if_neg (by simp), if_pos (by simp)]
    | true =>
      have A := digs_all hd
      have hc := A.head
      by_cases h48 : c = 48
      · subst h48
        by_cases hr : r = []
        · subst hr
          rw [if_pos (by simp), if_neg (by simp), if_pos (by decide)]
        · have q : ¬ numL (digitsVal (48 :: r)) = 48 :: r := fun e => hr (num_zero A e)
          rw [if_neg (by simp [hr]), if_neg q]
          split <;> rfl
      · have q := num_val A (by omega)
        rw [if_pos (c := numL (digitsVal (c :: r)) = c :: r) q]
        by_cases h3 : r.length ≤ 2
        · rw [if_pos (by simp [h48]; omega), if_neg (by simp; omega)]
        · rw [if_neg (by simp; omega)]
          by_cases h4 : r.length ≤ 3
          · rw [if_neg (by simp; omega)]
            match r, h3, h4, hd, A, hn, q with
            | [x, y, z], _, _, _, _, _, _ =>
              have v := val_four (a := c) (b := x) (c := y) (d := z) (by omega)
              show none = (if lo ≤ ((digitsVal [c, x, y, z] : Nat) : Int) ∧ ((digitsVal [c, x, y, z] : Nat) : Int) ≤ hi then _ else none)
              rw [if_neg (by omega)]
            | [], h3, _, _, _, _, _ => simp at h3
            | [_], h3, _, _, _, _, _ => simp at h3
            | [_, _], h3, _, _, _, _, _ => simp at h3
            | _ :: _ :: _ :: _ :: _, _, h4, _, _, _, _ => simp at h4
          · rw [if_pos (by simp; omega)]
theorem numS_minus {n : Nat} (h : 0 < n) : numS (-((n : Nat) : Int)) = 45 :: numL n := by
  obtain ⟨m, rfl⟩ : ∃ m, n = m + 1 := ⟨n - 1, by omega⟩
  exact numS_neg m
theorem same_neg (r : List Nat) {lo hi : Int} (h1 : -999 ≤ lo) (h2 : hi ≤ 999) : inR lo hi (intL (45 :: r)) = inR lo hi (numL2 (45 :: r)) := by
  unfold intL numL2
  rw [bodyL_neg, valL_neg]
  cases r with
  | nil => rw [if_neg (by simp), if_pos (by simp)]
  | cons c r =>
    cases hd : digs (c :: r) with
    | false => rw [if_neg (by simp), if_pos (by simp)]
    | true =>
      have A := digs_all hd
      have hc := A.head
      by_cases h48 : c = 48
      · subst h48
        rw [if_neg (by simp)]
        have q : ¬ numS (-((digitsVal (48 :: r) : Nat) : Int)) = 45 :: 48 :: r := fun e => by
          by_cases z : digitsVal (48 :: r) = 0
          · rw [z] at e
            have e0 : numS (-((0 : Nat) : Int)) = [48] := by decide +kernel
            rw [e0] at e
            cases e
          · rw [numS_minus (by omega)] at e
            injection e with _ e
            have hr := num_zero A e
            subst hr
            exact z rfl
        rw [if_neg q]
        split <;> rfl
      · have q := num_val A (by omega)
        have p : 0 < digitsVal (c :: r) := digitsVal_pos (by omega)
        rw [if_pos (c := numS (-((digitsVal (c :: r) : Nat) : Int)) = 45 :: c :: r) (by rw [numS_minus p, q])]
        by_cases h3 : r.length ≤ 2
        · rw [if_pos (by simp [h48]; omega), if_neg (by simp; omega)]
        · rw [if_neg (by simp; omega)]
          by_cases h4 : r.length ≤ 3
          · rw [if_neg (by simp; omega)]
            match r, h3, h4, hd, A, q, p with
            | [x, y, z], _, _, _, _, _, _ =>
              have v := val_four (a := c) (b := x) (c := y) (d := z) (by omega)
              show none = (if lo ≤ -((digitsVal [c, x, y, z] : Nat) : Int) ∧ -((digitsVal [c, x, y, z] : Nat) : Int) ≤ hi then _ else none)
              rw [if_neg (by omega)]
            | [], h3, _, _, _, _, _ => simp at h3
            | [_], h3, _, _, _, _, _ => simp at h3
            | [_, _], h3, _, _, _, _, _ => simp at h3
            | _ :: _ :: _ :: _ :: _, _, h4, _, _, _, _ => simp at h4
          · rw [if_pos (by simp; omega)]
/-- THE NUMBERS: within bounds of three digits the two readers agree -/
theorem same_num (l : List Nat) {lo hi : Int} (h1 : -999 ≤ lo) (h2 : hi ≤ 999) : inR lo hi (intL l) = inR lo hi (numL2 l) := by
  by_cases h : l.take 1 = [45]
  · cases l with
    | nil => cases h
    | cons c r =>
      have e : [c] = [45] := h
      injection e with e
      subst e
      exact same_neg r h1 h2
  · exact same_pos h h1 h2

/-! ### operations -/
/-- by its form: how many registers, the number's bounds -/
def regsF (f : Nat) : Nat := match f with
  | 0 => 3 | 1 => 2 | 2 => 1 | 3 => 1 | 4 => 0 | 5 => 1 | _ => 0
def numF (f : Nat) : Option (Int × Int) := match f with
  | 1 => some (-16, 15) | 2 => some (0, 255) | 3 => some (-128, 127) | 4 => some (0, 255) | 5 => some (0, 7) | _ => none
def bitF (f : Nat) : Nat := if (numF f).isSome then 1 else 0
def names : List Str := ["add", "sub", "mul", "div", "and", "or", "xor", "shl", "shr", "low", "eq", "addi", "ld", "st", "jr", "lim", "lhi", "bz", "bnz", "jal", "sys", "rdc", "wrc", "ret", "halt", "nop"]
def formI (i : Nat) : Nat := if i < 11 then 0 else if i < 15 then 1 else if i < 17 then 2 else if i < 20 then 3 else if i < 21 then 4 else if i < 23 then 5 else 6
/-- where a name stands among the names -/
def place (w : Str) : Option Nat := names.findIdx? (fun n => decide (n = w))
def opF (w : Str) : Option Nat := (place w).map formI
def regOk (o : Option Int) : Bool := match o with
  | some i => decide (0 ≤ i ∧ i ≤ 7)
  | none => false
def okV (f : Nat) (xs : List (Option Int)) : Bool :=
  decide (xs.length = regsF f + bitF f) && (xs.take (regsF f)).all regOk &&
    (match numF f with | none => true | some b => (match xs.getLast? with | some o => (inR b.1 b.2 o).isSome | none => false))

/-! ### the two readers of a text's words -/
def regL (l : List Nat) : Option Int := match l with
  | [114, d] => if 48 ≤ d ∧ d ≤ 55 then some ((d : Int) - 48) else none
  | _ => none
theorem regL_in {l : List Nat} {i : Int} (h : regL l = some i) : 0 ≤ i ∧ i ≤ 7 := by
  unfold regL at h
  split at h
  · split at h
    · injection h with h
      omega
    · cases h
  · cases h
/-- the program's -/
def heard (ws : List (List Nat)) (f : Nat) : Option (List (Option Int)) :=
  let found := (ws.take (regsF f)).map regL ++ (ws.drop (regsF f)).map intL
  if okV f found = true then some found else none
/-- the law's -/
def lread (ws : List (List Nat)) (f : Nat) : Option (List (Option Int)) :=
  if ws.length ≠ regsF f + bitF f then none
  else if ((ws.take (regsF f)).map regL).all Option.isSome = false then none
  else match numF f with
    | none => some ((ws.take (regsF f)).map regL)
    | some b => match inR b.1 b.2 (numL2 (ws.getLast?.getD [])) with
      | none => none
      | some n => some ((ws.take (regsF f)).map regL ++ [some n])
theorem regs_ok : ∀ l : List (List Nat), (l.map regL).all regOk = (l.map regL).all Option.isSome
  | [] => rfl
  | x :: r => by
    rw [List.map_cons, List.all_cons, List.all_cons, regs_ok r]
    cases h : regL x with
    | none => rfl
    | some i =>
      have k := regL_in h
      show (decide (0 ≤ i ∧ i ≤ 7) && _) = (true && _)
      rw [decide_eq_true k]
theorem numF_small {f : Nat} {b : Int × Int} (h : numF f = some b) : -999 ≤ b.1 ∧ b.2 ≤ 999 := by
  unfold numF at h
  split at h <;> first | (injection h with h; subst h; decide) | cases h
theorem inR_val {lo hi : Int} {o : Option Int} {v : Int} (h : inR lo hi o = some v) : o = some v := by
  unfold inR at h
  split at h
  · split at h
    · exact h
    · cases h
  · cases h
theorem same_read (ws : List (List Nat)) (f : Nat) : heard ws f = lread ws f := by
  unfold heard lread okV
  have hlen : ((ws.take (regsF f)).map regL ++ (ws.drop (regsF f)).map intL).length = ws.length := by
    rw [List.length_append, List.length_map, List.length_map, List.length_take, List.length_drop]
    omega
  dsimp only
  rw [hlen]
  by_cases hl : ws.length = regsF f + bitF f
  · rw [if_neg (c := ws.length ≠ regsF f + bitF f) (fun z => z hl), decide_eq_true hl]
    have ht : ((ws.take (regsF f)).map regL ++ (ws.drop (regsF f)).map intL).take (regsF f) = (ws.take (regsF f)).map regL := by
      rw [List.take_append_of_le_length (by rw [List.length_map, List.length_take]; omega), List.take_of_length_le (by rw [List.length_map, List.length_take]; omega)]
    rw [ht, regs_ok]
    cases ha : ((ws.take (regsF f)).map regL).all Option.isSome with
    | false => rfl
    | true =>
      rw [if_neg (c := true = false) (by decide)]
      cases hn : numF f with
      | none =>
        have e : ws.drop (regsF f) = [] := List.drop_eq_nil_of_le (by
          have : bitF f = 0 := by unfold bitF; rw [hn]; rfl
          omega)
        rw [e]
        simp
      | some b =>
        have b1 : bitF f = 1 := by unfold bitF; rw [hn]; rfl
        have e : ∃ x, ws.drop (regsF f) = [x] := by
          have k : (ws.drop (regsF f)).length = 1 := by rw [List.length_drop]; omega
          exact List.length_eq_one_iff.mp k
        obtain ⟨x, e⟩ := e
        have el : ws.getLast? = some x := by
          have z : ws = ws.take (regsF f) ++ [x] := by rw [← e, List.take_append_drop]
          rw [z]
          simp
        rw [e, el]
        obtain ⟨k1, k2⟩ := numF_small hn
        have sm := same_num x k1 k2
        show (if (true && true && (match ((ws.take (regsF f)).map regL ++ [intL x]).getLast? with | some o => (inR b.1 b.2 o).isSome | none => false)) = true then some ((ws.take (regsF f)).map regL ++ [intL x]) else none) = (match inR b.1 b.2 (numL2 x) with | none => none | some n => some ((ws.take (regsF f)).map regL ++ [some n]))
        rw [List.getLast?_append, List.getLast?_singleton]
        show (if (true && true && (inR b.1 b.2 (intL x)).isSome) = true then _ else none) = _
        rw [sm]
        cases hq : inR b.1 b.2 (numL2 x) with
        | none => rfl
        | some v =>
          have hv : intL x = some v := inR_val (sm.trans hq)
          rw [hv] <;> rfl
  · rw [if_pos hl, decide_eq_false hl]
    rfl
end K18

/-! The plain law, second part: the text of an instruction, read back; the words of a text. -/
namespace K18
open PySem PySem.NumText TL

def numT (n : Int) : Str := Str.ofString (toString n)
theorem tl_numT (n : Int) : tl (numT n) = numS n := rfl
theorem small_all : ∀ k : Fin 384, intL (numS ((k.val : Int) - 128)) = some ((k.val : Int) - 128) ∧ (numS ((k.val : Int) - 128)).length ≤ 4 := by decide +kernel
theorem int_back {v : Int} (h : -128 ≤ v ∧ v ≤ 255) : intL (numS v) = some v ∧ (numS v).length ≤ 4 := by
  have k := small_all ⟨(v + 128).toNat, by omega⟩
  have e : (((v + 128).toNat : Nat) : Int) - 128 = v := by omega
  rw [show ((⟨(v + 128).toNat, by omega⟩ : Fin 384).val) = (v + 128).toNat from rfl, e] at k
  exact k
theorem reg_all : ∀ k : Fin 8, regL (114 :: numS (k.val : Int)) = some (k.val : Int) := by decide +kernel
theorem reg_back {v : Int} (h : 0 ≤ v ∧ v ≤ 7) : regL (114 :: numS v) = some v := by
  have k := reg_all ⟨v.toNat, by omega⟩
  have e : ((v.toNat : Nat) : Int) = v := by omega
  rw [show ((⟨v.toNat, by omega⟩ : Fin 8).val) = v.toNat from rfl, e] at k
  exact k
theorem num_free (v : Int) : 32 ∉ tl (numT v) := (PyProof.Rows.intText_free_32 v).mp
def regT (v : Int) : Str := ("r" : Str) ++ numT v
theorem tl_regT (v : Int) : tl (regT v) = 114 :: numS v := by
  unfold regT
  rw [tl_append]
  rfl
theorem reg_free (v : Int) : 32 ∉ tl (regT v) := by
  rw [tl_regT]
  intro h
  rcases List.mem_cons.mp h with e | h
  · cases e
  · exact num_free v h
/-- the words of an instruction -/
def parts (f : Nat) (xs : List Int) : List Str := (xs.take (regsF f)).map regT ++ (xs.drop (regsF f)).map numT
def instT (w : Str) (f : Nat) (xs : List Int) : Str := Txt.join " " (w :: parts f xs)
theorem names_free : ∀ w ∈ names, 32 ∉ tl w ∧ w.length ≤ 4 ∧ w.length ≥ 2 := by decide +kernel
theorem place_mem {w : Str} {i : Nat} (h : place w = some i) : names[i]? = some w := by
  unfold place at h
  obtain ⟨hi, h1, _⟩ := List.findIdx?_eq_some_iff_getElem.mp h
  have e : names[i] = w := of_decide_eq_true h1
  rw [List.getElem?_eq_getElem hi, e]
theorem place_first {w : Str} {i j : Nat} {z : Str} (h : place w = some i) (hj : j < i) (hz : names[j]? = some z) : z ≠ w := by
  unfold place at h
  obtain ⟨hi, _, h2⟩ := List.findIdx?_eq_some_iff_getElem.mp h
  have k := h2 j hj
  intro e
  obtain ⟨hl, e2⟩ := List.getElem?_eq_some_iff.mp hz
  rw [← e, ← e2] at k
  exact k (decide_eq_true rfl)
theorem place_none {w : Str} (h : place w = none) : w ∉ names := fun hm => by
  unfold place at h
  rw [List.findIdx?_eq_none_iff] at h
  have k := h w hm
  rw [decide_eq_true rfl] at k
  cases k
theorem place_all : ∀ k : Fin 26, place (names[k.val]'(k.isLt)) = some k.val := by decide +kernel
theorem opF_mem {w : Str} {f : Nat} (h : opF w = some f) : w ∈ names := by
  unfold opF at h
  cases e : place w with
  | none =>
    rw [e] at h
    cases h
  | some i => exact List.mem_of_getElem? (place_mem e)
theorem formI_le (i : Nat) : formI i ≤ 6 := by unfold formI; (repeat' split) <;> decide
theorem opF_le {w : Str} {f : Nat} (h : opF w = some f) : f ≤ 6 := by
  unfold opF at h
  cases e : place w with
  | none =>
    rw [e] at h
    cases h
  | some i =>
    rw [e] at h
    cases h
    exact formI_le i

/-! ### what a right instruction's numbers are -/
/-- the numbers of an instruction of the form f -/
structure Okx (f : Nat) (xs : List Int) : Prop where
  len : xs.length = regsF f + bitF f
  reg : ∀ i ∈ xs.take (regsF f), 0 ≤ i ∧ i ≤ 7
  num : ∀ b, numF f = some b → ∀ v, xs.getLast? = some v → b.1 ≤ v ∧ v ≤ b.2
theorem bitF_le (f : Nat) : bitF f ≤ 1 := by unfold bitF; split <;> decide
theorem regsF_le (f : Nat) : regsF f ≤ 3 := by unfold regsF; split <;> decide
theorem numF_in {f : Nat} {b : Int × Int} (h : numF f = some b) : -128 ≤ b.1 ∧ b.2 ≤ 255 := by
  unfold numF at h
  split at h <;> first | (injection h with h; subst h; decide) | cases h
theorem Okx.last {f : Nat} {xs : List Int} (h : Okx f xs) {v : Int} (hv : v ∈ xs.drop (regsF f)) : ∃ b, numF f = some b ∧ b.1 ≤ v ∧ v ≤ b.2 ∧ xs.drop (regsF f) = [v] ∧ xs.getLast? = some v := by
  have hl := h.len
  have hd : (xs.drop (regsF f)).length = bitF f := by rw [List.length_drop]; omega
  cases hn : numF f with
  | none =>
    have : bitF f = 0 := by unfold bitF; rw [hn]; rfl
    rw [this] at hd
    rw [List.eq_nil_of_length_eq_zero hd] at hv
    cases hv
  | some b =>
    have : bitF f = 1 := by unfold bitF; rw [hn]; rfl
    rw [this] at hd
    obtain ⟨x, e⟩ := List.length_eq_one_iff.mp hd
    rw [e] at hv
    have ev := List.mem_singleton.mp hv
    subst ev
    have el : xs.getLast? = some v := by
      have z : xs = xs.take (regsF f) ++ [v] := by rw [← e, List.take_append_drop]
      rw [z]
      simp
    have k := h.num b hn v el
    exact ⟨b, rfl, k.1, k.2, e, el⟩
theorem Okx.small {f : Nat} {xs : List Int} (h : Okx f xs) {v : Int} (hv : v ∈ xs) : -128 ≤ v ∧ v ≤ 255 := by
  rw [← List.take_append_drop (regsF f) xs] at hv
  rcases List.mem_append.mp hv with q | q
  · have := h.reg v q
    omega
  · obtain ⟨b, hb, h1, h2, _⟩ := h.last q
    have := numF_in hb
    omega
theorem Okx.okV {f : Nat} {xs : List Int} (h : Okx f xs) : okV f (xs.map some) = true := by
  unfold K18.okV
  rw [List.length_map, decide_eq_true h.len, ← List.map_take]
  have h1 : ((xs.take (regsF f)).map some).all regOk = true := by
    rw [List.all_eq_true]
    intro o ho
    obtain ⟨i, hi, rfl⟩ := List.mem_map.mp ho
    exact decide_eq_true (h.reg i hi)
  rw [h1]
  cases hn : numF f with
  | none => rfl
  | some b =>
    have b1 : bitF f = 1 := by unfold bitF; rw [hn]; rfl
    have hl := h.len
    have hd : (xs.drop (regsF f)).length = 1 := by rw [List.length_drop]; omega
    obtain ⟨x, e⟩ := List.length_eq_one_iff.mp hd
    obtain ⟨b', hb', k1, k2, _, el⟩ := h.last (v := x) (by rw [e]; exact List.mem_singleton.mpr rfl)
    rw [hn] at hb'
    cases hb'
    show (true && true && (match (xs.map some).getLast? with | some o => (inR b.1 b.2 o).isSome | none => false)) = true
    rw [List.getLast?_map, el]
    show (true && true && (inR b.1 b.2 (some x)).isSome) = true
    unfold inR
    dsimp only
    rw [if_pos ⟨k1, k2⟩]
    rfl

/-! ### the text of an instruction, read back -/
theorem parts_len {f : Nat} {xs : List Int} : (parts f xs).length = xs.length := by
  unfold parts
  rw [List.length_append, List.length_map, List.length_map, List.length_take, List.length_drop]
  omega
theorem parts_take {f : Nat} {xs : List Int} (h : regsF f ≤ xs.length) : (parts f xs).take (regsF f) = (xs.take (regsF f)).map regT := by
  unfold parts
  rw [List.take_append_of_le_length (by rw [List.length_map, List.length_take]; omega), List.take_of_length_le (by rw [List.length_map, List.length_take]; omega)]
theorem parts_drop {f : Nat} {xs : List Int} (h : regsF f ≤ xs.length) : (parts f xs).drop (regsF f) = (xs.drop (regsF f)).map numT := by
  unfold parts
  have e : ((xs.take (regsF f)).map regT).length = regsF f := by rw [List.length_map, List.length_take]; omega
  rw [List.drop_append_of_le_length (by omega), List.drop_of_length_le (by omega), List.nil_append]
theorem map_back {α : Type} {g : α → Option Int} {p : Int → α} : ∀ {l : List Int}, (∀ v ∈ l, g (p v) = some v) → (l.map p).map g = l.map some
  | [], _ => rfl
  | v :: r, h => by
    rw [List.map_cons, List.map_cons, List.map_cons, h v (List.mem_cons_self ..), map_back fun w hw => h w (List.mem_cons_of_mem _ hw)]
theorem heard_parts {f : Nat} {xs : List Int} (h : Okx f xs) : heard ((parts f xs).map tl) f = some (xs.map some) := by
  have hl : regsF f ≤ xs.length := by have := h.len; omega
  unfold heard
  rw [← List.map_take, ← List.map_drop, parts_take hl, parts_drop hl]
  have e1 : (((xs.take (regsF f)).map regT).map tl).map regL = (xs.take (regsF f)).map some := by
    rw [List.map_map (f := regT) (g := tl)]
    exact map_back (g := regL) (p := tl ∘ regT) fun v hv => by
      show regL (tl (regT v)) = _
      rw [tl_regT]
      exact reg_back (h.reg v hv)
  have e2 : (((xs.drop (regsF f)).map numT).map tl).map intL = (xs.drop (regsF f)).map some := by
    rw [List.map_map (f := numT) (g := tl)]
    exact map_back (g := intL) (p := tl ∘ numT) fun v hv => (int_back (h.small (List.mem_of_mem_drop hv))).1
  dsimp only
  rw [e1, e2, ← List.map_append, List.take_append_drop, if_pos h.okV]
theorem parts_free {f : Nat} {xs : List Int} : ∀ p ∈ parts f xs, 32 ∉ tl p := fun p hp => by
  unfold parts at hp
  rcases List.mem_append.mp hp with q | q
  · obtain ⟨v, _, rfl⟩ := List.mem_map.mp q
    exact reg_free v
  · obtain ⟨v, _, rfl⟩ := List.mem_map.mp q
    exact num_free v
theorem tl_blank : tl (" " : Str) = [32] := by decide +kernel
theorem split_inst {w : Str} {f : Nat} {xs : List Int} (hw : w ∈ names) : Txt.split (instT w f xs) " " = w :: parts f xs := by
  unfold instT
  refine split_join (s := 32) (S := []) tl_blank (by decide +kernel) (by simp) fun p hp => ?_
  rcases List.mem_cons.mp hp with e | hp
  · rw [e]
    exact (names_free w hw).1
  · exact parts_free p hp
/-! ### sizes -/
theorem part_len {f : Nat} {xs : List Int} (h : Okx f xs) : ∀ p ∈ parts f xs, p.length ≤ 5 := fun p hp => by
  unfold parts at hp
  rcases List.mem_append.mp hp with q | q
  · obtain ⟨v, hv, rfl⟩ := List.mem_map.mp q
    have k := (int_back (h.small (List.mem_of_mem_take hv))).2
    rw [len_tl, tl_regT, List.length_cons]
    omega
  · obtain ⟨v, hv, rfl⟩ := List.mem_map.mp q
    have k := (int_back (h.small (List.mem_of_mem_drop hv))).2
    rw [len_tl, tl_numT]
    omega
theorem joinL_len (S : List Nat) (b : Nat) : ∀ l : List (List Nat), (∀ p ∈ l, p.length ≤ b) → (joinL S l).length ≤ l.length * (b + S.length)
  | [], _ => Nat.zero_le _
  | [p], h => by
    have := h p (List.mem_singleton.mpr rfl)
    show p.length ≤ 1 * (b + S.length)
    omega
  | p :: q :: r, h => by
    have h1 := h p (List.mem_cons_self ..)
    have h2 := joinL_len S b (q :: r) fun z hz => h z (List.mem_cons_of_mem _ hz)
    show (p ++ (S ++ joinL S (q :: r))).length ≤ (q :: r).length.succ * (b + S.length)
    rw [List.length_append, List.length_append, Nat.succ_mul]
    omega
theorem xs_len {f : Nat} {xs : List Int} (h : Okx f xs) : xs.length ≤ 4 := by
  have := h.len
  have := regsF_le f
  have := bitF_le f
  omega
theorem instT_len {w : Str} {f : Nat} {xs : List Int} (hw : w ∈ names) (h : Okx f xs) : (instT w f xs).length ≤ 30 := by
  unfold instT
  rw [len_tl, join_eq, tl_join]
  have k := joinL_len (tl (" " : Str)) 5 ((w :: parts f xs).map tl) fun p hp => by
    obtain ⟨z, hz, rfl⟩ := List.mem_map.mp hp
    rw [← len_tl]
    rcases List.mem_cons.mp hz with e | hz
    · rw [e]
      have := (names_free w hw).2.1
      omega
    · exact part_len h z hz
  rw [List.length_map, List.length_cons, parts_len, tl_blank] at k
  have := xs_len h
  have e : (xs.length + 1) * (5 + [32].length) ≤ 5 * 6 := Nat.mul_le_mul (by omega) (by decide)
  rw [tl_blank]
  omega
theorem instT_pos {w : Str} {f : Nat} {xs : List Int} (hw : w ∈ names) : 1 ≤ (instT w f xs).length := by
  unfold instT
  rw [len_tl, join_eq, tl_join]
  have k := (names_free w hw).2.2
  rw [len_tl] at k
  cases e : parts f xs with
  | nil =>
    show 1 ≤ (tl w).length
    omega
  | cons p r =>
    show 1 ≤ (tl w ++ ((tl (" " : Str)) ++ joinL (tl (" " : Str)) (tl p :: r.map tl))).length
    rw [List.length_append]
    omega
/-! ### the words of any text -/
theorem spl_ne (S : List Nat) : ∀ (k : Nat) (acc l : List Nat), spl S k acc l ≠ []
  | k, acc, [] => by rw [spl_nil]; simp
  | 0, acc, c :: r => by
    cases h : pre S (c :: r) with
    | true => rw [spl_hit h]; simp
    | false => rw [spl_miss h]; exact spl_ne S 0 _ r
  | k + 1, acc, c :: r => spl_ne S k acc r
theorem spl_count (S : List Nat) : ∀ (k : Nat) (acc l : List Nat), (spl S k acc l).length ≤ l.length + 1
  | k, acc, [] => by rw [spl_nil]; simp
  | 0, acc, c :: r => by
    cases h : pre S (c :: r) with
    | true =>
      rw [spl_hit h, List.length_cons, List.length_cons]
      have := spl_count S (S.length - 1) [] r
      omega
    | false =>
      rw [spl_miss h, List.length_cons]
      have := spl_count S 0 (acc ++ [c]) r
      omega
  | k + 1, acc, c :: r => by
    have := spl_count S k acc r
    show (spl S k acc r).length ≤ _
    rw [List.length_cons]
    omega
theorem spl_part_len (S : List Nat) : ∀ (k : Nat) (acc l : List Nat), ∀ p ∈ spl S k acc l, p.length ≤ acc.length + l.length
  | k, acc, [] => fun p hp => by
    rw [spl_nil] at hp
    rw [List.mem_singleton.mp hp]
    omega
  | 0, acc, c :: r => fun p hp => by
    rw [List.length_cons]
    cases h : pre S (c :: r) with
    | true =>
      rw [spl_hit h] at hp
      rcases List.mem_cons.mp hp with e | hp
      · rw [e]; omega
      · have := spl_part_len S (S.length - 1) [] r p hp
        rw [List.length_nil] at this
        omega
    | false =>
      rw [spl_miss h] at hp
      have := spl_part_len S 0 (acc ++ [c]) r p hp
      rw [List.length_append, List.length_singleton] at this
      omega
  | k + 1, acc, c :: r => fun p hp => by
    have := spl_part_len S k acc r p hp
    rw [List.length_cons]
    omega
theorem words_spl (t : Str) : (Txt.split t " ").map tl = spl [32] 0 [] (tl t) := by
  have e := split_spl t " " (by rw [tl_blank]; simp) (kind_ok (by decide +kernel))
  rw [tl_blank] at e
  exact e
theorem words_ne (t : Str) : Txt.split t " " ≠ [] := fun e => by
  have k := words_spl t
  rw [e] at k
  exact spl_ne _ _ _ _ k.symm
theorem words_count (t : Str) : (Txt.split t " ").length ≤ t.length + 1 := by
  have k := spl_count [32] 0 [] (tl t)
  rw [← words_spl, List.length_map, ← len_tl] at k
  exact k
theorem word_len {t p : Str} (h : p ∈ Txt.split t " ") : p.length ≤ t.length := by
  have k := spl_part_len [32] 0 [] (tl t) (tl p) (by rw [← words_spl]; exact List.mem_map.mpr ⟨p, h, rfl⟩)
  rw [List.length_nil, ← len_tl, ← len_tl] at k
  omega
/-- what a text's instruction is: its name and its numbers -/
def instOf (t : Str) : Option (Str × List (Option Int)) := match Txt.split t " " with
  | [] => none
  | w :: ws => match opF w with
    | none => none
    | some f => (heard (ws.map tl) f).map fun xs => (w, xs)
theorem instOf_text {w : Str} {f : Nat} {xs : List Int} (hw : opF w = some f) (h : Okx f xs) : instOf (instT w f xs) = some (w, xs.map some) := by
  unfold instOf
  rw [split_inst (opF_mem hw)]
  dsimp only
  rw [hw]
  dsimp only
  rw [heard_parts h]
  rfl
end K18

/-! Rules of my own beside the layer's. -/
namespace K18
open PySem PySem.Spec PyProof.Rows L2

/-! ### repr of None and of a tuple (text, ints ..), where no repr is under way -/
def rparts (x : Str) (ns : List Int) : List Str := reprText x :: ns.map fun n => Str.ofString (toString n)
def rtext (x : Str) (ns : List Int) : Str := tupleText (rparts x ns)
/-- r is the repr of x -/
def RepX (K : PySem.W.Frag) (H : Hp) (x : V) (r : Str) : Prop :=
  (x = .non ∧ r = "None") ∨ ∃ (a : Addr) (y : Str) (ns : List Int), x = .ref a ∧ SqT K H a (.str y :: ns.map V.int) ∧ r = rtext y ns ∧ (rtext y ns).length ≤ sizeLine ∧ (reprText y).length ≤ sizeLine ∧ ∀ n ∈ ns, n.natAbs.log2 < 1920
theorem repr_ints {prog : Program} {w : World} : ∀ {ns : List Int} {us : List Value}, Vals (ns.map V.int) us → (∀ n ∈ ns, n.natAbs.log2 < 1920) → ReprAll prog w us (ns.map fun n => Str.ofString (toString n))
  | [], _, .nil, _ => .nil
  | n :: ns, _, .cons r t, h => by
    obtain ⟨tk, rfl⟩ := r
    exact .cons (ReprIs.int tk (h n (List.mem_cons_self ..))) (repr_ints t fun m hm => h m (List.mem_cons_of_mem _ hm))
section
variable {X : Cx}
theorem call_reprX (hg : X.A.guards = some []) (hu : X.A.units + 64 < cLine) : CallR X (.builtin "repr") (fun xs H Q => ∃ (x : V) (r : Str), xs = [x] ∧ RepX X.K H x r ∧ Q (.str r) H) := by
  intro pins s σ H xs us Q I rs h
  obtain ⟨x, r, rfl, hx, q⟩ := h
  obtain ⟨u, rfl, rx⟩ := vals1 rs
  rcases hx with ⟨rfl, rfl⟩ | ⟨a, y, ns, rfl, ht, rfl, hz, hy, hn⟩
  · cases rx
    exact P.repr_of_none ⟨.str "None", H, I.tok _, ⟨_, rfl⟩, q⟩
  · cases rx
    obtain ⟨its, rv, ⟨o, ho, hc, n, hd⟩, _⟩ := I.tuple ht
    cases rv with
    | cons r1 r2 =>
      obtain ⟨tk, rfl⟩ := r1
      have hT := ReprAll.cons (prog := X.prog) (w := X.w) (ReprIs.str y tk hy) (repr_ints r2 hn)
      refine call_repr_slot (by omega) ⟨o, ho, hc⟩ F.slot_tuple_repr ?_
      refine call_tuple_repr ⟨o, ho, hc⟩ (g := []) hg (fun c hc => nomatch hc) ho hd hT (fun u tk => ?_) hz
      exact ⟨_, _, rfl, .str _, H, I.tok _, ⟨_, rfl⟩, q⟩
end

/-! ### a call by keywords alone -/
section
variable {X : Cx} {CX : CXT} {k : Nat} {f : Addr} {fd : FuncData} {ps ks : List Str} {sp : Sp} {E : XK} {x : Str} {p pos : Pos} {kws : List Keyword} {tk : TA} {g : List Value → List Value → List Value} {gV : List V → List V → List V}
theorem pe_callK0 (F : FnOk X.prog X.w X.K X.mg X.base CX k f fd ps sp) (hr : Room k X.A) (hg : Gl X x) (hm : X.mg x = some (.ref f)) (hk : PySem.W.keepIn X.K (.ref f) = true) (hb : KBinds X.K fd ps ks g gV) (hx : Passes CX X E) (hkw : PK X kws tk)
    (hall : (backToKw pos (keywordEach kws X.env)).all (fun z => z.1.isSome) = true := by rfl)
    (hks : (backToKw pos (keywordEach kws X.env)).filterMap (fun z => z.1) = ks := by rfl)
    (hdb : (x == ("__debug__" : Str)) = false := by decide)
    (hpl : ((backTo pos (starEach [] X.env)).any (fun z => z.1) || (backToKw pos (keywordEach kws X.env)).any (fun z => z.1.isNone)) = false := by rfl) :
    PE X (.Call (.Name x p) [] kws pos) (tCallK sp gV E tNil tk) := by
  constructor
  intro pins s σ H Q I h
  refine wpAny_Call_Name_kw (ld_glob I hg hm ?_ hdb)
  refine PySem.W.callWith_KW0 (h₀ := X.base) I.ok.mod.kin hk hall ?_ hpl
  refine thn (hkw.run pos pins s σ H _ I h) fun ws s2 ⟨zs, H2, I2, rz, q2⟩ => ⟨I2.kIn, ?_⟩
  rw [hks]
  exact run_fnk (us := []) (vs := []) F hr hb hx I2 .nil rz q2
/-- .. within a try's body: what is let out is wished for at the slots -/
def tCallKS (sp : Sp) (gV : List V → List V → List V) (E : L2.St → XK) (tk : TA) : TE := fun σ H Q => tk σ H fun zs H2 => sp (gV [] zs) H2 Q (E σ)
theorem pe_callKS {E : L2.St → XK} (F : FnOk X.prog X.w X.K X.mg X.base CX k f fd ps sp) (hr : Room k X.A) (hg : Gl X x) (hm : X.mg x = some (.ref f)) (hk : PySem.W.keepIn X.K (.ref f) = true) (hb : KBinds X.K fd ps ks g gV) (hx : ∀ σ, PassesAt CX X σ (E σ)) (hkw : PK X kws tk)
    (hall : (backToKw pos (keywordEach kws X.env)).all (fun z => z.1.isSome) = true := by rfl)
    (hks : (backToKw pos (keywordEach kws X.env)).filterMap (fun z => z.1) = ks := by rfl)
    (hdb : (x == ("__debug__" : Str)) = false := by decide)
    (hpl : ((backTo pos (starEach [] X.env)).any (fun z => z.1) || (backToKw pos (keywordEach kws X.env)).any (fun z => z.1.isNone)) = false := by rfl) :
    PE X (.Call (.Name x p) [] kws pos) (tCallKS sp gV E tk) := by
  constructor
  intro pins s σ H Q I h
  refine wpAny_Call_Name_kw (ld_glob I hg hm ?_ hdb)
  refine PySem.W.callWith_KW0 (h₀ := X.base) I.ok.mod.kin hk hall ?_ hpl
  refine thn (hkw.run pos pins s σ H _ I h) fun ws s2 ⟨zs, H2, I2, rz, q2⟩ => ⟨I2.kIn, ?_⟩
  rw [hks]
  have bound : (g [] ws).length = ps.length := ((hb.rel (vs := []) (us := []) .nil rz).length).symm.trans (F.len _ _ _ _ q2)
  refine wpAny_call (codeAny_mono (F.run X.A X.stack s2 H2 ⟨[], ks.zip ws⟩ (g [] ws) (gV [] zs) Q (E σ) hr I2.env0 (hb.to s2 [] ws I2.kIn bound) (hb.rel .nil rz) q2) fun r s' hq => ?_)
  match r, hq with
  | .ok (.ret u), hq => exact I2.after hq
  | .ok .next, hq => exact hq.elim
  | .ok .brk, hq => exact hq.elim
  | .ok .cont, hq => exact hq.elim
  | .error er, hq => exact hx σ pins H2 s2 er s' I2 hq
end
/-- the keywords' values where nothing stands ahead of them -/
def kwOnly {α : Type} (us ws : List α) : List α := match us with
  | [] => ws
  | _ :: _ => []
/-- one keyword, one parameter -/
theorem kbind1 {K : PySem.W.Frag} {y qual : Str} {st : Stmt} {f : Addr} {fd : FuncData} {n : Str} (F : Fun K y qual st f fd)
    (h : ∀ (kV doc pm : Value) (an : Option Addr) (cdv ct : Value) (u : Value), bindArgs (PySem.W.fnOf y qual (defArgs st) (defBody st) (defScope st) .none kV doc pm an cdv ct) ⟨[], [(n, u)]⟩ = pure [(n, u)]) :
    KBinds K fd [n] [n] kwOnly kwOnly := by
  obtain ⟨oc, od, kV, doc, pm, an, cdv, ct, osl, rfl, lk, hcd⟩ := F.ex
  refine ⟨fun s us ws _ hl => ?_, fun r1 r2 => ?_⟩
  · match us, ws, hl with
    | [], [u], _ => exact .of_eq (h kV doc pm an cdv ct u)
    | [], [], hl => cases hl
    | [], _ :: _ :: _, hl => cases hl
    | _ :: _, _, hl => cases hl
  · cases r1 with
    | nil => exact r2
    | cons _ _ => exact .nil

/-! ### the law's own def, entered where nothing is under way -/
section
variable {P : Program} {w : World} {K : PySem.W.Frag} {mg : Str → Option Value} {base : Heap}
theorem enter_at {y qual : Str} {st : Stmt} {f : Addr} {fd : FuncData} {N ps : List Str} {k : Nat} {A : Around} {outer : List Env} {s : Shared} {H : Hp} {args : Args} {us : List Value} {vs : List V} {Q : VK} (F : Fun K y qual st f fd) (S : FnScope N ps (defScope st))
    (hg : A.guards = some []) (hr : Room (k + 1) A) (e0 : Env0 P w K mg base A outer s H) (hb : BindsTo s fd args (ps.zip us)) (r : Vals vs us) (hl : vs.length = ps.length)
    (hbody : ∀ cdv : Value, Room k (A.deeper (envOfC qual (defScope st) s.heap.objs.size f cdv)) → (A.deeper (envOfC qual (defScope st) s.heap.objs.size f cdv)).guards = some [] →
      ∃ t, PSs (cxOf CX0 P w K mg base N qual (defScope st) f cdv A outer s H E0).nox (defBody st) t ∧ t { nx := fun _ H' => Q .non H', rt := Q } (start N vs) H) :
    codeAny (model P w) A (.call (.ref f) args) (CR CX0 outer P w H s Q E0) s := by
  obtain ⟨oc, od, kV, doc, pm, an, cdv, ct, osl, rfl, lk, hcd⟩ := F.ex
  have there : K.In s.heap := e0.mod.kin.keeps fun b o z => (e0.bs b o z).1
  have free : s.heap.NoLimit := e0.mod.nolimit.keeps fun b o z => (e0.bs b o z).1
  have kinds : ∀ y ∈ ps.zip us, (defScope st).names.lookup y.1 = some .local ∨ ((defScope st).names.lookup y.1 = some .cell ∧ ((cellsFrom (s.heap.objs.size + 1) (defScope st).names []).lookup y.1).isSome = true) := by
    rintro ⟨n, v⟩ hy
    have q := S.par n (List.of_mem_zip hy).1
    exact q.imp id fun q => ⟨q, PySem.W.cellsFrom_some _ _ _ (.inl q)⟩
  refine codeAny_call_function hr.depth (there _ _ lk) rfl S.co S.gen rfl (PySem.W.codeRec_of there hcd) (hb _ _ _ _ ?_)
  refine wpAny_newFunctionEnv_cells S.kind kinds fun env he s1 z => ?_
  subst he
  refine ⟨free.keeps z.toInCall.keep, codeAny_func ?_⟩
  obtain ⟨t, ht, hq⟩ := hbody cdv (hr.deeper _) hg
  have I := inv_start (CX := CX0) (E := E0) (P := P) (w := w) (K := K) (mg := mg) (base := base) (qual := qual) (f := f) (cd := cdv) S hr.hd e0 hl r z
  refine wpAny_mono (ht.nox.run [] s1 (start N vs) H _ I hq) (fun fl s' hs => ?_) (fun _ _ hs => hs)
  match fl, hs with
  | .ret u, hs =>
    obtain ⟨v, σ', H', J, rv, q⟩ := hs
    exact ⟨v, H', J.os, J.bare, J.base, J.hok, rv, q⟩
  | .next, hs =>
    obtain ⟨σ', H', J, q⟩ := hs
    exact ⟨.non, H', J.os, J.bare, J.base, J.hok, rfl, q⟩
  | .brk, hs =>
    obtain ⟨_, _, _, q⟩ := hs
    exact q.elim
  | .cont, hs =>
    obtain ⟨_, _, _, q⟩ := hs
    exact q.elim
end
end K18

/-! The text by places, what the top has left, the promises. -/
namespace L2
open PySem PySem.Spec PyProof.Rows
theorem Same.tup {K : PySem.W.Frag} {H H' : Hp} {a : Addr} {xs : List V} (e : Same H H') (h : SqT K H a xs) : SqT K H' a xs := by
  rcases h with (h | ⟨o, h⟩) | h
  · exact .inl (.inl (e _ _ h))
  · exact .inl (.inr ⟨o, e _ _ h⟩)
  · exact .inr h
end L2
namespace K18
open PySem PySem.Spec PyProof.Rows L2 TL

def topS (i : Nat) : Stmt := PySem.Challenge.pw_orderlycore_k18_whole_listing.main.body.getD i (.Pass ⟨0, 0, 0, 0⟩)
abbrev sInit : Stmt := inClass (topS 1) 0
abbrev sIsInt : Stmt := topS 5
abbrev sIsCnt : Stmt := topS 6
abbrev sIsIns : Stmt := topS 11
abbrev sWantI : Stmt := topS 12
abbrev sLText : Stmt := topS 16
abbrev sRegIn : Stmt := topS 17
abbrev sIntIn : Stmt := topS 18
abbrev sLInst : Stmt := topS 19
abbrev sTextOf : Stmt := topS 20
abbrev sInstOf : Stmt := topS 21
abbrev sPot : Stmt := topS 23
abbrev sDraw : Stmt := topS 24
abbrev sPick : Stmt := topS 25
abbrev sNames : Stmt := topS 26
abbrev sForm : Stmt := topS 27
abbrev sShape : Stmt := topS 28
abbrev sDrawn : Stmt := topS 29
abbrev sText : Stmt := topS 30
abbrev sNumber : Stmt := topS 31
abbrev sRead : Stmt := topS 32
abbrev sHeard : Stmt := topS 33
abbrev sBent : Stmt := topS 34
abbrev sLaw : Stmt := topS 35

/-! ### data in the heap -/
def oV : Option Int → V
  | some i => .int i
  | none => .non
def insV (y : Str) (xs : List (Option Int)) : List V := .str y :: xs.map oV
theorem insV_some (y : Str) (xs : List Int) : insV y (xs.map some) = .str y :: xs.map V.int := by
  unfold insV
  rw [List.map_map]
  rfl
def formName (f : Nat) : Str := match f with
  | 0 => "three" | 1 => "near" | 2 => "byte" | 3 => "far" | 4 => "call" | 5 => "control" | _ => "bare"
/-- the program's row of a form -/
def progRow (f : Nat) : List V := match f with
  | 0 => [.int 3, .int 0, .int 0, .int 0] | 1 => [.int 2, .int 5, .int (-16), .int 15] | 2 => [.int 1, .int 8, .int 0, .int 255] | 3 => [.int 1, .int 8, .int (-128), .int 127]
  | 4 => [.int 0, .int 8, .int 0, .int 255] | 5 => [.int 1, .int 8, .int 0, .int 7] | _ => [.int 0, .int 0, .int 0, .int 0]
/-- the law's row of a form -/
def lawRow (f : Nat) : List V := match f with
  | 0 => [.int 3, .non, .non] | 1 => [.int 2, .int (-16), .int 15] | 2 => [.int 1, .int 0, .int 255] | 3 => [.int 1, .int (-128), .int 127]
  | 4 => [.int 0, .int 0, .int 255] | 5 => [.int 1, .int 0, .int 7] | _ => [.int 0, .non, .non]
/-- the two numbers that a draw goes by -/
def Pot (H : Hp) (p : Addr) : Prop := ∃ a b : Int, 0 ≤ a ∧ 0 ≤ b ∧ b < 2147483648 ∧ H p = some (.lst [.int a, .int b])
/-- all is kept but at p -/
def Kept (p : Addr) (H H' : Hp) : Prop := ∀ b o, b ≠ p → H b = some o → H' b = some o
theorem Kept.refl (p : Addr) (H : Hp) : Kept p H H := fun _ _ _ h => h
theorem Kept.trans {p : Addr} {H H1 H2 : Hp} (a : Kept p H H1) (b : Kept p H1 H2) : Kept p H H2 := fun c o n h => b c o n (a c o n h)
theorem Kept.of {p : Addr} {H H1 : Hp} (a : Same H H1) : Kept p H H1 := fun c o _ h => a c o h
theorem Kept.same {p : Addr} {H H1 H2 : Hp} (a : Kept p H H1) (b : Same H1 H2) : Kept p H H2 := a.trans (.of b)
theorem Pot.same {p : Addr} {H H1 : Hp} (a : Pot H p) (b : Same H H1) : Pot H1 p := by
  obtain ⟨x, y, h1, h2, h3, h4⟩ := a
  exact ⟨x, y, h1, h2, h3, b _ _ h4⟩
theorem same_new {H : Hp} {p : Addr} {o : HO} (h : H p = none) : Same H (upd H p o) := fun b u e => by
  rw [upd_ne (ne_of_none e h)]
  exact e
theorem same_upd {H H1 : Hp} {p : Addr} {o : HO} (s : Same H H1) (h : H p = none) : Same H (upd H1 p o) := fun b u e => by
  rw [upd_ne (ne_of_none e h)]
  exact s b u e
theorem Pot.ne_tup {p a : Addr} {H : Hp} (h : Pot H p) {xs : List V} (e : H a = some (.tup xs)) : a ≠ p := by
  obtain ⟨x, y, _, _, _, h4⟩ := h
  exact ne_of e h4 (by intro z; cases z)
theorem Kept.tup {K : PySem.W.Frag} {p : Addr} {H H' : Hp} {a : Addr} {xs : List V} (k : Kept p H H') (n : Pot H p) (h : SqT K H a xs) : SqT K H' a xs := by
  rcases h with (h | ⟨o, h⟩) | h
  · exact .inl (.inl (k _ _ (n.ne_tup h) h))
  · refine .inl (.inr ⟨o, k _ _ ?_ h⟩)
    obtain ⟨x, y, _, _, _, h4⟩ := n
    exact ne_of h h4 (by intro z; cases z)
  · exact .inr h

/-! ### what the top has left -/
/-- a def of the module -/
def At (K : PySem.W.Frag) (mg : Str → Option Value) (x : Str) (st : Stmt) : Prop := ∃ (f : Addr) (fd : FuncData), mg x = some (.ref f) ∧ Fun K x x st f fd
/-- the module's tables, constants, and the built-ins that stay -/
structure Txt (K : PySem.W.Frag) (w : World) (mg : Str → Option Value) : Prop where
  forms : ∃ d es n, mg "FORMS" = some (.ref d) ∧ KDict K w d es n ∧ ∀ z : Str, (opF z = none ∧ PySem.W.nsIn K d z = some none) ∨ ∃ f u, opF z = some f ∧ PySem.W.nsIn K d z = some (some u) ∧ RelV (.str (formName f)) u
  shapes : ∃ d es n, mg "SHAPES" = some (.ref d) ∧ KDict K w d es n ∧ ∀ f : Nat, f ≤ 6 → ∃ p, PySem.W.nsIn K d (formName f) = some (some (.ref p)) ∧ ∀ H : Hp, SqT K H p (progRow f)
  most : ∃ t, mg "MOST_REGISTER" = some (.int 7 t)
  figs : ∃ t, mg "FIGURES" = some (.str "0123456789" t)
  mostF : ∃ t, mg "MOST_FIGURES" = some (.int 3 t)
  len : mg "len" = none
  isi : mg "isinstance" = none
  int : mg "int" = none
  bool : mg "bool" = none
  str : mg "str" = none
  tuple : mg "tuple" = none
  all : mg "all" = none
  range : mg "range" = none
  divmod : mg "divmod" = none
  abs : mg "abs" = none
  max : mg "max" = none
  repr : mg "repr" = none

/-- a def with its promise, as callers use it -/
def Cal (P : Program) (w : World) (K : PySem.W.Frag) (mg : Str → Option Value) (base : Heap) (CX : CXT) (k : Nat) (x : Str) (ps : List Str) (sp : Sp) : Prop :=
  ∃ (f : Addr) (fd : FuncData), mg x = some (.ref f) ∧ PySem.W.keepIn K (.ref f) = true ∧ Binds K fd ps [] ∧ FnOk P w K mg base CX k f fd ps sp

/-! ### the promises -/
def spIsInt : Sp := fun vs H Q _ => ∃ o : Option Int, vs = [oV o] ∧ Q (.bl o.isSome) H
def cnt : Option Int → Bool
  | some i => decide (0 ≤ i)
  | none => false
def spIsCnt : Sp := fun vs H Q _ => ∃ o : Option Int, vs = [oV o] ∧ Q (.bl (cnt o)) H
def spIsIns (K : PySem.W.Frag) : Sp := fun vs H Q _ => ∃ (a : Addr) (y : Str) (xs : List (Option Int)) (f : Nat), vs = [.ref a] ∧ SqT K H a (insV y xs) ∧ opF y = some f ∧ xs.length ≤ 10000 ∧ ∀ H', Same H H' → Q (.bl (okV f xs)) H'
def spWantI (K : PySem.W.Frag) : Sp := fun vs H Q _ => ∃ (a : Addr) (y : Str) (xs : List (Option Int)) (f : Nat), vs = [.ref a] ∧ SqT K H a (insV y xs) ∧ opF y = some f ∧ xs.length ≤ 10000 ∧ okV f xs = true ∧ ∀ H', Same H H' → Q (.ref a) H'
def spTextI (K : PySem.W.Frag) : Sp := fun vs H Q _ => ∃ (a : Addr) (y : Str) (xs : List Int) (f : Nat), vs = [.ref a] ∧ SqT K H a (.str y :: xs.map V.int) ∧ opF y = some f ∧ Okx f xs ∧ ∀ H', Same H H' → Q (.str (instT y f xs)) H'
def spRegIn : Sp := fun vs H Q _ => ∃ z : Str, vs = [.str z] ∧ z.length ≤ 10000 ∧ Q (oV (regL (tl z))) H
def spIntIn : Sp := fun vs H Q _ => ∃ z : Str, vs = [.str z] ∧ z.length ≤ 10000 ∧ ∀ H', Same H H' → Q (oV (intL (tl z))) H'
def spReader : Sp := fun vs H Q _ => ∃ t : Str, vs = [.str t] ∧ t.length ≤ 1000 ∧ (instOf t = none → ∀ H', Same H H' → Q .non H') ∧
  ∀ y xs, instOf t = some (y, xs) → ∀ H' p, Same H H' → H' p = some (.tup (insV y xs)) → Q (.ref p) H'
def spInstOf (C : Addr) : Sp := fun vs H Q E => ∃ t : Str, vs = [.str t] ∧ t.length ≤ 1000 ∧ (instOf t = none → ∀ d H', Same H H' → E (.ref C) (some d) H') ∧
  ∀ y xs, instOf t = some (y, xs) → ∀ H' p, Same H H' → H' p = some (.tup (insV y xs)) → Q (.ref p) H'
def spPot (K : PySem.W.Frag) : Sp := fun vs H Q _ => ∃ (a : Addr) (ns : List Int), vs = [.ref a, .int 0] ∧ SqL K H a (ns.map V.int) ∧ ns.length ≤ 63 ∧ ∀ H' p, Same H H' → Pot H' p → Q (.ref p) H'
def spDraw : Sp := fun vs H Q _ => ∃ (p : Addr) (n : Int), vs = [.ref p, .int n] ∧ Pot H p ∧ 1 ≤ n ∧ n < 100000 ∧ ∀ H' d, Kept p H H' → Pot H' p → 0 ≤ d → d < n → Q (.int d) H'
def spPick : Sp := fun vs H Q _ => ∃ (p l : Addr) (xs : List V), vs = [.ref p, .ref l] ∧ Pot H p ∧ H l = some (.lst xs) ∧ l ≠ p ∧ 1 ≤ xs.length ∧ xs.length ≤ 100 ∧ ∀ H' v, Kept p H H' → Pot H' p → v ∈ xs → Q v H'
def spNames : Sp := fun vs H Q _ => vs = [] ∧ ∀ H' l, H l = none → Same H H' → H' l = some (.lst (names.map V.str)) → Q (.ref l) H'
def spForm : Sp := fun vs H Q _ => ∃ (y : Str) (f : Nat), vs = [.str y] ∧ opF y = some f ∧ ∀ H', Same H H' → Q (.str (formName f)) H'
def spShape : Sp := fun vs H Q _ => ∃ f : Nat, f ≤ 6 ∧ vs = [.str (formName f)] ∧ ∀ H' p, Same H H' → H' p = some (.tup (lawRow f)) → Q (.ref p) H'
def spDrawn : Sp := fun vs H Q _ => ∃ p : Addr, vs = [.ref p] ∧ Pot H p ∧ ∀ H' q y f xs, Kept p H H' → Pot H' p → opF y = some f → Okx f xs → H' q = some (.tup (.str y :: xs.map V.int)) → Q (.ref q) H'
def spNumber : Sp := fun vs H Q _ => ∃ z : Str, vs = [.str z] ∧ z.length ≤ 10000 ∧ ∀ H', Same H H' → Q (oV (numL2 (tl z))) H'
def spBent : Sp := fun vs H Q _ => ∃ (p : Addr) (t : Str), vs = [.ref p, .str t] ∧ Pot H p ∧ 1 ≤ t.length ∧ t.length ≤ 900 ∧ ∀ H' t', Kept p H H' → Pot H' p → t'.length ≤ t.length + 1 → Q (.str t') H'
def spLaw (K : PySem.W.Frag) : Sp := fun vs H Q _ => ∃ (a : Addr) (ns : List Int), vs = [.ref a] ∧ SqL K H a (ns.map V.int) ∧ ns.length ≤ 63 ∧ ∀ H', Q (.bl true) H'

section
variable {P : Program} {w : World} {K : PySem.W.Frag} {mg : Str → Option Value} {base : Heap}
/-- from a def and its promise: what callers use -/
theorem At.cal {CX : CXT} {k : Nat} {x : Str} {st : Stmt} {ps : List Str} {sp : Sp} (a : At K mg x st)
    (hb : ∀ (kV doc pm : Value) (an : Option Addr) (cdv ct : Value) (us : List Value), us.length = ps.length → bindArgs (PySem.W.fnOf x x (defArgs st) (defBody st) (defScope st) .none kV doc pm an cdv ct) ⟨us, []⟩ = pure (ps.zip us))
    (h : ∀ (f : Addr) (fd : FuncData), mg x = some (.ref f) → Fun K x x st f fd → FnOk P w K mg base CX k f fd ps sp) : Cal P w K mg base CX k x ps sp := by
  obtain ⟨f, fd, m, F⟩ := a
  exact ⟨f, fd, m, F.kp, F.binds hb, h f fd m F⟩

/-! ### is_integer -/
theorem scIsInt : FnScope ["value"] ["value"] (defScope sIsInt) := ⟨rfl, rfl, rfl, by decide +kernel, rfl, by decide +kernel, by decide +kernel⟩
theorem isi_o {H : Hp} : ∀ o : Option Int, ∃ t, TyX K H (oV o) (.type t) ∧ PySem.W.kitOne K (.type t) (.type "int") = some o.isSome ∧ PySem.W.kitOne K (.type t) (.type "bool") = some false
  | some i => ⟨"int", .base (.int i), kit_ty (r := true) (by decide +kernel), kit_ty (r := false) (by decide +kernel)⟩
  | none => ⟨"NoneType", .base .non, kit_ty (r := false) (by decide +kernel), kit_ty (r := false) (by decide +kernel)⟩
theorem ok_isInt (T : Txt K w mg) (a : At K mg "is_integer" sIsInt) : Cal P w K mg base CX0 1 "is_integer" ["value"] spIsInt := by
  refine a.cal (fun _ _ _ _ _ _ us hl => match us, hl with | [_], _ => rfl) fun f fd m F => ?_
  refine F.ok scIsInt (fun vs H Q E h => ?_) (fun cdv A outer s H vs Q E hr h => ?_)
  · obtain ⟨o, rfl, _⟩ := h
    rfl
  · obtain ⟨o, rfl, q⟩ := h
    refine ⟨_, pss_one (ps_ret (pe_and (pe_callB call_isi (by rfl) T.isi (by decide +kernel) (pa_cons (pv 0) (pa_cons (pe_bltn (v := .ty "int") (by rfl) T.int (by decide +kernel) rfl) pa_nil)))
      (pe_one (pe_not (pe_callB call_isi (by rfl) T.isi (by decide +kernel) (pa_cons (pv 0) (pa_cons (pe_bltn (v := .ty "bool") (by rfl) T.bool (by decide +kernel) rfl) pa_nil))))))), ?_⟩
    obtain ⟨t, h1, h2, h3⟩ := isi_o (K := K) (H := H) o
    refine ⟨_, rfl, _, _, _, _, _, rfl, .ty "int", h1, h2, _, rfl, ?_⟩
    cases o with
    | none => exact iteF q
    | some i => exact iteT ⟨_, rfl, _, _, _, _, _, rfl, .ty "bool", h1, h3, _, rfl, q⟩
/-! ### is_count -/
theorem scIsCnt : FnScope ["value"] ["value"] (defScope sIsCnt) := ⟨rfl, rfl, rfl, by decide +kernel, rfl, by decide +kernel, by decide +kernel⟩
theorem ok_isCnt (T : Txt K w mg) (a : At K mg "is_count" sIsCnt) (cI : Cal P w K mg base CX0 1 "is_integer" ["value"] spIsInt) : Cal P w K mg base CX0 2 "is_count" ["value"] spIsCnt := by
  refine a.cal (fun _ _ _ _ _ _ us hl => match us, hl with | [_], _ => rfl) fun f fd m F => ?_
  obtain ⟨fI, fdI, mI, kI, bI, GI⟩ := cI
  refine F.ok scIsCnt (fun vs H Q E h => ?_) (fun cdv A outer s H vs Q E hr h => ?_)
  · obtain ⟨o, rfl, _⟩ := h
    rfl
  · obtain ⟨o, rfl, q⟩ := h
    refine ⟨_, pss_one (ps_ret (pe_and (pe_call GI hr rfl mI kI bI .nil pass0 (pa_cons (pv 0) pa_nil)) (pe_one (pe_cmp (pc_ge (pv 0) pe_int) rfl)))), ?_⟩
    refine ⟨_, rfl, o, rfl, _, rfl, ?_⟩
    cases o with
    | none => exact iteF q
    | some i => exact iteT ⟨_, rfl, _, _, rfl, rfl, q⟩
end
end K18

/-! Comprehensions that map, comprehensions that choose; small facts of data. -/
namespace K18
open PySem PySem.Spec PyProof.Rows L2 TL

theorem take_snoc {α : Type} {l : List α} {j : Nat} {y : α} (h : l[j]? = some y) : l.take (j + 1) = l.take j ++ [y] := by
  rw [List.take_add_one, h]
  rfl
section
variable {J : It} {n : Nat} {G : Hp → Prop} {Y : Nat → Hp → V → Hp → Prop} {R : Nat → V → Prop} {D : Addr} {out : List V} {k : Nat} {te : TE} {tt : TT} {vs : List Nat} {σ : L2.St} {H1 : Hp} {Qd : Hp → Prop}
/-- [e for x in ..]: each item's value is told by out -/
theorem lc_map (wk : Walk J n G Y) (hY : ∀ i H x H', Y i H x H' → H' = H ∧ R i x) (hD : H1 D = none) (hG : ∀ H, Same H1 H → G H) (hl : out.length = n) (hz : n < sizeLine) (hw : ∀ x, wipe ((wipe σ vs).set k (some x)) vs = wipe σ vs)
    (turn : ∀ j x y H, R j x → out[j]? = some y → Same H1 H → ∀ Q : VK, (∀ H', Same H H' → Q y H') → te ((wipe σ vs).set k (some x)) H Q)
    (done : ∀ H, Same H1 H → H D = some (.lst out) → Qd H) :
    ∃ W : Nat → Nat → Hp → Prop, (∃ m, W 0 m (upd H1 D (.lst []))) ∧ ∀ i m H, W i m H →
      (J.stop i H ∧ Qd H) ∨ (J.go i H ∧ ∃ Nx : Hp → Prop, (∀ H', Nx H' → ∃ m', m' < m ∧ W (i + 1) m' H') ∧ ∀ x H', J.yld i H x H' → gName k x (wipe σ vs) H' fun σ2 H2 => wipe σ2 vs = wipe σ vs ∧ tYes σ2 H2 fun b H3 =>
        if b = true then te σ2 H3 fun y H4 => ∃ acc, H4 D = some (.lst acc) ∧ acc.length < sizeLine ∧ Nx (upd H4 D (.lst (acc ++ [y]))) else Nx H3) := by
  refine lc_it wk (fun j H => Same H1 H ∧ H D = some (.lst (out.take j))) ⟨same_new hD, upd_same⟩ (fun j H _ p => hG H p.1) (fun j x H H' hj p y => ⟨hw x, ?_⟩) (fun H p => ?_)
  · obtain ⟨s, e⟩ := p
    obtain ⟨rfl, r⟩ := hY _ _ _ _ y
    have hy : out[j]? = some (out[j]'(by omega)) := List.getElem?_eq_getElem (by omega)
    refine turn j x _ _ r hy s _ fun H' s' => ⟨_, s' _ _ e, ?_, same_upd (s.trans s') hD, ?_⟩
    · rw [List.length_take]
      omega
    · rw [upd_same, take_snoc hy]
  · obtain ⟨s, e⟩ := p
    rw [← hl, List.take_length] at e
    exact done H s e
/-- [x for x in .. if t]: the items are f of items, kept by p -/
theorem lc_keep {α : Type} {items : List α} {f : α → V} {p : α → Bool} (wk : Walk J items.length G Y) (hY : ∀ i H x H', Y i H x H' → H' = H ∧ ∃ c, items[i]? = some c ∧ x = f c) (hD : H1 D = none) (hG : ∀ H, Same H1 H → G H) (hz : items.length < sizeLine)
    (hw : ∀ x, wipe ((wipe σ vs).set k (some x)) vs = wipe σ vs) (hk : k < (wipe σ vs).length)
    (test : ∀ c H, c ∈ items → Same H1 H → ∀ Q : Bool → Hp → Prop, (∀ H', Same H H' → Q (p c) H') → tt ((wipe σ vs).set k (some (f c))) H Q)
    (done : ∀ H, Same H1 H → H D = some (.lst ((items.filter p).map f)) → Qd H) :
    ∃ W : Nat → Nat → Hp → Prop, (∃ m, W 0 m (upd H1 D (.lst []))) ∧ ∀ i m H, W i m H →
      (J.stop i H ∧ Qd H) ∨ (J.go i H ∧ ∃ Nx : Hp → Prop, (∀ H', Nx H' → ∃ m', m' < m ∧ W (i + 1) m' H') ∧ ∀ x H', J.yld i H x H' → gName k x (wipe σ vs) H' fun σ2 H2 => wipe σ2 vs = wipe σ vs ∧ tt σ2 H2 fun b H3 =>
        if b = true then tVar k σ2 H3 fun y H4 => ∃ acc, H4 D = some (.lst acc) ∧ acc.length < sizeLine ∧ Nx (upd H4 D (.lst (acc ++ [y]))) else Nx H3) := by
  refine lc_it wk (fun j H => Same H1 H ∧ H D = some (.lst (((items.take j).filter p).map f))) ⟨same_new hD, upd_same⟩ (fun j H _ q => hG H q.1) (fun j x H H' hj q y => ⟨hw x, ?_⟩) (fun H q => ?_)
  · obtain ⟨s, e⟩ := q
    obtain ⟨rfl, c, hc, rfl⟩ := hY _ _ _ _ y
    refine test c _ (List.mem_of_getElem? hc) s _ fun H' s' => ?_
    have hs := take_snoc hc
    cases hp : p c with
    | true =>
      refine iteT ⟨f c, by rw [List.getElem?_set_self hk], _, s' _ _ e, ?_, same_upd (s.trans s') hD, ?_⟩
      · rw [List.length_map]
        refine Nat.lt_of_le_of_lt (List.length_filter_le _ _) ?_
        rw [List.length_take]
        omega
      · rw [upd_same, hs, List.filter_append, List.map_append, List.filter_cons, hp]
        rfl
    | false =>
      refine iteF ⟨s.trans s', ?_⟩
      rw [hs, List.filter_append, List.filter_cons, hp]
      rw [if_neg Bool.false_ne_true, List.filter_nil, List.append_nil]
      exact s' _ _ e
  · obtain ⟨s, e⟩ := q
    rw [List.take_length] at e
    exact done H s e
end
theorem yat {xs : List V} : ∀ i H x H', YAt xs i H x H' → H' = H ∧ xs[i]? = some x := fun _ _ _ _ h => h

theorem itF {c : Bool} {A B : Prop} (h : c = false) (q : B) : if c = true then A else B := by
  rw [h, if_neg Bool.false_ne_true]
  exact q
theorem itT {c : Bool} {A B : Prop} (h : c = true) (q : A) : if c = true then A else B := by
  rw [if_pos h]
  exact q

/-! ### data -/
theorem prog_row (f : Nat) : ∃ wd lo hi : Int, progRow f = [.int (regsF f : Int), .int wd, .int lo, .int hi] ∧ (numF f = none → wd = 0) ∧ (∀ b, numF f = some b → 0 < wd ∧ b = (lo, hi)) := by
  match f with
  | 0 => exact ⟨0, 0, 0, rfl, fun _ => rfl, fun b h => by cases h⟩
  | 1 => exact ⟨5, -16, 15, rfl, (fun h => by cases h), fun b h => by cases h; exact ⟨by decide, rfl⟩⟩
  | 2 => exact ⟨8, 0, 255, rfl, (fun h => by cases h), fun b h => by cases h; exact ⟨by decide, rfl⟩⟩
  | 3 => exact ⟨8, -128, 127, rfl, (fun h => by cases h), fun b h => by cases h; exact ⟨by decide, rfl⟩⟩
  | 4 => exact ⟨8, 0, 255, rfl, (fun h => by cases h), fun b h => by cases h; exact ⟨by decide, rfl⟩⟩
  | 5 => exact ⟨8, 0, 7, rfl, (fun h => by cases h), fun b h => by cases h; exact ⟨by decide, rfl⟩⟩
  | n + 6 => exact ⟨0, 0, 0, rfl, fun _ => rfl, fun b h => by cases h⟩
theorem prog_one (f : Nat) : (progRow f)[0]? = some (.int (regsF f : Int)) := by
  obtain ⟨wd, lo, hi, e, _⟩ := prog_row f
  rw [e]
  rfl
theorem law_row (f : Nat) : (numF f = none ∧ lawRow f = [.int (regsF f : Int), .non, .non]) ∨ ∃ lo hi : Int, numF f = some (lo, hi) ∧ lawRow f = [.int (regsF f : Int), .int lo, .int hi] := by
  match f with
  | 0 => exact .inl ⟨rfl, rfl⟩
  | 1 => exact .inr ⟨_, _, rfl, rfl⟩
  | 2 => exact .inr ⟨_, _, rfl, rfl⟩
  | 3 => exact .inr ⟨_, _, rfl, rfl⟩
  | 4 => exact .inr ⟨_, _, rfl, rfl⟩
  | 5 => exact .inr ⟨_, _, rfl, rfl⟩
  | n + 6 => exact .inl ⟨rfl, rfl⟩
theorem ty_tup {K : PySem.W.Frag} {H : Hp} {a : Addr} {xs : List V} (h : SqT K H a xs) : TyX K H (.ref a) (.type "tuple") := by
  rcases h with (h | ⟨o, h⟩) | ⟨o, its, n, h1, h2, _⟩
  · exact .base (.tup h)
  · exact .fTuple h
  · exact .kTuple h1 h2
theorem sIx_from {n : Nat} (i : Nat) : HT.sIx n 0 (some (i : Int)) = min i n := by
  simp only [HT.sIx]
  rw [if_neg (by omega), Int.toNat_natCast]
theorem sIx_to {n d : Nat} (i : Nat) : HT.sIx n d (some (i : Int)) = min i n := by
  simp only [HT.sIx]
  rw [if_neg (by omega), Int.toNat_natCast]
/-- t[1:1 + r] -/
theorem cut_mid (v : V) (xs : List V) (r : Nat) : cutV (v :: xs) (some 1) (some (1 + (r : Int))) = xs.take r := by
  unfold cutV
  have e : (1 + (r : Int)) = ((r + 1 : Nat) : Int) := by omega
  have e1 : (1 : Int) = ((1 : Nat) : Int) := rfl
  rw [e, e1, sIx_from, sIx_to, List.length_cons]
  have h1 : min 1 (xs.length + 1) = 1 := by omega
  rw [h1, List.drop_one, List.tail_cons]
  by_cases h : r ≤ xs.length
  · rw [show min (r + 1) (xs.length + 1) - 1 = r by omega]
  · rw [List.take_of_length_le (by omega), List.take_of_length_le (by omega)]
/-- t[1 + r:] -/
theorem cut_end (v : V) (xs : List V) (r : Nat) : cutV (v :: xs) (some (1 + (r : Int))) none = xs.drop r := by
  unfold cutV
  have e : (1 + (r : Int)) = ((r + 1 : Nat) : Int) := by omega
  rw [e, sIx_from, List.length_cons]
  show (List.drop (min (r + 1) (xs.length + 1)) (v :: xs)).take (xs.length + 1 - min (r + 1) (xs.length + 1)) = _
  by_cases h : r ≤ xs.length
  · rw [show min (r + 1) (xs.length + 1) = r + 1 by omega, List.drop_succ_cons, List.take_of_length_le (by rw [List.length_drop]; omega)]
  · rw [List.drop_of_length_le (l := xs) (by omega), show min (r + 1) (xs.length + 1) = xs.length + 1 by omega, Nat.sub_self, List.take_zero]
theorem not_whole {n : Nat} {b : Option Int} (i : Nat) (h : 1 ≤ i) (hn : 1 ≤ n) : ¬ (HT.sIx n 0 (some (i : Int)) = 0 ∧ HT.sIx n n b = n) := fun z => by
  rw [sIx_from] at z
  omega
theorem getLast_atI {α : Type} {xs : List α} {v : α} (h : xs.getLast? = some v) : atI xs (-1) = some v := by
  obtain ⟨ys, rfl⟩ := List.getLast?_eq_some_iff.mp h
  exact atI_last ys v
end K18

/-! More facts of data: slices and signs of texts, numbers read. -/
namespace K18
open PySem PySem.Spec PyProof.Rows L2 TL PySem.NumText
theorem not_whole1 {n : Nat} {b : Option Int} (r : Nat) (hn : 1 ≤ n) : ¬ (HT.sIx n 0 (some (1 + (r : Int))) = 0 ∧ HT.sIx n n b = n) := by
  have e : (1 + (r : Int)) = ((r + 1 : Nat) : Int) := by omega
  rw [e]
  exact not_whole (r + 1) (by omega) hn
theorem small_log {v : Int} (h : -128 ≤ v ∧ v ≤ 255) : v.natAbs.log2 < 1920 :=
  Nat.lt_trans (PySem.Flt.log2_lt_of (k := 8) (by decide) (show v.natAbs < 2 ^ 8 by omega)) (by decide)
theorem getElem_map_f {α : Type} {g : α → V} {xs : List α} {j : Nat} {x : V} (h : (xs.map g)[j]? = some x) : ∃ o, xs[j]? = some o ∧ x = g o := by
  rw [List.getElem?_map] at h
  cases e : xs[j]? with
  | none =>
    rw [e] at h
    cases h
  | some o =>
    rw [e] at h
    exact ⟨o, rfl, (Option.some.inj h).symm⟩
theorem map_at {α : Type} {g : α → V} {xs : List α} {j : Nat} {o : α} {y : V} (ho : xs[j]? = some o) (hy : (xs.map g)[j]? = some y) : y = g o := by
  rw [List.getElem?_map, ho] at hy
  exact (Option.some.inj hy).symm
/-! ### texts -/
theorem tl_cut (z : Str) (lo hi : Option Int) : tl (cutS z lo hi) = ((tl z).drop (HT.sIx (tl z).length 0 lo)).take (HT.sIx (tl z).length (tl z).length hi - HT.sIx (tl z).length 0 lo) := by
  rw [← len_tl]
  rfl
theorem cut_to (z : Str) (i : Nat) : tl (cutS z none (some (i : Int))) = (tl z).take i := by
  rw [tl_cut, sIx_to]
  show ((tl z).drop 0).take (min i (tl z).length - 0) = _
  rw [List.drop_zero, Nat.sub_zero]
  by_cases h : i ≤ (tl z).length
  · rw [Nat.min_eq_left h]
  · rw [Nat.min_eq_right (by omega), List.take_length, List.take_of_length_le (by omega)]
theorem cut_from (z : Str) (i : Nat) : tl (cutS z (some (i : Int)) none) = (tl z).drop i := by
  rw [tl_cut, sIx_from]
  show ((tl z).drop (min i (tl z).length)).take ((tl z).length - min i (tl z).length) = _
  by_cases h : i ≤ (tl z).length
  · rw [Nat.min_eq_left h, List.take_of_length_le (by rw [List.length_drop]; omega)]
  · rw [Nat.min_eq_right (by omega), Nat.sub_self, List.take_zero, List.drop_of_length_le (by omega)]
theorem str_eq {x y : Str} : decide (V.str x = V.str y) = decide (tl x = tl y) := by
  by_cases h : tl x = tl y
  · rw [decide_eq_true h, ext_tl h]
    exact decide_eq_true rfl
  · rw [decide_eq_false h]
    refine decide_eq_false fun e => h ?_
    injection e with e
    rw [e]
theorem tl_figs : ("0123456789" : Str).cps.toList = [48, 49, 50, 51, 52, 53, 54, 55, 56, 57] := by decide +kernel
theorem mem_figs (c : Nat) : decide (c ∈ ("0123456789" : Str).cps.toList) = isDig c := by
  rw [tl_figs]
  unfold isDig
  by_cases h : 48 ≤ c ∧ c ≤ 57
  · rw [decide_eq_true h]
    refine decide_eq_true ?_
    simp
    omega
  · rw [decide_eq_false h]
    refine decide_eq_false fun z => h ?_
    simp at z
    omega
theorem tl_minus : tl ("-" : Str) = [45] := by decide +kernel
theorem tl_zero : tl ("0" : Str) = [48] := by decide +kernel
theorem tl_r : tl ("r" : Str) = [114] := by decide +kernel
theorem tl_one (c : Nat) : tl (⟨#[c]⟩ : Str) = [c] := rfl
/-- the number of a text that the program or the law lets through -/
theorem int_text {z : Str} (h1 : bodyL (tl z) ≠ []) (h2 : digs (bodyL (tl z)) = true) (h3 : z.length ≤ 640) : PySem.intText? z = some (valL (tl z)) := by
  have A := digs_all h2
  by_cases h : (tl z).take 1 = [45]
  · cases e : tl z with
    | nil =>
      rw [e] at h
      cases h
    | cons c r =>
      rw [e] at h
      have e2 : [c] = [45] := h
      injection e2 with e2
      subst e2
      rw [e] at h1 A
      rw [bodyL_neg] at h1 A
      rw [valL_neg]
      exact intText_neg (show z.cps.toList = 45 :: r from e) A h1 (Nat.le_trans h3 (by decide))
  · rw [bodyL_pos h] at h1 A
    rw [valL_pos h]
    exact intText_digits (show AllDigits z.cps.toList from A) h1 (Nat.le_trans h3 (by decide))
theorem body_len (l : List Nat) : l.length ≤ (bodyL l).length + 1 := by
  unfold bodyL
  split
  · rw [List.length_drop]
    omega
  · omega
theorem take_one {l : List Nat} {c : Nat} (h : l.take 1 = [c]) : l[0]? = some c := by
  cases l with
  | nil => cases h
  | cons d r =>
    have e : [d] = [c] := h
    injection e with e
    subst e
    rfl
end K18

/-! is_instruction_value, want_instruction. -/
namespace K18
open PySem PySem.Spec PyProof.Rows L2 TL
section
variable {P : Program} {w : World} {K : PySem.W.Frag} {mg : Str → Option Value} {base : Heap}

abbrev nIsIns : List Str := ["value", "registers", "wide", "least", "most", "one"]
theorem scIsIns : FnScope nIsIns ["value"] (defScope sIsIns) := ⟨rfl, rfl, rfl, by decide +kernel, rfl, by decide +kernel, by decide +kernel⟩
theorem regOk_v (o : Option Int) : regOk o = (match o with | some i => decide (0 ≤ i) && decide (i ≤ 7) | none => false) := by
  cases o with
  | none => rfl
  | some i =>
    show decide (0 ≤ i ∧ i ≤ 7) = _
    rw [Bool.decide_and]
theorem oV_map (xs : List (Option Int)) (r : Nat) : (xs.map oV).take r = (xs.take r).map oV := (List.map_take).symm
theorem getElem_map_oV {xs : List (Option Int)} {j : Nat} {x : V} (h : (xs.map oV)[j]? = some x) : ∃ o, xs[j]? = some o ∧ x = oV o := by
  rw [List.getElem?_map] at h
  cases e : xs[j]? with
  | none =>
    rw [e] at h
    cases h
  | some o =>
    rw [e] at h
    exact ⟨o, rfl, (Option.some.inj h).symm⟩
/-- the end of the test: what the last number tells -/
theorem okV_eq {f : Nat} {xs : List (Option Int)} (hl : xs.length = regsF f + bitF f) (hr : (xs.take (regsF f)).all regOk = true) :
    okV f xs = (match numF f with | none => true | some b => (match xs.getLast? with | some o => (inR b.1 b.2 o).isSome | none => false)) := by
  unfold okV
  rw [decide_eq_true hl, hr]
  rfl
theorem inR_isSome {lo hi : Int} : ∀ o : Option Int, (inR lo hi o).isSome = (match o with | some v => decide (lo ≤ v) && decide (v ≤ hi) | none => false)
  | none => rfl
  | some v => by
    unfold inR
    by_cases h1 : lo ≤ v <;> by_cases h2 : v ≤ hi <;> simp [h1, h2]
theorem bit_of (f : Nat) : ((numF f).isSome = true ∧ bitF f = 1) ∨ (numF f = none ∧ bitF f = 0) := by
  unfold bitF
  cases numF f with
  | none => exact .inr ⟨rfl, rfl⟩
  | some b => exact .inl ⟨rfl, rfl⟩
theorem ok_isIns (T : Txt K w mg) (a : At K mg "is_instruction_value" sIsIns) (cI : Cal P w K mg base CX0 1 "is_integer" ["value"] spIsInt) (cC : Cal P w K mg base CX0 2 "is_count" ["value"] spIsCnt) :
    Cal P w K mg base CX0 3 "is_instruction_value" ["value"] (spIsIns K) := by
  refine a.cal (fun _ _ _ _ _ _ us hl => match us, hl with | [_], _ => rfl) fun f fd m F => ?_
  obtain ⟨fI, fdI, mI, kI, bI, GI⟩ := cI
  obtain ⟨fC, fdC, mC, kC, bC, GC⟩ := cC
  obtain ⟨dF, esF, nF, mF, DF, hF⟩ := T.forms
  obtain ⟨dS, esS, nS, mS, DS, hS⟩ := T.shapes
  obtain ⟨tM, mM⟩ := T.most
  refine F.ok scIsIns (fun vs H Q E h => ?_) (fun cdv A outer s H vs Q E hr h => ?_)
  · obtain ⟨p, y, xs, g, rfl, _⟩ := h
    rfl
  · obtain ⟨p, y, xs, g, rfl, hT, hg, hz, q⟩ := h
    have hr1 : Room 1 _ := hr.mono (by decide)
    refine ⟨_, pss_cons (ps_if (PW.pt (pw_or (pt_not (pt_val (pe_callB call_isi (by rfl) T.isi (by decide +kernel) (pa_cons (pv 0) (pa_cons (pe_bltn (v := .ty "tuple") (by rfl) T.tuple (by decide +kernel) rfl) pa_nil)))))
        (pw_or (pt_cmpR op_eq (pe_callB call_len_seq (by rfl) T.len PySem.boot_len (pa_cons (pv 0) pa_nil)) pe_int (nomark _))
        (pw_or (pt_not (pt_val (pe_callB call_isi (by rfl) T.isi (by decide +kernel) (pa_cons (pe_ix ix_tup (pv 0) pe_int (fun _ _ => rfl)) (pa_cons (pe_bltn (v := .ty "str") (by rfl) T.str (by decide +kernel) rfl) pa_nil)))))
        (pw_or1 (pt_cmpR (op_notIn_kd DF) (pe_ix ix_tup (pv 0) pe_int (fun _ _ => rfl)) (pe_glob (v := .ref dF) (by rfl) mF rfl) (by rfl)))))))
        (pss_one (ps_ret pe_bl)) pss_nil)
      (pss_cons (ps_asg (pe_ix ix_kdict (pe_glob (v := .ref dS) (by rfl) mS rfl) (pe_ix ix_kdict (pe_glob (v := .ref dF) (by rfl) mF rfl) (pe_ix ix_tup (pv 0) pe_int (fun _ _ => rfl)) (fun _ _ => rfl)) (fun _ _ => rfl))
        (pg_tup rfl (pgs_cons (pg_name (i := 1) scIsIns.nd rfl (.inl rfl)) (pgs_cons (pg_name (i := 2) scIsIns.nd rfl (.inl rfl)) (pgs_cons (pg_name (i := 3) scIsIns.nd rfl (.inl rfl)) (pgs_cons (pg_name (i := 4) scIsIns.nd rfl (.inl rfl)) pgs_nil))))))
      (pss_cons (ps_if (pt_cmpR op_ne (pe_callB call_len_seq (by rfl) T.len PySem.boot_len (pa_cons (pv 0) pa_nil))
          (pe_op op_add (pe_op op_add pe_int (pv 1)) (pe_callTy call_int1 (by rfl) T.int (by decide +kernel) (pa_cons (pe_cmp (pc_gt (pv 2) pe_int) rfl) pa_nil))) (nomark _))
        (pss_one (ps_ret pe_bl)) pss_nil)
      (pss_cons (ps_if (pt_not (pt_val (pe_callB (cr_all rfl) (by rfl) T.all (by decide +kernel) (pa_cons
          (pe_lc (own := [("one", 5)]) (g := gName 5) (tt := tYes) rfl scIsIns.nd (pi_tup (pe_slice sl_tup (pv 0) (po_some pe_int) (po_some (pe_op op_add pe_int (pv 1)))))
            (blkOk_by (own := [("one", 5)]) (N := nIsIns) (sc := defScope sIsIns) (by decide +kernel)) (fun _ _ _ _ _ => pg_name (i := 5) scIsIns.nd rfl (Or.inl rfl)) (fun _ _ _ _ _ => pts_nil)
            (fun _ _ _ _ _ => pe_and (pe_call GC hr rfl mC kC bC .nil pass0 (pa_cons (pv 5) pa_nil)) (pe_one (pe_cmp (pc_le (pv 5) (pe_glob (v := .int 7) (by rfl) mM ⟨_, rfl⟩)) rfl)))) pa_nil))))
        (pss_one (ps_ret pe_bl)) pss_nil)
      (pss_one (ps_ret (pe_or (pe_cmp (pc_eqI (pv 2) pe_int) rfl) (pe_one (pe_and (pe_call GI hr1 rfl mI kI bI .nil pass0 (pa_cons (pe_ix ix_tup (pv 0) (pe_un un_neg pe_int) (fun _ _ => rfl)) pa_nil))
        (pe_one (pe_chain op_le op_le (pv 3) (pe_ix ix_tup (pv 0) (pe_un un_neg pe_int) (fun _ _ => rfl)) (pv 4))))))))))), ?_⟩
    have hT0 : ∀ {H1 : Hp}, Same H H1 → SqT K H1 p (insV y xs) := fun s1 => s1.tup hT
    obtain ⟨g', u, e1, e2, e3⟩ : ∃ f u, opF y = some f ∧ PySem.W.nsIn K dF y = some (some u) ∧ RelV (.str (formName f)) u := by
      rcases hF y with ⟨z, _⟩ | z
      · rw [hg] at z
        cases z
      · exact z
    obtain rfl : g = g' := Option.some.inj (hg.symm.trans e1)
    obtain ⟨pr, s1, s2⟩ := hS g (opF_le hg)
    obtain ⟨wd, lo, hi, er, w0, w1⟩ := prog_row g
    rw [er] at s2
    refine ⟨_, rfl, _, _, _, _, _, rfl, .ty "tuple", ty_tup hT, kit_ty (r := true) (by decide +kernel), _, rfl, iteF ?_⟩
    refine ⟨_, rfl, p, _, rfl, .inr hT, rfl, _, rfl, itF (decide_eq_false (by unfold insV; simp; omega)) ?_⟩
    refine ⟨_, rfl, p, _, _, _, rfl, rfl, hT, atI_nat (j := 0) rfl, _, _, _, _, _, rfl, .ty "str", .base (.str _), kit_ty (r := true) (by decide +kernel), _, rfl, iteF ?_⟩
    refine ⟨_, rfl, p, _, _, _, rfl, rfl, hT, atI_nat (j := 0) rfl, _, _, rfl, rfl, e2, _, rfl, iteF ?_⟩
    refine ⟨_, rfl, p, _, _, _, rfl, rfl, hT, atI_nat (j := 0) rfl, dF, y, .str (formName g), rfl, rfl, ⟨esF, nF, u, DF.at_, DF.lit, e2, e3⟩, dS, formName g, .ref pr, rfl, rfl, ⟨esS, nS, _, DS.at_, DS.lit, s1, rfl⟩, ?_⟩
    refine ⟨pr, _, rfl, s2 H, rfl, _, _, rfl, _, _, rfl, _, _, rfl, _, _, rfl, rfl, ?_⟩
    refine ⟨_, rfl, p, _, rfl, .inr hT, _, rfl, _, _, rfl, rfl, _, rfl, _, _, rfl, rfl, .inr ⟨_, rfl, _, _, rfl, rfl, rfl, _, rfl, ?_⟩⟩
    have hlen : (insV y xs).length = xs.length + 1 := by unfold insV; rw [List.length_cons, List.length_map]
    have hwd : (if decide (wd > 0) = true then (1 : Int) else 0) = (bitF g : Int) := by
      rcases bit_of g with ⟨h1, h2⟩ | ⟨h1, h2⟩
      · obtain ⟨b, hb⟩ := Option.isSome_iff_exists.mp h1
        rw [h2, if_pos (decide_eq_true (w1 b hb).1)]
        rfl
      · rw [h2, w0 h1]
        rfl
    rw [hwd, hlen]
    by_cases hl : xs.length = regsF g + bitF g
    rotate_left
    · refine itT (by simp; omega) ?_
      have e : okV g xs = false := by
        unfold okV
        rw [decide_eq_false hl]
        rfl
      have k := q H (.refl H)
      rw [e] at k
      exact k
    refine itF (by simp; omega) ?_
    refine ⟨_, rfl, _, rfl, _, rfl, _, _, rfl, rfl, _, rfl, p, _, rfl, hT, not_whole 1 (by decide) (by omega), fun p1 np1 => ?_⟩
    have hcut : cutV (insV y xs) (some 1) (some (1 + (regsF g : Int))) = (xs.take (regsF g)).map oV := by
      rw [List.map_take]
      exact cut_mid _ _ _
    rw [hcut]
    have sp1 : Same H (upd H p1 (.tup ((xs.take (regsF g)).map oV))) := same_new np1
    refine ⟨p1, rfl, ⟨_, .inl (.inl upd_same)⟩, fun D nD => lc_map (R := fun j x => ((xs.take (regsF g)).map oV)[j]? = some x) (out := ((xs.take (regsF g)).map regOk).map V.bl) walk_tup yat nD (fun H2 s2 => s2.tup (.inl (.inl upd_same))) (by simp) ?_ (fun _ => rfl) ?_ ?_⟩
    · rw [List.length_map, List.length_take]
      exact Nat.lt_of_le_of_lt (Nat.min_le_right _ _) (Nat.lt_of_le_of_lt hz (by decide))
    · intro j x y' H2 hx hy s2 Q' hQ
      obtain ⟨o, ho, rfl⟩ := getElem_map_oV hx
      have ey : y' = .bl (regOk o) := by
        rw [List.getElem?_map, List.getElem?_map, ho] at hy
        exact (Option.some.inj hy).symm
      subst ey
      refine ⟨_, rfl, o, rfl, _, rfl, ?_⟩
      cases o with
      | none => exact iteF (hQ _ (.refl _))
      | some i =>
        rw [regOk_v] at hQ
        by_cases hi : 0 ≤ i
        · refine itT (decide_eq_true hi) ⟨_, rfl, _, _, rfl, rfl, ?_⟩
          have k : Q' (.bl (decide (0 ≤ i) && decide (i ≤ 7))) H2 := hQ _ (.refl _)
          rw [decide_eq_true hi, Bool.true_and] at k
          exact k
        · refine itF (decide_eq_false hi) ?_
          have k : Q' (.bl (decide (0 ≤ i) && decide (i ≤ 7))) H2 := hQ _ (.refl _)
          rw [decide_eq_false hi, Bool.false_and] at k
          exact k
    · intro H2 s2 e2
      have sH : Same H H2 := sp1.trans s2
      refine ⟨D, _, rfl, .inl (.inl e2), _, rfl, ?_⟩
      have eall : ((xs.take (regsF g)).map regOk).all id = (xs.take (regsF g)).all regOk := by
        rw [List.all_map]
        rfl
      rw [eall]
      cases hall : (xs.take (regsF g)).all regOk with
      | false =>
        refine iteT ?_
        have e : okV g xs = false := by
          unfold okV
          rw [hall, Bool.and_false]
          rfl
        have k := q H2 sH
        rw [e] at k
        exact k
      | true =>
        refine iteF ?_
        have k := q H2 sH
        rw [okV_eq hl hall] at k
        refine ⟨_, rfl, _, _, rfl, rfl, _, rfl, ?_⟩
        rcases bit_of g with ⟨h1, h2⟩ | ⟨h1, h2⟩
        · obtain ⟨b, hb⟩ := Option.isSome_iff_exists.mp h1
          obtain ⟨wp, rfl⟩ := w1 b hb
          refine itF (decide_eq_false (by omega)) ?_
          have hne : xs ≠ [] := fun z => by
            rw [z, List.length_nil] at hl
            omega
          have hla : xs.getLast? = some (xs.getLast hne) := List.getLast?_eq_some_getLast hne
          generalize xs.getLast hne = o at hla
          have hla2 : (insV y xs).getLast? = some (oV o) := by
            unfold insV
            rw [List.getLast?_cons, List.getLast?_map, hla]
            rfl
          rw [hb, hla] at k
          dsimp only at k
          rw [inR_isSome] at k
          refine ⟨_, rfl, _, rfl, p, _, _, _, rfl, rfl, sH.tup hT, getLast_atI hla2, o, rfl, _, rfl, ?_⟩
          cases o with
          | none => exact iteF k
          | some v =>
            refine iteT ⟨_, rfl, _, rfl, _, rfl, p, _, _, _, rfl, rfl, sH.tup hT, getLast_atI hla2, _, _, rfl, rfl, _, rfl, ?_⟩
            dsimp only at k
            by_cases hlo : lo ≤ v
            · rw [decide_eq_true hlo, Bool.true_and] at k
              exact itT (decide_eq_true hlo) ⟨_, rfl, _, _, rfl, rfl, k⟩
            · rw [decide_eq_false hlo, Bool.false_and] at k
              exact itF (decide_eq_false hlo) k
        · rw [h1] at k
          exact itT (decide_eq_true (w0 h1)) k
/-! ### want_instruction -/
theorem scWantI : FnScope ["value"] ["value"] (defScope sWantI) := ⟨rfl, rfl, rfl, by decide +kernel, rfl, by decide +kernel, by decide +kernel⟩
theorem ok_wantI (a : At K mg "want_instruction" sWantI) (cS : Cal P w K mg base CX0 3 "is_instruction_value" ["value"] (spIsIns K)) : Cal P w K mg base CX0 4 "want_instruction" ["value"] (spWantI K) := by
  refine a.cal (fun _ _ _ _ _ _ us hl => match us, hl with | [_], _ => rfl) fun f fd m F => ?_
  obtain ⟨fS, fdS, mS, kS, bS, GS⟩ := cS
  refine F.ok scWantI (fun vs H Q E h => ?_) (fun cdv A outer s H vs Q E hr h => ?_)
  · obtain ⟨p, y, xs, g, rfl, _⟩ := h
    rfl
  · obtain ⟨p, y, xs, g, rfl, hT, hg, hz, hok, q⟩ := h
    refine ⟨_, pss_cons (ps_if (pt_not (pt_val (pe_call GS hr rfl mS kS bS .nil pass0 (pa_cons (pv 0) pa_nil)))) (pss_one ps_never) pss_nil) (pss_one (ps_ret (pv 0))), ?_⟩
    refine ⟨_, rfl, p, y, xs, g, rfl, hT, hg, hz, fun H1 s1 => ⟨_, rfl, itF (by rw [hok]; rfl) ⟨_, rfl, q _ s1⟩⟩⟩
end
end K18

/-! listing_text, register_in, integer_in. -/
namespace K18
open PySem PySem.Spec PyProof.Rows L2 TL
section
variable {P : Program} {w : World} {K : PySem.W.Frag} {mg : Str → Option Value} {base : Heap}

/-! ### listing_text -/
abbrev nLText : List Str := ["instruction", "registers", "words", "one", "number"]
theorem scLText : FnScope nLText ["instruction"] (defScope sLText) := ⟨rfl, rfl, rfl, by decide +kernel, rfl, by decide +kernel, by decide +kernel⟩
theorem reg_text (i : Int) : (Str.empty ++ ("r" : Str) ++ Str.ofString (toString i)) = regT i := rfl
theorem sum_le (b : Nat) : ∀ l : List Str, (∀ p ∈ l, p.length ≤ b) → (l.map (fun z => z.length)).sum ≤ l.length * b
  | [], _ => Nat.zero_le _
  | p :: r, h => by
    have h1 := h p (List.mem_cons_self ..)
    have h2 := sum_le b r fun z hz => h z (List.mem_cons_of_mem _ hz)
    rw [List.map_cons, List.sum_cons, List.length_cons, Nat.succ_mul]
    omega
theorem join_size {y : Str} {g : Nat} {xs : List Int} (hy : y ∈ names) (h : Okx g xs) : ((y :: parts g xs).map (fun z => z.length)).sum + (y :: parts g xs).length * (" " : Str).length ≤ 16777216 := by
  have k := sum_le 5 (y :: parts g xs) fun p hp => by
    rcases List.mem_cons.mp hp with e | hp
    · rw [e]
      have := (names_free y hy).2.1
      omega
    · exact part_len h p hp
  have l : (y :: parts g xs).length ≤ 5 := by
    rw [List.length_cons, parts_len]
    have := xs_len h
    omega
  have e : (" " : Str).length = 1 := by decide +kernel
  rw [e]
  omega
theorem ok_lText (T : Txt K w mg) (a : At K mg "listing_text" sLText) : Cal P w K mg base CX0 1 "listing_text" ["instruction"] (spTextI K) := by
  refine a.cal (fun _ _ _ _ _ _ us hl => match us, hl with | [_], _ => rfl) fun f fd m F => ?_
  obtain ⟨dF, esF, nF, mF, DF, hF⟩ := T.forms
  obtain ⟨dS, esS, nS, mS, DS, hS⟩ := T.shapes
  refine F.ok scLText (fun vs H Q E h => ?_) (fun cdv A outer s H vs Q E hr h => ?_)
  · obtain ⟨p, y, xs, g, rfl, _⟩ := h
    rfl
  · obtain ⟨p, y, xs, g, rfl, hT, hg, hok, q⟩ := h
    refine ⟨_, pss_cons (ps_set (i := 1) scLText.nd rfl (.inl rfl) (pe_ix ix_tup (pe_ix ix_kdict (pe_glob (v := .ref dS) (by rfl) mS rfl) (pe_ix ix_kdict (pe_glob (v := .ref dF) (by rfl) mF rfl) (pe_ix ix_tup (pv 0) pe_int (fun _ _ => rfl)) (fun _ _ => rfl)) (fun _ _ => rfl)) pe_int (fun _ _ => rfl)))
      (pss_cons (ps_set (i := 2) scLText.nd rfl (.inl rfl) (pe_op op_cat (pe_lst (pa_cons (pe_ix ix_tup (pv 0) pe_int (fun _ _ => rfl)) pa_nil))
        (pe_lc (own := [("one", 3)]) (g := gName 3) (tt := tYes) rfl scLText.nd (pi_tup (pe_slice sl_tup (pv 0) (po_some pe_int) (po_some (pe_op op_add pe_int (pv 1)))))
            (blkOk_by (own := [("one", 3)]) (N := nLText) (sc := defScope sLText) (by decide +kernel)) (fun _ _ _ _ _ => pg_name (i := 3) scLText.nd rfl (Or.inl rfl)) (fun _ _ _ _ _ => pts_nil)
            (fun _ _ _ _ _ => pe_joined (.cons pe_str (.cons (pe_fmt (pv 3)) .nil))))))
      (pss_one (ps_ret (pe_join pe_str (pe_op op_cat (pv 2)
        (pe_lc (own := [("number", 4)]) (g := gName 4) (tt := tYes) rfl scLText.nd (pi_tup (pe_slice sl_tup (pv 0) (po_some (pe_op op_add pe_int (pv 1))) po_none))
            (blkOk_by (own := [("number", 4)]) (N := nLText) (sc := defScope sLText) (by decide +kernel)) (fun _ _ _ _ _ => pg_name (i := 4) scLText.nd rfl (Or.inl rfl)) (fun _ _ _ _ _ => pts_nil)
            (fun _ _ _ _ _ => pe_joined1 (pe_fmt (pv 4))))))))), ?_⟩
    obtain ⟨g', u, e1, e2, e3⟩ : ∃ f u, opF y = some f ∧ PySem.W.nsIn K dF y = some (some u) ∧ RelV (.str (formName f)) u := by
      rcases hF y with ⟨z, _⟩ | z
      · rw [hg] at z
        cases z
      · exact z
    obtain rfl : g = g' := Option.some.inj (hg.symm.trans e1)
    obtain ⟨pr, s1, s2⟩ := hS g (opF_le hg)
    have hmem := opF_mem hg
    refine ⟨_, rfl, p, _, _, _, rfl, rfl, hT, atI_nat (j := 0) rfl, dF, y, .str (formName g), rfl, rfl, ⟨esF, nF, u, DF.at_, DF.lit, e2, e3⟩, dS, formName g, .ref pr, rfl, rfl, ⟨esS, nS, _, DS.at_, DS.lit, s1, rfl⟩,
      pr, _, _, _, rfl, rfl, s2 H, atI_nat (j := 0) (prog_one g), ?_⟩
    refine ⟨_, rfl, p, _, _, _, rfl, rfl, hT, atI_nat (j := 0) rfl, (by show 1 ≤ sizeLine; decide), fun l1 n1 => ?_⟩
    have t1 : Same H (upd H l1 (.lst [.str y])) := same_new n1
    refine ⟨_, rfl, _, rfl, _, rfl, _, _, rfl, rfl, _, rfl, p, _, rfl, t1.tup hT, not_whole 1 (by decide) (by simp), fun p1 np1 => ?_⟩
    have hcut : cutV (.str y :: xs.map V.int) (some 1) (some (1 + (regsF g : Int))) = (xs.take (regsF g)).map V.int := by
      rw [List.map_take]
      exact cut_mid _ _ _
    rw [hcut]
    have t2 := t1.trans (same_new (o := .tup ((xs.take (regsF g)).map V.int)) np1)
    have el1 : (upd (upd H l1 (.lst [.str y])) p1 (.tup ((xs.take (regsF g)).map V.int))) l1 = some (.lst [.str y]) := by
      rw [upd_ne (ne_of_none upd_same np1), upd_same]
    refine ⟨p1, rfl, ⟨_, .inl (.inl upd_same)⟩, fun D nD => lc_map (te := fun σ H Q => tJs [tC (V.str "r"), tFmt (tVar 3)] Str.empty σ H fun out H1 => Q (V.str out) H1) (R := fun j x => ((xs.take (regsF g)).map V.int)[j]? = some x) (out := (xs.take (regsF g)).map fun i => V.str (regT i)) walk_tup yat nD (fun H2 s2 => s2.tup (.inl (.inl upd_same))) (by simp) ?_ (fun _ => rfl) ?_ ?_⟩
    · have := xs_len hok
      rw [List.length_map, List.length_take]
      exact Nat.lt_of_le_of_lt (Nat.min_le_right _ _) (Nat.lt_of_le_of_lt this (by decide))
    · intro j x y' H2 hx hy s2 Q' hQ
      obtain ⟨o, ho, rfl⟩ := getElem_map_f hx
      obtain rfl := map_at ho hy
      have hin := hok.reg o (List.mem_of_getElem? ho)
      have hlen : (regT o).length ≤ sizeLine := by
        have k := (int_back (v := o) (by omega)).2
        rw [len_tl, tl_regT, List.length_cons]
        exact Nat.le_trans (show (numS o).length + 1 ≤ 5 by omega) (by decide)
      exact ⟨"r", rfl, by decide, _, rfl, .inr ⟨o, rfl, small_log (by omega), _, rfl, hlen, hQ _ (.refl _)⟩⟩
    intro H2 s2' e2'
    have t3 := t2.trans s2'
    refine ⟨l1, D, _, _, rfl, rfl, s2' _ _ el1, e2', ?_, fun l2 n2 => ?_⟩
    · have := xs_len hok
      rw [List.length_map, List.length_take, List.length_singleton]
      exact Nat.le_trans (show 1 + min (regsF g) xs.length ≤ 5 by omega) (by decide)
    have t4 := t3.trans (same_new (o := .lst ([V.str y] ++ (xs.take (regsF g)).map fun i => V.str (regT i))) n2)
    refine ⟨⟨_, rfl⟩, _, rfl, _, rfl, _, rfl, _, _, rfl, rfl, _, rfl, p, _, rfl, t4.tup hT, not_whole1 _ (by simp), fun p2 np2 => ?_⟩
    have hcut2 : cutV (.str y :: xs.map V.int) (some (1 + (regsF g : Int))) none = (xs.drop (regsF g)).map V.int := by
      rw [List.map_drop]
      exact cut_end _ _ _
    rw [hcut2]
    have t5 := t4.trans (same_new (o := .tup ((xs.drop (regsF g)).map V.int)) np2)
    have el2 : (upd (upd H2 l2 (.lst ([V.str y] ++ (xs.take (regsF g)).map fun i => V.str (regT i)))) p2 (.tup ((xs.drop (regsF g)).map V.int))) l2 = some (.lst ([V.str y] ++ (xs.take (regsF g)).map fun i => V.str (regT i))) := by
      rw [upd_ne (ne_of_none upd_same np2), upd_same]
    refine ⟨p2, rfl, ⟨_, .inl (.inl upd_same)⟩, fun D2 nD2 => lc_map (R := fun j x => ((xs.drop (regsF g)).map V.int)[j]? = some x) (out := (xs.drop (regsF g)).map fun i => V.str (numT i)) walk_tup yat nD2 (fun H2 s2 => s2.tup (.inl (.inl upd_same))) (by simp) ?_ (fun _ => rfl) ?_ ?_⟩
    · have := xs_len hok
      rw [List.length_map, List.length_drop]
      exact Nat.lt_of_le_of_lt (show xs.length - regsF g ≤ 4 by omega) (by decide)
    · intro j x y' H3 hx hy s3 Q' hQ
      obtain ⟨o, ho, rfl⟩ := getElem_map_f hx
      obtain rfl := map_at ho hy
      exact ⟨_, rfl, .inr ⟨o, rfl, small_log (hok.small (List.mem_of_mem_drop (List.mem_of_getElem? ho))), hQ _ (.refl _)⟩⟩
    intro H3 s3 e3'
    have t6 := t5.trans s3
    refine ⟨l2, D2, _, _, rfl, rfl, s3 _ _ el2, e3', ?_, fun l3 n3 => ?_⟩
    · have := xs_len hok
      rw [List.length_append, List.length_map, List.length_map, List.length_take, List.length_drop, List.length_singleton]
      exact Nat.le_trans (show 1 + min (regsF g) xs.length + (xs.length - regsF g) ≤ 9 by omega) (by decide)
    have eall : ([V.str y] ++ (xs.take (regsF g)).map fun i => V.str (regT i)) ++ ((xs.drop (regsF g)).map fun i => V.str (numT i)) = (y :: parts g xs).map V.str := by
      unfold parts
      rw [List.map_cons, List.map_append, List.map_map, List.map_map]
      rfl
    rw [eall]
    exact ⟨_, l3, y :: parts g xs, rfl, rfl, .inl (.inl (.inl upd_same)), join_size hmem hok, q _ (t6.trans (same_new n3))⟩
end
end K18

/-! register_in, integer_in. -/
namespace K18
open PySem PySem.Spec PyProof.Rows L2 TL
section
variable {P : Program} {w : World} {K : PySem.W.Frag} {mg : Str → Option Value} {base : Heap}

/-! ### register_in -/
theorem scRegIn : FnScope ["word"] ["word"] (defScope sRegIn) := ⟨rfl, rfl, rfl, by decide +kernel, rfl, by decide +kernel, by decide +kernel⟩
theorem one_dig {b : Nat} (h : isDig b = true) : PySem.intText? (⟨#[b]⟩ : Str) = some ((b : Int) - 48) := by
  have hb : 48 ≤ b ∧ b ≤ 57 := of_decide_eq_true h
  have k := PySem.intText_digits (x := (⟨#[b]⟩ : Str)) (fun c hc => by rw [List.mem_singleton.mp (show c ∈ [b] from hc)]; exact hb) (by simp) (show 1 ≤ 4300 by decide)
  rw [k]
  congr 1
  show (((0 * 10 + (b - 48) : Nat)) : Int) = _
  omega
theorem regL_two {a b : Nat} : regL [a, b] = if a = 114 ∧ 48 ≤ b ∧ b ≤ 55 then some ((b : Int) - 48) else none := by
  by_cases h : a = 114
  · subst h
    show (if 48 ≤ b ∧ b ≤ 55 then some ((b : Int) - 48) else none) = _
    by_cases h2 : 48 ≤ b ∧ b ≤ 55
    · rw [if_pos h2, if_pos ⟨rfl, h2⟩]
    · rw [if_neg h2, if_neg fun z => h2 z.2]
  · rw [if_neg fun z => h z.1]
    unfold regL
    split
    · rename_i e
      injection e with e1 e2
      exact absurd e1 h
    · rfl
theorem regL_not {l : List Nat} (h : l.length ≠ 2) : regL l = none := by
  unfold regL
  split
  · exact absurd rfl h
  · rfl
theorem ok_regIn (T : Txt K w mg) (a : At K mg "register_in" sRegIn) : Cal P w K mg base CX0 1 "register_in" ["word"] spRegIn := by
  refine a.cal (fun _ _ _ _ _ _ us hl => match us, hl with | [_], _ => rfl) fun f fd m F => ?_
  obtain ⟨tF, mF⟩ := T.figs
  obtain ⟨tM, mM⟩ := T.most
  refine F.ok scRegIn (fun vs H Q E h => ?_) (fun cdv A outer s H vs Q E hr h => ?_)
  · obtain ⟨z, rfl, _⟩ := h
    rfl
  · obtain ⟨z, rfl, hz, q⟩ := h
    refine ⟨_, pss_cons (ps_if (PW.pt (pw_or (pt_cmpR op_ne (pe_callB call_len_str (by rfl) T.len PySem.boot_len (pa_cons (pv 0) pa_nil)) pe_int (nomark _))
        (pw_or (pt_cmpR op_ne (pe_ix ix_str (pv 0) pe_int (fun _ _ => rfl)) pe_str (nomark _))
        (pw_or (pt_cmpR op_notIn_sign (pe_ix ix_str (pv 0) pe_int (fun _ _ => rfl)) (pe_glob (v := .str "0123456789") (by rfl) mF ⟨_, rfl⟩) (by rfl))
        (pw_or1 (pt_cmpR op_gt (pe_callTy call_int_str (by rfl) T.int (by decide +kernel) (pa_cons (pe_ix ix_str (pv 0) pe_int (fun _ _ => rfl)) pa_nil)) (pe_glob (v := .int 7) (by rfl) mM ⟨_, rfl⟩) (nomark _)))))))
        (pss_one (ps_ret pe_non)) pss_nil)
      (pss_one (ps_ret (pe_callTy call_int_str (by rfl) T.int (by decide +kernel) (pa_cons (pe_ix ix_str (pv 0) pe_int (fun _ _ => rfl)) pa_nil)))), ?_⟩
    have hsz : z.length ≤ sizeLine := Nat.le_trans hz (by decide)
    refine ⟨_, rfl, _, rfl, hsz, rfl, _, rfl, ?_⟩
    by_cases h2 : (tl z).length = 2
    rotate_left
    · refine itT (by rw [dec_int, len_tl, beq_eq_false_iff_ne.mpr (by omega)]; rfl) ?_
      refine iteT ?_
      have k := q
      rw [regL_not h2] at k
      exact k
    refine itF (by rw [dec_int, len_tl, h2]; rfl) ?_
    obtain ⟨c, d, e⟩ : ∃ c d, tl z = [c, d] := by
      cases e : tl z with
      | nil => rw [e] at h2; cases h2
      | cons c r =>
        cases r with
        | nil => rw [e] at h2; cases h2
        | cons d r =>
          rw [e] at h2
          simp at h2
          exact ⟨c, d, by rw [h2]⟩
    have a0 : atI z.cps.toList 0 = some c := atI_nat (j := 0) (by rw [show z.cps.toList = [c, d] from e]; rfl)
    have a1 : atI z.cps.toList 1 = some d := atI_nat (j := 1) (by rw [show z.cps.toList = [c, d] from e]; rfl)
    rw [e, regL_two] at q
    refine ⟨_, rfl, _, _, _, rfl, rfl, hsz, a0, rfl, _, rfl, ?_⟩
    rw [str_eq, tl_one, tl_r]
    by_cases hc : c = 114
    rotate_left
    · rw [if_neg fun z => hc z.1] at q
      exact itT (by simp [hc]) (iteT q)
    refine itF (by simp [hc]) ?_
    refine ⟨_, rfl, _, _, _, rfl, rfl, hsz, a1, _, _, rfl, rfl, _, rfl, ?_⟩
    rw [mem_figs]
    cases hd : isDig d with
    | false =>
      have hn : ¬ (48 ≤ d ∧ d ≤ 57) := of_decide_eq_false hd
      rw [if_neg fun z => hn ⟨z.2.1, by omega⟩] at q
      exact iteT (iteT q)
    | true =>
      have hb : 48 ≤ d ∧ d ≤ 57 := of_decide_eq_true hd
      refine iteF ⟨_, rfl, _, _, _, rfl, rfl, hsz, a1, _, _, rfl, one_dig hd, (show 1 ≤ 640 by decide), _, _, rfl, rfl, _, rfl, ?_⟩
      by_cases h7 : d ≤ 55
      · rw [if_pos ⟨hc, hb.1, h7⟩] at q
        exact itF (decide_eq_false (by omega)) ⟨_, rfl, _, _, _, rfl, rfl, hsz, a1, _, _, rfl, one_dig hd, (show 1 ≤ 640 by decide), q⟩
      · rw [if_neg fun z => h7 z.2.2] at q
        exact itT (decide_eq_true (by omega)) q

/-! ### integer_in -/
theorem pe_imp {X : Cx} {e : Expr} {t t' : TE} (h : PE X e t) (k : ∀ σ H Q, t' σ H Q → t σ H Q) : PE X e t' := ⟨fun pins s σ H Q I q => h.run pins s σ H Q I (k σ H Q q)⟩
/-- a number's text without its sign -/
def bodyS (z : Str) : Str := ⟨(bodyL (tl z)).toArray⟩
theorem tl_bodyS (z : Str) : tl (bodyS z) = bodyL (tl z) := rfl
def tBody (i : Nat) : TE := fun σ H Q => ∃ z : Str, σ[i]? = some (some (.str z)) ∧ z.length ≤ sizeLine ∧ Q (.str (bodyS z)) H
theorem pe_body {X : Cx} {e : Expr} {i : Nat} (h : PE X e (tIf (tTest (tOp rEq (tSl rSlS (tVar i) tNoPart (tPart (tC (.int 1)))) (tC (.str "-")))) (tSl rSlS (tVar i) (tPart (tC (.int 1))) tNoPart) (tVar i))) : PE X e (tBody i) := by
  refine pe_imp h fun σ H Q q => ?_
  obtain ⟨z, e1, hz, q⟩ := q
  refine ⟨_, e1, _, rfl, z, rfl, hz, rfl, _, rfl, ?_⟩
  have e2 : tl (cutS z none (some 1)) = (tl z).take 1 := cut_to z 1
  have e3 : tl (cutS z (some 1) none) = (tl z).drop 1 := cut_from z 1
  rw [str_eq, e2, tl_minus]
  by_cases hm : (tl z).take 1 = [45]
  · refine itT (decide_eq_true hm) ⟨_, e1, _, rfl, z, rfl, hz, ?_⟩
    have e4 : cutS z (some 1) none = bodyS z := ext_tl (by
      rw [e3, tl_bodyS]
      unfold bodyL
      rw [if_pos hm])
    rw [e4]
    exact q
  · refine itF (decide_eq_false hm) ⟨_, e1, ?_⟩
    have e4 : bodyS z = z := ext_tl (by
      rw [tl_bodyS]
      unfold bodyL
      rw [if_neg hm])
    rw [e4] at q
    exact q
abbrev nIntIn : List Str := ["word", "told", "sign"]
theorem scIntIn : FnScope nIntIn ["word"] (defScope sIntIn) := ⟨rfl, rfl, rfl, by decide +kernel, rfl, by decide +kernel, by decide +kernel⟩
theorem ok_intIn (T : Txt K w mg) (a : At K mg "integer_in" sIntIn) : Cal P w K mg base CX0 1 "integer_in" ["word"] spIntIn := by
  refine a.cal (fun _ _ _ _ _ _ us hl => match us, hl with | [_], _ => rfl) fun f fd m F => ?_
  obtain ⟨tF, mF⟩ := T.figs
  obtain ⟨tM, mM⟩ := T.mostF
  refine F.ok scIntIn (fun vs H Q E h => ?_) (fun cdv A outer s H vs Q E hr h => ?_)
  · obtain ⟨z, rfl, _⟩ := h
    rfl
  · obtain ⟨z, rfl, hz, q⟩ := h
    refine ⟨_, pss_cons (ps_set (i := 1) scIntIn.nd rfl (.inl rfl) (pe_body (pe_ifExp (pt_cmpR op_eq (pe_slice sl_str (pv 0) po_none (po_some pe_int)) pe_str (nomark _)) (pe_slice sl_str (pv 0) (po_some pe_int) po_none) (pv 0))))
      (pss_cons (ps_if (PW.pt (pw_or (pt_not (pt_chain op_le op_le pe_int (pe_callB call_len_str (by rfl) T.len PySem.boot_len (pa_cons (pv 1) pa_nil)) (pe_glob (v := .int 3) (by rfl) mM ⟨_, rfl⟩)))
        (pw_or1 (pt_not (pt_val (pe_callB (cr_all rfl) (by rfl) T.all (by decide +kernel) (pa_cons
          (pe_lc (own := [("sign", 2)]) (g := gName 2) (tt := tYes) rfl scIntIn.nd (pi_str (pv 1))
            (blkOk_by (own := [("sign", 2)]) (N := nIntIn) (sc := defScope sIntIn) (by decide +kernel)) (fun _ _ _ _ _ => pg_name (i := 2) scIntIn.nd rfl (Or.inl rfl)) (fun _ _ _ _ _ => pts_nil)
            (fun _ _ _ _ _ => pe_cmpR op_in_sign (pv 2) (pe_glob (v := .str "0123456789") (by rfl) mF ⟨_, rfl⟩) (by rfl))) pa_nil)))))))
        (pss_one (ps_ret pe_non)) pss_nil)
      (pss_cons (ps_if (PW.pt (pw_and (pt_cmpR op_eq (pe_ix ix_str (pv 1) pe_int (fun _ _ => rfl)) pe_str (nomark _)) (pw_and1 (pt_cmpR op_ne (pv 0) pe_str (nomark _)))))
        (pss_one (ps_ret pe_non)) pss_nil)
      (pss_one (ps_ret (pe_callTy call_int_str (by rfl) T.int (by decide +kernel) (pa_cons (pv 0) pa_nil)))))), ?_⟩
    have hsz : z.length ≤ sizeLine := Nat.le_trans hz (by decide)
    have hbl : (bodyL (tl z)).length ≤ z.length := by
      rw [len_tl]
      unfold bodyL
      split
      · rw [List.length_drop]
        omega
      · exact Nat.le_refl _
    have hsb : (bodyS z).length ≤ sizeLine := by
      rw [len_tl, tl_bodyS]
      exact Nat.le_trans hbl hsz
    have eb : ((bodyS z).length : Int) = ((bodyL (tl z)).length : Int) := by rw [len_tl, tl_bodyS]
    refine ⟨z, rfl, hsz, ?_⟩
    refine ⟨_, rfl, _, rfl, hsb, _, _, rfl, rfl, _, rfl, ?_⟩
    rw [eb]
    by_cases h1 : 1 ≤ (bodyL (tl z)).length
    rotate_left
    · refine itF (decide_eq_false (by omega)) ⟨_, rfl, iteT (iteT ?_)⟩
      have k := q H (.refl H)
      unfold intL at k
      rw [if_neg fun z => h1 z.1.1] at k
      exact k
    refine itT (decide_eq_true (by omega)) ⟨_, _, rfl, rfl, _, rfl, ?_⟩
    by_cases h3 : (bodyL (tl z)).length ≤ 3
    rotate_left
    · rw [decide_eq_false (by omega)]
      refine iteT (iteT ?_)
      have k := q H (.refl H)
      unfold intL at k
      rw [if_neg fun z => h3 z.1.2] at k
      exact k
    rw [decide_eq_true (by omega)]
    refine iteF ?_
    refine ⟨_, rfl, _, rfl, fun D nD => lc_map (te := tOp (fun x y H Q => ∃ (c : Nat) (z : Str), x = .str ⟨#[c]⟩ ∧ y = .str z ∧ Q (.bl (decide (c ∈ z.cps.toList))) H) (tVar 2) (tC (V.str "0123456789")))
      (R := fun j x => ∃ c, (bodyS z).cps[j]? = some c ∧ x = .str ⟨#[c]⟩) (out := (tl (bodyS z)).map fun c => V.bl (isDig c)) walk_str (fun _ _ _ _ h => h) nD (fun _ _ => trivial) (by simp [tl]) ?_ (fun _ => rfl) ?_ ?_⟩
    · have : (bodyS z).cps.size ≤ z.length := by
        rw [← Array.length_toList]
        exact hbl
      exact Nat.lt_of_le_of_lt this (Nat.lt_of_le_of_lt hz (by decide))
    · intro j x y' H2 hx hy s2 Q' hQ
      obtain ⟨c, hc, rfl⟩ := hx
      have hc' : (tl (bodyS z))[j]? = some c := by
        show (bodyS z).cps.toList[j]? = some c
        rw [Array.getElem?_toList]
        exact hc
      obtain rfl := map_at hc' hy
      refine ⟨_, rfl, c, _, rfl, rfl, ?_⟩
      rw [mem_figs]
      exact hQ _ (.refl _)
    intro H2 s2 e2
    rw [tl_bodyS] at e2
    have e2' : H2 D = some (.lst (((bodyL (tl z)).map isDig).map V.bl)) := by
      rw [List.map_map]
      exact e2
    refine ⟨D, _, rfl, .inl (.inl e2'), _, rfl, ?_⟩
    have eall : ((bodyL (tl z)).map isDig).all id = digs (bodyL (tl z)) := by
      rw [List.all_map]
      rfl
    rw [eall]
    cases hd : digs (bodyL (tl z)) with
    | false =>
      refine iteT ?_
      have k := q H2 s2
      unfold intL at k
      rw [if_neg fun z => Bool.noConfusion (hd.symm.trans z.2.1)] at k
      exact k
    | true =>
      refine iteF ?_
      obtain ⟨c, hc⟩ : ∃ c, (bodyL (tl z))[0]? = some c := ⟨_, List.getElem?_eq_getElem (by omega)⟩
      have a0 : atI (bodyS z).cps.toList 0 = some c := atI_nat (j := 0) hc
      have ht : (bodyL (tl z)).take 1 = [c] := by
        cases e : bodyL (tl z) with
        | nil =>
          rw [e] at hc
          cases hc
        | cons d r =>
          rw [e] at hc
          have e3 : d = c := Option.some.inj hc
          rw [e3]
          rfl
      refine ⟨_, rfl, _, _, _, rfl, rfl, hsb, a0, rfl, _, rfl, ?_⟩
      rw [str_eq, tl_one, tl_zero]
      have fin : ¬ ((bodyL (tl z)).take 1 = [48] ∧ tl z ≠ [48]) → Q (oV (some (valL (tl z)))) H2 := fun hn => by
        have k := q H2 s2
        unfold intL at k
        rw [if_pos ⟨⟨h1, h3⟩, hd, hn⟩] at k
        exact k
      have hne : bodyL (tl z) ≠ [] := fun e => by
        rw [e] at h1
        exact absurd h1 (by decide)
      have hl640 : z.length ≤ 640 := by
        have := body_len (tl z)
        rw [len_tl]
        omega
      have hi := int_text hne hd hl640
      by_cases h48 : c = 48
      · refine itT (by rw [h48]; rfl) ⟨_, rfl, rfl, _, rfl, ?_⟩
        rw [str_eq, tl_zero]
        by_cases hz0 : tl z = [48]
        · exact itF (by rw [decide_eq_true hz0]; rfl) ⟨_, rfl, _, _, rfl, hi, hl640, fin fun z => z.2 hz0⟩
        · refine itT (by rw [decide_eq_false hz0]; rfl) ?_
          have k := q H2 s2
          unfold intL at k
          rw [if_neg fun z => z.2.2 ⟨by rw [ht, h48], hz0⟩] at k
          exact k
      · refine itF (decide_eq_false fun e => h48 (List.cons.inj e).1) ?_
        refine itF rfl ⟨_, rfl, _, _, rfl, hi, hl640, fin fun z => h48 ?_⟩
        have e := ht.symm.trans z.1
        injection e
end
end K18

/-! listing_instruction, text_of, CoreError.__init__, instruction_of. -/
namespace K18
open PySem PySem.Spec PyProof.Rows L2 TL
section
variable {P : Program} {w : World} {K : PySem.W.Frag} {mg : Str → Option Value} {base : Heap}

/-! ### listing_instruction -/
abbrev nLInst : List Str := ["text", "words", "registers", "found", "word"]
theorem scLInst : FnScope nLInst ["text"] (defScope sLInst) := ⟨rfl, rfl, rfl, by decide +kernel, rfl, by decide +kernel, by decide +kernel⟩
theorem ok_lInst (T : Txt K w mg) (a : At K mg "listing_instruction" sLInst) (cR : Cal P w K mg base CX0 1 "register_in" ["word"] spRegIn) (cN : Cal P w K mg base CX0 1 "integer_in" ["word"] spIntIn)
    (cS : Cal P w K mg base CX0 3 "is_instruction_value" ["value"] (spIsIns K)) : Cal P w K mg base CX0 4 "listing_instruction" ["text"] spReader := by
  refine a.cal (fun _ _ _ _ _ _ us hl => match us, hl with | [_], _ => rfl) fun f fd m F => ?_
  obtain ⟨fR, fdR, mR, kR, bR, GR⟩ := cR
  obtain ⟨fN, fdN, mN, kN, bN, GN⟩ := cN
  obtain ⟨fS, fdS, mSI, kS, bS, GS⟩ := cS
  obtain ⟨dF, esF, nF, mF, DF, hF⟩ := T.forms
  obtain ⟨dS, esS, nS, mS, DS, hS⟩ := T.shapes
  refine F.ok scLInst (fun vs H Q E h => ?_) (fun cdv A outer s H vs Q E hr h => ?_)
  · obtain ⟨t, rfl, _⟩ := h
    rfl
  · obtain ⟨t, rfl, hz, q0, q1⟩ := h
    have hr1 : Room 1 _ := hr.mono (by decide)
    refine ⟨_, pss_cons (ps_if (pt_not (pt_val (pe_callB call_isi (by rfl) T.isi (by decide +kernel) (pa_cons (pv 0) (pa_cons (pe_bltn (v := .ty "str") (by rfl) T.str (by decide +kernel) rfl) pa_nil))))) (pss_one (ps_ret pe_non)) pss_nil)
      (pss_cons (ps_set (i := 1) scLInst.nd rfl (.inl rfl) (pe_split (pv 0) pe_str))
      (pss_cons (ps_if (pt_cmpR (op_notIn_kd DF) (pe_ix ix_list (pv 1) pe_int (fun _ _ => rfl)) (pe_glob (v := .ref dF) (by rfl) mF rfl) (by rfl)) (pss_one (ps_ret pe_non)) pss_nil)
      (pss_cons (ps_set (i := 2) scLInst.nd rfl (.inl rfl) (pe_ix ix_tup (pe_ix ix_kdict (pe_glob (v := .ref dS) (by rfl) mS rfl) (pe_ix ix_kdict (pe_glob (v := .ref dF) (by rfl) mF rfl) (pe_ix ix_list (pv 1) pe_int (fun _ _ => rfl)) (fun _ _ => rfl)) (fun _ _ => rfl)) pe_int (fun _ _ => rfl)))
      (pss_cons (ps_set (i := 3) scLInst.nd rfl (.inl rfl) (pe_op op_cat (pe_lst (pa_cons (pe_ix ix_list (pv 1) pe_int (fun _ _ => rfl)) pa_nil))
        (pe_lc (own := [("word", 4)]) (g := gName 4) (tt := tYes) rfl scLInst.nd (pi_list (pe_slice sl_list (pv 1) (po_some pe_int) (po_some (pe_op op_add pe_int (pv 2)))))
            (blkOk_by (own := [("word", 4)]) (N := nLInst) (sc := defScope sLInst) (by decide +kernel)) (fun _ _ _ _ _ => pg_name (i := 4) scLInst.nd rfl (Or.inl rfl)) (fun _ _ _ _ _ => pts_nil)
            (fun _ _ _ _ _ => pe_call GR hr1 (by rfl) mR kR bR .nil pass0 (pa_cons (pv 4) pa_nil)))))
      (pss_cons (ps_set (i := 3) scLInst.nd rfl (.inl rfl) (pe_op op_cat (pv 3)
        (pe_lc (own := [("word", 4)]) (g := gName 4) (tt := tYes) rfl scLInst.nd (pi_list (pe_slice sl_list (pv 1) (po_some (pe_op op_add pe_int (pv 2))) po_none))
            (blkOk_by (own := [("word", 4)]) (N := nLInst) (sc := defScope sLInst) (by decide +kernel)) (fun _ _ _ _ _ => pg_name (i := 4) scLInst.nd rfl (Or.inl rfl)) (fun _ _ _ _ _ => pts_nil)
            (fun _ _ _ _ _ => pe_call GN hr1 (by rfl) mN kN bN .nil pass0 (pa_cons (pv 4) pa_nil)))))
      (pss_one (ps_ret (pe_ifExp (pt_val (pe_call GS hr (by rfl) mSI kS bS .nil pass0 (pa_cons (pe_callTy call_tuple_of (by rfl) T.tuple (by decide +kernel) (pa_cons (pv 3) pa_nil)) pa_nil)))
        (pe_callTy call_tuple_of (by rfl) T.tuple (by decide +kernel) (pa_cons (pv 3) pa_nil)) pe_non)))))))), ?_⟩
    have hszt : t.length + 2 ≤ sizeLine := Nat.le_trans (show t.length + 2 ≤ 1002 by omega) (by decide)
    have hcount := words_count t
    have hne := words_ne t
    have hwl : ∀ z ∈ Txt.split t " ", z.length ≤ 1000 := fun z hz' => Nat.le_trans (word_len hz') hz
    have hinst : instOf t = match Txt.split t " " with
      | [] => none
      | y :: ws => match opF y with
        | none => none
        | some f => (heard (ws.map tl) f).map fun xs => (y, xs) := rfl
    refine ⟨_, rfl, _, _, _, _, _, rfl, .ty "str", .base (.str _), kit_ty (r := true) (by decide +kernel), _, rfl, iteF ?_⟩
    refine ⟨_, rfl, ⟨_, rfl⟩, _, _, rfl, rfl, by decide +kernel, hszt, fun l nl => ?_⟩
    generalize Txt.split t " " = W at hne hcount hwl hinst
    cases W with
    | nil => exact absurd rfl hne
    | cons y ws =>
      have t1 : Same H (upd H l (.lst ((y :: ws).map V.str))) := same_new nl
      have el : (upd H l (.lst ((y :: ws).map V.str))) l = some (.lst ((y :: ws).map V.str)) := upd_same
      generalize upd H l (.lst ((y :: ws).map V.str)) = H1 at t1 el
      dsimp only at hinst
      rcases hF y with ⟨hy, e2⟩ | ⟨g, u, hy, e2, e3⟩
      · rw [hy] at hinst
        exact ⟨_, rfl, l, _, _, _, rfl, rfl, .inl (.inl el), atI_nat (j := 0) rfl, _, _, rfl, rfl, e2, _, rfl, iteT (q0 hinst _ t1)⟩
      rw [hy] at hinst
      dsimp only at hinst
      refine ⟨_, rfl, l, _, _, _, rfl, rfl, .inl (.inl el), atI_nat (j := 0) rfl, _, _, rfl, rfl, e2, _, rfl, iteF ?_⟩
      obtain ⟨pr, s1, s2⟩ := hS g (opF_le hy)
      refine ⟨_, rfl, l, _, _, _, rfl, rfl, .inl (.inl el), atI_nat (j := 0) rfl, dF, y, .str (formName g), rfl, rfl, ⟨esF, nF, u, DF.at_, DF.lit, e2, e3⟩, dS, formName g, .ref pr, rfl, rfl, ⟨esS, nS, _, DS.at_, DS.lit, s1, rfl⟩,
        pr, _, _, _, rfl, rfl, s2 _, atI_nat (j := 0) (prog_one g), ?_⟩
      refine ⟨_, rfl, l, _, _, _, rfl, rfl, .inl (.inl el), atI_nat (j := 0) rfl, (by show 1 ≤ sizeLine; decide), fun l1 n1 => ?_⟩
      have t2 := t1.trans (same_new (o := .lst [V.str y]) n1)
      have el2 : (upd H1 l1 (.lst [V.str y])) l = some (.lst ((y :: ws).map V.str)) := (same_new n1) _ _ el
      have ef2 : (upd H1 l1 (.lst [V.str y])) l1 = some (.lst [V.str y]) := upd_same
      generalize upd H1 l1 (.lst [V.str y]) = H2 at t2 el2 ef2
      refine ⟨_, rfl, _, rfl, _, rfl, _, _, rfl, rfl, _, rfl, l, _, rfl, .inl (.inl el2), fun p1 np1 => ?_⟩
      have hcut : cutV ((y :: ws).map V.str) (some 1) (some (1 + (regsF g : Int))) = (ws.take (regsF g)).map V.str := by
        rw [List.map_take]
        exact cut_mid _ _ _
      rw [hcut]
      have t3 := t2.trans (same_new (o := .lst ((ws.take (regsF g)).map V.str)) np1)
      have el3 := (same_new (o := .lst ((ws.take (regsF g)).map V.str)) np1) _ _ el2
      have ef3 := (same_new (o := .lst ((ws.take (regsF g)).map V.str)) np1) _ _ ef2
      have ep3 : (upd H2 p1 (.lst ((ws.take (regsF g)).map V.str))) p1 = some (.lst ((ws.take (regsF g)).map V.str)) := upd_same
      generalize upd H2 p1 (.lst ((ws.take (regsF g)).map V.str)) = H3 at t3 el3 ef3 ep3
      have hwsl : ws.length ≤ 1000 := by
        rw [List.length_cons] at hcount
        omega
      refine ⟨p1, rfl, ⟨_, .inl (.inl ep3)⟩, fun D nD => lc_map (te := tCall spRegIn [] E0 (tCons (tVar 4) tNil)) (R := fun j x => ((ws.take (regsF g)).map V.str)[j]? = some x) (out := (ws.take (regsF g)).map fun z => oV (regL (tl z))) walk_list yat nD (fun H2 s2 => s2.seq (.inl (.inl ep3))) (by simp) ?_ (fun _ => rfl) ?_ ?_⟩
      · rw [List.length_map, List.length_take]
        exact Nat.lt_of_le_of_lt (Nat.min_le_right _ _) (Nat.lt_of_le_of_lt hwsl (by decide))
      · intro j x y' H4 hx hy' s4 Q' hQ
        obtain ⟨z, hz', rfl⟩ := getElem_map_f hx
        obtain rfl := map_at hz' hy'
        exact ⟨_, rfl, z, rfl, Nat.le_trans (hwl z (List.mem_cons_of_mem _ (List.mem_of_mem_take (List.mem_of_getElem? hz')))) (by decide), hQ _ (.refl _)⟩
      intro H4 s4 eD4
      have t4 := t3.trans s4
      refine ⟨l1, D, _, _, rfl, rfl, s4 _ _ ef3, eD4, ?_, fun l2 n2 => ?_⟩
      · rw [List.length_map, List.length_take, List.length_singleton]
        exact Nat.le_trans (show 1 + min (regsF g) ws.length ≤ 1001 by omega) (by decide)
      have t5 := t4.trans (same_new (o := .lst ([V.str y] ++ (ws.take (regsF g)).map fun z => oV (regL (tl z)))) n2)
      have el5 := (same_new (o := .lst ([V.str y] ++ (ws.take (regsF g)).map fun z => oV (regL (tl z)))) n2) _ _ (s4 _ _ el3)
      have ef5 : (upd H4 l2 (.lst ([V.str y] ++ (ws.take (regsF g)).map fun z => oV (regL (tl z))))) l2 = some (.lst ([V.str y] ++ (ws.take (regsF g)).map fun z => oV (regL (tl z)))) := upd_same
      generalize upd H4 l2 (.lst ([V.str y] ++ (ws.take (regsF g)).map fun z => oV (regL (tl z)))) = H5 at t5 el5 ef5
      refine ⟨_, rfl, _, rfl, _, rfl, _, _, rfl, rfl, _, rfl, l, _, rfl, .inl (.inl el5), fun p2 np2 => ?_⟩
      have hcut2 : cutV ((y :: ws).map V.str) (some (1 + (regsF g : Int))) none = (ws.drop (regsF g)).map V.str := by
        rw [List.map_drop]
        exact cut_end _ _ _
      rw [hcut2]
      have t6 := t5.trans (same_new (o := .lst ((ws.drop (regsF g)).map V.str)) np2)
      have ef6 := (same_new (o := .lst ((ws.drop (regsF g)).map V.str)) np2) _ _ ef5
      have ep6 : (upd H5 p2 (.lst ((ws.drop (regsF g)).map V.str))) p2 = some (.lst ((ws.drop (regsF g)).map V.str)) := upd_same
      generalize upd H5 p2 (.lst ((ws.drop (regsF g)).map V.str)) = H6 at t6 ef6 ep6
      refine ⟨p2, rfl, ⟨_, .inl (.inl ep6)⟩, fun D2 nD2 => lc_map (te := tCall spIntIn [] E0 (tCons (tVar 4) tNil)) (R := fun j x => ((ws.drop (regsF g)).map V.str)[j]? = some x) (out := (ws.drop (regsF g)).map fun z => oV (intL (tl z))) walk_list yat nD2 (fun H2 s2 => s2.seq (.inl (.inl ep6))) (by simp) ?_ (fun _ => rfl) ?_ ?_⟩
      · rw [List.length_map, List.length_drop]
        exact Nat.lt_of_le_of_lt (show ws.length - regsF g ≤ 1000 by omega) (by decide)
      · intro j x y' H7 hx hy' s7 Q' hQ
        obtain ⟨z, hz', rfl⟩ := getElem_map_f hx
        obtain rfl := map_at hz' hy'
        exact ⟨_, rfl, z, rfl, Nat.le_trans (hwl z (List.mem_cons_of_mem _ (List.mem_of_mem_drop (List.mem_of_getElem? hz')))) (by decide), hQ⟩
      intro H7 s7 eD7
      have t7 := t6.trans s7
      refine ⟨l2, D2, _, _, rfl, rfl, s7 _ _ ef6, eD7, ?_, fun l3 n3 => ?_⟩
      · rw [List.length_append, List.length_map, List.length_map, List.length_take, List.length_drop, List.length_singleton]
        exact Nat.le_trans (show 1 + min (regsF g) ws.length + (ws.length - regsF g) ≤ 2001 by omega) (by decide)
      have eall : ([V.str y] ++ (ws.take (regsF g)).map fun z => oV (regL (tl z))) ++ ((ws.drop (regsF g)).map fun z => oV (intL (tl z))) = insV y (((ws.map tl).take (regsF g)).map regL ++ ((ws.map tl).drop (regsF g)).map intL) := by
        unfold insV
        rw [List.map_append, ← List.map_take, ← List.map_drop, List.map_map, List.map_map, List.map_map, List.map_map]
        rfl
      rw [eall]
      have hh : heard (ws.map tl) g = if okV g (((ws.map tl).take (regsF g)).map regL ++ ((ws.map tl).drop (regsF g)).map intL) = true then some (((ws.map tl).take (regsF g)).map regL ++ ((ws.map tl).drop (regsF g)).map intL) else none := rfl
      have hxl : (((ws.map tl).take (regsF g)).map regL ++ ((ws.map tl).drop (regsF g)).map intL).length ≤ 10000 := by
        rw [List.length_append, List.length_map, List.length_map, List.length_take, List.length_drop, List.length_map]
        omega
      generalize ((ws.map tl).take (regsF g)).map regL ++ ((ws.map tl).drop (regsF g)).map intL = xs at hh hxl
      have t8 := t7.trans (same_new (o := .lst (insV y xs)) n3)
      have ef8 : (upd H7 l3 (.lst (insV y xs))) l3 = some (.lst (insV y xs)) := upd_same
      generalize upd H7 l3 (.lst (insV y xs)) = H8 at t8 ef8
      refine ⟨_, rfl, l3, _, rfl, .inl ⟨.inl (.inl ef8), fun q3 nq3 => ?_⟩⟩
      have t9 := t8.trans (same_new (o := .tup (insV y xs)) nq3)
      have ef9 := (same_new (o := .tup (insV y xs)) nq3) _ _ ef8
      refine ⟨q3, y, xs, g, rfl, .inl (.inl upd_same), hy, hxl, fun H10 s10 => ⟨_, rfl, ?_⟩⟩
      have t10 := t9.trans s10
      cases hok : okV g xs with
      | false =>
        rw [hok] at hh
        rw [hh] at hinst
        exact iteF (q0 hinst _ t10)
      | true =>
        rw [hok] at hh
        rw [hh] at hinst
        refine iteT ⟨_, rfl, l3, _, rfl, .inl ⟨.inl (.inl (s10 _ _ ef9)), fun q4 nq4 => ?_⟩⟩
        exact q1 y xs hinst _ q4 (t10.trans (same_new nq4)) upd_same

/-! ### text_of -/
theorem scTextOf : FnScope ["instruction"] ["instruction"] (defScope sTextOf) := ⟨rfl, rfl, rfl, by decide +kernel, rfl, by decide +kernel, by decide +kernel⟩
theorem ok_textOf {f : Addr} {fd : FuncData} (F : Fun K "text_of" "text_of" sTextOf f fd) (cL : Cal P w K mg base CX0 1 "listing_text" ["instruction"] (spTextI K)) (cW : Cal P w K mg base CX0 4 "want_instruction" ["value"] (spWantI K)) :
    FnOk P w K mg base CX0 5 f fd ["instruction"] (spTextI K) := by
  obtain ⟨fL, fdL, mL, kL, bL, GL⟩ := cL
  obtain ⟨fW, fdW, mW, kW, bW, GW⟩ := cW
  refine F.ok scTextOf (fun vs H Q E h => ?_) (fun cdv A outer s H vs Q E hr h => ?_)
  · obtain ⟨p, y, xs, g, rfl, _⟩ := h
    rfl
  · obtain ⟨p, y, xs, g, rfl, hT, hg, hok, q⟩ := h
    have hr1 : Room 1 _ := hr.mono (by decide)
    refine ⟨_, pss_one (ps_ret (pe_call GL hr1 (by rfl) mL kL bL .nil pass0 (pa_cons (pe_call GW hr (by rfl) mW kW bW .nil pass0 (pa_cons (pv 0) pa_nil)) pa_nil))), ?_⟩
    have hT2 : SqT K H p (insV y (xs.map some)) := by
      rw [insV_some]
      exact hT
    have hl : (xs.map some).length ≤ 10000 := by
      rw [List.length_map]
      exact Nat.le_trans (xs_len hok) (by decide)
    exact ⟨_, rfl, p, y, xs.map some, g, rfl, hT2, hg, hl, hok.okV, fun H1 s1 => ⟨p, y, xs, g, rfl, s1.tup hT, hg, hok, fun H2 s2 => q _ (s1.trans s2)⟩⟩
end
end K18

/-! CoreError.__init__, instruction_of, _law_heard. -/
namespace K18
open PySem PySem.Spec PyProof.Rows L2 TL
/-- InvalidListing, at C: an own error whose __init__, at fI, is CoreError's -/
structure Err (K : PySem.W.Frag) (mg : Str → Option Value) (C : Addr) : Prop where
  at_ : mg "InvalidListing" = some (.ref C)
  ox : OexC K C
  noV : PySem.W.findIn K (.ref C) "value" = some none
  ini : ∃ (fI : Addr) (fd : FuncData), PySem.W.findIn K (.ref C) "__init__" = some (some (.ref fI)) ∧ PySem.W.typeIn K (.ref fI) = some (.type "function") ∧ Fun K "__init__" "CoreError.__init__" sInit fI fd
  te : PySem.W.exmOne K (.ref C) (.ref C) = some true
def spInit (K : PySem.W.Frag) (C : Addr) : Sp := fun vs H Q _ => ∃ (a : Addr) (v : V), vs = [.ref a, v] ∧ H a = some (exo a C none) ∧ ∀ dx, H dx = none → dx ≠ a → Q .non (upd (upd H dx (exd dx [("value", v)])) a (exo a C (some dx)))
section
variable {P : Program} {w : World} {K : PySem.W.Frag} {mg : Str → Option Value} {base : Heap}
theorem scInit : FnScope ["self", "value"] ["self", "value"] (defScope sInit) := ⟨rfl, rfl, rfl, by decide +kernel, rfl, by decide +kernel, by decide +kernel⟩
theorem ok_init {C f : Addr} {fd : FuncData} (X : Err K mg C) (F : Fun K "__init__" "CoreError.__init__" sInit f fd) : FnOk P w K mg base CX0 1 f fd ["self", "value"] (spInit K C) := by
  refine F.ok scInit (fun vs H Q E h => ?_) (fun cdv A outer s H vs Q E hr h => ?_)
  · obtain ⟨a, v, rfl, _⟩ := h
    rfl
  · obtain ⟨a, v, rfl, ha, q⟩ := h
    refine ⟨_, pss_one (ps_ost (pv 0) (pv 1)), ?_⟩
    exact ⟨_, rfl, _, rfl, a, C, rfl, X.ox, X.noV, .inl ⟨ha, q⟩⟩

/-! ### instruction_of -/
theorem scInstOf : FnScope ["text", "found"] ["text"] (defScope sInstOf) := ⟨rfl, rfl, rfl, by decide +kernel, rfl, by decide +kernel, by decide +kernel⟩
theorem ok_instOf {C : Addr} (X : Err K mg C) {f : Addr} {fd : FuncData} (F : Fun K "instruction_of" "instruction_of" sInstOf f fd) (cL : Cal P w K mg base CX0 4 "listing_instruction" ["text"] spReader) :
    FnOk P w K mg base (L2.CX P w) 5 f fd ["text"] (spInstOf C) := by
  obtain ⟨fL, fdL, mL, kL, bL, GL⟩ := cL
  obtain ⟨fI, fdI, iC, tI, FI⟩ := X.ini
  have GI : FnOk P w K mg base CX0 1 fI fdI ["self", "value"] (spInit K C) := ok_init X FI
  have bI : Binds K fdI ["self", "value"] [] := FI.binds fun _ _ _ _ _ _ us hl => match us, hl with | [_, _], _ => rfl
  refine F.okX scInstOf (fun vs H Q E h => ?_) (fun cdv A outer s H vs Q E hr h => ?_)
  · obtain ⟨t, rfl, _⟩ := h
    rfl
  · obtain ⟨t, rfl, hz, q0, q1⟩ := h
    have hr2 : Room 2 _ := hr.mono (by decide)
    refine ⟨_, pss_cons (ps_set (i := 1) scInstOf.nd rfl (.inl rfl) (pe_call GL hr (by rfl) mL kL bL .nil pass0 (pa_cons (pv 0) pa_nil)))
      (pss_cons (ps_if (pt_cmpR op_isN (pv 1) pe_non (nomark _)) (pss_one (ps_raise rfl (takes_of rfl rfl rfl rfl) (pmk_oex X.ox iC tI GI hr2 bI .nil pass0 (by rfl) X.at_ (pa_cons (pv 0) pa_nil)))) pss_nil)
      (pss_one (ps_ret (pv 1)))), ?_⟩
    refine ⟨_, rfl, t, rfl, hz, fun hn H1 s1 => ?_, fun y xs hs H1 p s1 ep => ?_⟩
    · refine ⟨_, rfl, rfl, _, rfl, itT rfl ?_⟩
      refine ⟨_, rfl, (show 1 ≤ 1000 by decide), fun a na => ?_⟩
      refine ⟨a, _, rfl, upd_same, fun dx nd ne => ?_⟩
      have n1 : H1 dx = none := by
        rw [upd_ne ne] at nd
        exact nd
      refine ⟨rfl, dx, _, upd_same, by rw [upd_ne ne, upd_same], n1, q0 hn _ _ (s1.trans fun b o e => ?_)⟩
      have nba := ne_of_none e na
      rw [upd_ne (ne_of_none e n1), del_ne nba, upd_ne nba, upd_ne (ne_of_none e n1), upd_ne nba]
      exact e
    · exact ⟨_, rfl, rfl, _, rfl, itF rfl ⟨_, rfl, q1 y xs hs _ p s1 ep⟩⟩

/-! ### _law_heard -/
theorem scHeard : FnScope ["_law_text_here", "_law_told"] ["_law_text_here"] (defScope sHeard) := ⟨rfl, rfl, rfl, by decide +kernel, rfl, by decide +kernel, by decide +kernel⟩
theorem ok_heard {C : Addr} (X : Err K mg C) (a : At K mg "_law_heard" sHeard) {fO : Addr} {fdO : FuncData} (mO : mg "instruction_of" = some (.ref fO)) (FO : Fun K "instruction_of" "instruction_of" sInstOf fO fdO)
    (GO : FnOk P w K mg base (L2.CX P w) 5 fO fdO ["text"] (spInstOf C)) : Cal P w K mg base CX0 6 "_law_heard" ["_law_text_here"] spReader := by
  refine a.cal (fun _ _ _ _ _ _ us hl => match us, hl with | [_], _ => rfl) fun f fd m F => ?_
  have bO : KBinds K fdO ["text"] ["text"] kwOnly kwOnly := kbind1 FO fun _ _ _ _ _ _ _ => rfl
  refine F.ok scHeard (fun vs H Q E h => ?_) (fun cdv A outer s H vs Q E hr h => ?_)
  · obtain ⟨t, rfl, _⟩ := h
    rfl
  · obtain ⟨t, rfl, hz, q0, q1⟩ := h
    refine ⟨_, pss_cons (ps_set (i := 1) scHeard.nd rfl (.inl rfl) pe_non)
      (pss_cons (ps_try_only (tb := fun W => tAsg (tCallKS (spInstOf C) kwOnly (WE W) (tCons (tVar 0) tNil)) (gName 1)) (ts := fun _ _ _ => tAsg (tC .non) (gName 1)) (Wout := fun _ _ _ _ => False) rfl rfl ⟨rfl, by decide, .inl X.at_⟩ takes0
        (fun W pn xe tk _ => pss_one (ps_set (i := 1) scHeard.nd rfl (.inl rfl) (by exact (pe_callKS GO hr (by rfl) mO FO.kp bO (fun σ => passAt tk σ) (by exact (pk_cons (pv 0) pk_nil))))))
        (fun a oe cls d pn hz hf => pss_one (ps_set (i := 1) scHeard.nd rfl (.inl rfl) pe_non)))
      (pss_one (ps_ret (pv 1)))), ?_⟩
    refine ⟨_, rfl, t, rfl, hz, fun hn d H1 s1 => ⟨true, X.te, fun _ a na => ?_, fun z => nomatch z⟩, fun y xs hs H1 p s1 ep => ?_⟩
    · exact ⟨_, rfl, q0 hn _ s1⟩
    · exact ⟨_, rfl, q1 y xs hs _ p s1 ep⟩
end
end K18

/-! _law_pot, _law_draw, _law_pick. -/
namespace K18
open PySem PySem.Spec PyProof.Rows L2 TL
section
variable {P : Program} {w : World} {K : PySem.W.Frag} {mg : Str → Option Value} {base : Heap}
theorem pe_weak {X : Cx} {e : Expr} {t t' : TE} (h : PE X e t) (k : ∀ σ H Q, t' σ H Q → t σ H Q) : PE X e t' := ⟨fun pins s σ H Q I q => h.run pins s σ H Q I (k σ H Q q)⟩

/-! ### _law_pot -/
theorem scPot : FnScope ["_law_script", "_law_k", "_law_cell"] ["_law_script", "_law_k"] (defScope sPot) := ⟨rfl, rfl, rfl, by decide +kernel, rfl, by decide +kernel, by decide +kernel⟩
/-- the cell: some number that is not below 0 -/
def tCell (K : PySem.W.Frag) : TE := fun σ H Q => ∃ (a : Addr) (ns : List Int), σ[0]? = some (some (.ref a)) ∧ σ[1]? = some (some (.int 0)) ∧ SqL K H a (ns.map V.int) ∧ ∀ c : Int, 0 ≤ c → Q (.int c) H
theorem ok_pot (T : Txt K w mg) (a : At K mg "_law_pot" sPot) : Cal P w K mg base CX0 1 "_law_pot" ["_law_script", "_law_k"] (spPot K) := by
  refine a.cal (fun _ _ _ _ _ _ us hl => match us, hl with | [_, _], _ => rfl) fun f fd m F => ?_
  refine F.ok scPot (fun vs H Q E h => ?_) (fun cdv A outer s H vs Q E hr h => ?_)
  · obtain ⟨p, ns, rfl, _⟩ := h
    rfl
  · obtain ⟨p, ns, rfl, hS, hl, q⟩ := h
    refine ⟨_, pss_cons (ps_set (i := 2) scPot.nd rfl (.inl rfl) (pe_weak (t' := tCell K) (pe_ifExp (pt_cmpR op_lt (pv 1) (pe_callB call_len_seq (by rfl) T.len PySem.boot_len (pa_cons (pv 0) pa_nil)) (nomark _))
        (pe_callB call_abs (by rfl) T.abs (by decide +kernel) (pa_cons (pe_ix ix_list (pv 0) (pv 1) (fun _ _ => rfl)) pa_nil)) (pe_op op_add (pe_op op_mul pe_int (pv 1)) pe_int)) ?_))
      (pss_one (ps_ret (pe_lst (pa_cons (pe_callB (call_max2 rfl) (by rfl) T.max (by decide +kernel) (pa_cons pe_int (pa_cons (pe_op op_sub (pv 2) (pe_op op_pow pe_int pe_int)) pa_nil)))
        (pa_cons (pe_op op_add (pe_op op_mod (pe_callTy call_int1 (by rfl) T.int (by decide +kernel) (pa_cons (pe_op op_add (pe_op op_add (pe_op op_mul (pe_op op_mod (pe_callTy call_int1 (by rfl) T.int (by decide +kernel) (pa_cons (pv 2) pa_nil)) pe_int) pe_int) (pe_op op_mul pe_int (pv 1))) pe_int) pa_nil)) pe_int) pe_int) pa_nil))))), ?_⟩
    · rintro σ H1 Q1 ⟨b, ms, e1, e2, h1, q1⟩
      refine ⟨_, e2, _, e1, b, _, rfl, .inl h1, _, _, rfl, rfl, _, rfl, ?_⟩
      cases ms with
      | nil => exact itF (by simp) ⟨_, e2, _, _, rfl, rfl, .inl ⟨by decide, by decide⟩, _, _, rfl, rfl, q1 _ (by decide)⟩
      | cons n r =>
        refine itT (by simp) ⟨_, e1, _, e2, b, _, _, _, rfl, rfl, h1, atI_nat (j := 0) rfl, _, rfl, q1 _ ?_⟩
        split <;> omega
    · refine ⟨p, ns, rfl, rfl, hS, fun c hc => ?_⟩
      refine ⟨_, rfl, _, _, rfl, rfl, ⟨by decide, by decide, by decide⟩, _, _, rfl, rfl, _, _, rfl, ?_⟩
      have hx : 0 ≤ (if c - 10 ^ Int.toNat 18 > 0 then c - 10 ^ Int.toNat 18 else 0) := by
        split <;> omega
      generalize (if c - 10 ^ Int.toNat 18 > 0 then c - 10 ^ Int.toNat 18 else 0) = x at hx
      have m1 := Int.emod_nonneg c (show (2147483579 : Int) ≠ 0 by decide)
      have m2 := Int.emod_lt_of_pos c (show (0 : Int) < 2147483579 by decide)
      refine ⟨_, rfl, .inl ⟨_, rfl, _, _, rfl, rfl, (by decide : (0 : Int) < 2147483579), _, _, rfl, rfl, .inl ⟨by omega, by omega⟩, _, rfl, _, _, rfl, rfl, .inl ⟨by decide, by decide⟩, _, _, rfl, rfl, _, _, rfl, rfl,
        .inl ⟨_, rfl, _, _, rfl, rfl, (by decide : (0 : Int) < 2147483529), _, _, rfl, rfl, (by show 2 ≤ sizeLine; decide), fun l nl => ?_⟩⟩⟩
      generalize c % 2147483579 * 41351 + 6991 * 0 + 709 = y
      have m3 := Int.emod_nonneg y (show (2147483529 : Int) ≠ 0 by decide)
      have m4 := Int.emod_lt_of_pos y (show (0 : Int) < 2147483529 by decide)
      exact q _ l (same_new nl) ⟨_, _, hx, by omega, by omega, upd_same⟩

/-! ### _law_draw -/
theorem Kept.put {p : Addr} {H H1 : Hp} {o : HO} (k : Kept p H H1) : Kept p H (upd H1 p o) := fun b u n e => by
  rw [upd_ne n]
  exact k b u n e
theorem scDraw : FnScope ["_law_pot_here", "_law_size", "_law_digit"] ["_law_pot_here", "_law_size"] (defScope sDraw) := ⟨rfl, rfl, rfl, by decide +kernel, rfl, by decide +kernel, by decide +kernel⟩
theorem ok_draw (T : Txt K w mg) (a : At K mg "_law_draw" sDraw) : Cal P w K mg base CX0 1 "_law_draw" ["_law_pot_here", "_law_size"] spDraw := by
  refine a.cal (fun _ _ _ _ _ _ us hl => match us, hl with | [_, _], _ => rfl) fun f fd m F => ?_
  refine F.ok scDraw (fun vs H Q E h => ?_) (fun cdv A outer s H vs Q E hr h => ?_)
  · obtain ⟨p, n, rfl, _⟩ := h
    rfl
  · obtain ⟨p, n, rfl, ⟨x, y, x0, y0, y1, hp⟩, n1, n2, q⟩ := h
    refine ⟨_, pss_cons (ps_if (pt_cmpR op_gt (pe_ix ix_list (pv 0) pe_int (fun _ _ => rfl)) pe_int (nomark _))
        (pss_cons (ps_asg (pe_callB call_divmod (by rfl) T.divmod (by decide +kernel) (pa_cons (pe_ix ix_list (pv 0) pe_int (fun _ _ => rfl)) (pa_cons (pv 1) pa_nil)))
          (pg_tup rfl (pgs_cons (pg_sub (pv 0) pe_int set_list) (pgs_cons (pg_name (i := 2) scDraw.nd rfl (.inl rfl)) pgs_nil))))
        (pss_one (ps_ret (pv 2)))) pss_nil)
      (pss_cons (ps_asg (pe_op op_mod (pe_callTy call_int1 (by rfl) T.int (by decide +kernel) (pa_cons (pe_op op_add (pe_op op_mul (pe_ix ix_list (pv 0) pe_int (fun _ _ => rfl)) pe_int) pe_int) pa_nil)) pe_int) (pg_sub (pv 0) pe_int set_list))
      (pss_one (ps_ret (pe_op op_mod (pe_callTy call_int1 (by rfl) T.int (by decide +kernel) (pa_cons (pe_op op_fdiv (pe_op op_mod (pe_callTy call_int1 (by rfl) T.int (by decide +kernel) (pa_cons (pe_op op_mul (pe_ix ix_list (pv 0) pe_int (fun _ _ => rfl)) (pe_ix ix_list (pv 0) pe_int (fun _ _ => rfl))) pa_nil)) pe_int) pe_int) pa_nil)) (pv 1))))), ?_⟩
    have dpos : ∀ z : Int, 0 ≤ z % n ∧ z % n < n := fun z => ⟨Int.emod_nonneg z (by omega), Int.emod_lt_of_pos z (by omega)⟩
    refine ⟨_, rfl, p, _, _, _, rfl, rfl, .inl (.inl hp), atI_nat (j := 0) rfl, _, _, rfl, rfl, _, rfl, ?_⟩
    by_cases hx : x > 0
    · refine itT (decide_eq_true hx) ?_
      refine ⟨_, rfl, p, _, _, _, rfl, rfl, .inl (.inl hp), atI_nat (j := 0) rfl, _, rfl, _, _, rfl, ⟨by omega, by omega⟩, fun t nt => ?_⟩
      have ntp : p ≠ t := ne_of_none hp nt
      refine ⟨t, _, rfl, .inl (.inl upd_same), rfl, _, _, rfl, _, rfl, p, _, 0, 0, rfl, rfl, ((same_new nt) _ _ hp), rfl, _, _, rfl, rfl, ?_⟩
      refine ⟨_, rfl, q _ _ (Kept.put (.of (same_new nt))) ⟨_, _, Int.ediv_nonneg x0 (by omega), y0, y1, upd_same⟩ (dpos x).1 (dpos x).2⟩
    · refine itF (decide_eq_false hx) ?_
      refine ⟨_, rfl, p, _, _, _, rfl, rfl, .inl (.inl hp), atI_nat (j := 1) rfl, _, _, rfl, rfl, .inl ⟨by omega, by omega⟩, _, _, rfl, rfl, .inl ⟨_, rfl, _, _, rfl, rfl, (by decide : (0 : Int) < 2147483529), ?_⟩⟩
      generalize y * 40739 + 31193 = y2
      have m3 := Int.emod_nonneg y2 (show (2147483529 : Int) ≠ 0 by decide)
      have m4 := Int.emod_lt_of_pos y2 (show (0 : Int) < 2147483529 by decide)
      refine ⟨_, rfl, p, _, 1, 1, rfl, rfl, hp, rfl, ?_⟩
      have hp2 : (upd H p (.lst [.int x, .int (y2 % 2147483529)])) p = some (.lst [.int x, .int (y2 % 2147483529)]) := upd_same
      refine ⟨_, rfl, p, _, _, _, rfl, rfl, .inl (.inl hp2), atI_nat (j := 1) rfl, _, rfl, p, _, _, _, rfl, rfl, .inl (.inl hp2), atI_nat (j := 1) rfl, _, _, rfl, rfl, .inl ⟨by omega, by omega⟩,
        .inl ⟨_, rfl, _, _, rfl, rfl, (by decide : (0 : Int) < 2147483579), _, _, rfl, rfl, ⟨by decide, by decide⟩, .inl ⟨_, rfl, _, rfl, _, _, rfl, rfl, (by omega : 0 < n), ?_⟩⟩⟩
      exact q _ _ (Kept.put (.refl _ _)) ⟨_, _, x0, by omega, by omega, upd_same⟩ (dpos _).1 (dpos _).2

/-! ### _law_pick -/
theorem scPick : FnScope ["_law_pot_here", "_law_some"] ["_law_pot_here", "_law_some"] (defScope sPick) := ⟨rfl, rfl, rfl, by decide +kernel, rfl, by decide +kernel, by decide +kernel⟩
theorem ok_pick (T : Txt K w mg) (a : At K mg "_law_pick" sPick) (cD : Cal P w K mg base CX0 1 "_law_draw" ["_law_pot_here", "_law_size"] spDraw) : Cal P w K mg base CX0 2 "_law_pick" ["_law_pot_here", "_law_some"] spPick := by
  refine a.cal (fun _ _ _ _ _ _ us hl => match us, hl with | [_, _], _ => rfl) fun f fd m F => ?_
  obtain ⟨fD, fdD, mD, kD, bD, GD⟩ := cD
  refine F.ok scPick (fun vs H Q E h => ?_) (fun cdv A outer s H vs Q E hr h => ?_)
  · obtain ⟨p, l, xs, rfl, _⟩ := h
    rfl
  · obtain ⟨p, l, xs, rfl, hP, hL, nlp, h1, h2, q⟩ := h
    refine ⟨_, pss_one (ps_ret (pe_ix ix_list (pv 1) (pe_call GD hr (by rfl) mD kD bD .nil pass0 (pa_cons (pv 0) (pa_cons (pe_callB call_len_seq (by rfl) T.len PySem.boot_len (pa_cons (pv 1) pa_nil)) pa_nil))) (fun _ _ => rfl))), ?_⟩
    refine ⟨_, rfl, _, rfl, _, rfl, l, _, rfl, .inl (.inl (.inl hL)), p, _, rfl, hP, by omega, by omega, fun H1 d k1 P1 d0 d1 => ?_⟩
    obtain ⟨j, rfl⟩ := Int.eq_ofNat_of_zero_le d0
    have hj : j < xs.length := by omega
    exact ⟨l, xs, _, xs[j], rfl, rfl, .inl (.inl (k1 _ _ nlp hL)), atI_nat (List.getElem?_eq_getElem hj), q _ _ k1 P1 (List.getElem_mem hj)⟩
end
end K18

/-! _law_names, _law_form, _law_shape. -/
namespace K18
open PySem PySem.Spec PyProof.Rows L2 TL
section
variable {P : Program} {w : World} {K : PySem.W.Frag} {mg : Str → Option Value} {base : Heap}

/-! ### _law_names -/
/-- written texts, one behind the other -/
def tTexts (zs : List Str) : TA := fun _ H Q => Q (zs.map V.str) H
theorem pa_text {X : Cx} {z : Str} {zs : List Str} {es : List Expr} {j : Nat} {p : Pos} (h : PA X es (tTexts zs)) (hs : starEach (.Constant (.str z) j p :: es) X.env = (false, eval (.Constant (.str z) j p) X.env) :: starEach es X.env := by rfl) :
    PA X (.Constant (.str z) j p :: es) (tTexts (z :: zs)) := by
  have k := pa_cons (X := X) (e := .Constant (.str z) j p) (te := tC (.str z)) pe_str h hs
  exact ⟨fun pos pins s σ H Q I q => k.run pos pins s σ H Q I q⟩
theorem pa_texts0 {X : Cx} : PA X [] (tTexts []) := ⟨fun pos pins s σ H Q I q => (pa_nil (X := X)).run pos pins s σ H Q I q⟩
abbrev first13 : List Str := ["add", "sub", "mul", "div", "and", "or", "xor", "shl", "shr", "low", "eq", "addi", "ld"]
abbrev last13 : List Str := ["st", "jr", "lim", "lhi", "bz", "bnz", "jal", "sys", "rdc", "wrc", "ret", "halt", "nop"]
theorem scNames : FnScope ["_law_first"] [] (defScope sNames) := ⟨rfl, rfl, rfl, by decide +kernel, rfl, by decide +kernel, by decide +kernel⟩
theorem ok_names (a : At K mg "_law_names" sNames) : Cal P w K mg base CX0 1 "_law_names" [] spNames := by
  refine a.cal (fun _ _ _ _ _ _ us hl => match us, hl with | [], _ => rfl) fun f fd m F => ?_
  refine F.ok scNames (fun vs H Q E h => ?_) (fun cdv A outer s H vs Q E hr h => ?_)
  · obtain ⟨rfl, _⟩ := h
    rfl
  · obtain ⟨rfl, q⟩ := h
    refine ⟨_, pss_cons (ps_set (i := 0) scNames.nd rfl (.inl rfl) (pe_lst (t := tTexts first13) (pa_text (pa_text (pa_text (pa_text (pa_text (pa_text (pa_text (pa_text (pa_text (pa_text (pa_text (pa_text (pa_text pa_texts0)))))))))))))))
      (pss_one (ps_ret (pe_op op_cat (pv 0) (pe_lst (t := tTexts last13) (pa_text (pa_text (pa_text (pa_text (pa_text (pa_text (pa_text (pa_text (pa_text (pa_text (pa_text (pa_text (pa_text pa_texts0))))))))))))))))), ?_⟩
    refine ⟨(show 13 ≤ sizeLine by decide), fun l1 n1 => ?_⟩
    have t1 := same_new (H := H) (o := .lst (first13.map V.str)) n1
    refine ⟨_, rfl, (show 13 ≤ sizeLine by decide), fun l2 n2 => ?_⟩
    have t2 := t1.trans (same_new (o := .lst (last13.map V.str)) n2)
    have e1 : (upd (upd H l1 (.lst (first13.map V.str))) l2 (.lst (last13.map V.str))) l1 = some (.lst (first13.map V.str)) := (same_new n2) _ _ upd_same
    refine ⟨l1, l2, _, _, rfl, rfl, e1, upd_same, (show 26 ≤ sizeLine by decide), fun l3 n3 => ?_⟩
    exact q _ l3 (t2.free n3) (t2.trans (same_new n3)) upd_same

/-! ### _law_shape -/
theorem scShape : FnScope ["_law_form_here"] ["_law_form_here"] (defScope sShape) := ⟨rfl, rfl, rfl, by decide +kernel, rfl, by decide +kernel, by decide +kernel⟩
theorem txt_ne {a b : Str} (h : decide (a = b) = false) : decide (V.str a = V.str b) = false := decide_eq_false fun e => of_decide_eq_false h (V.str.inj e)
theorem txt_eq {a b : Str} (h : decide (a = b) = true) : decide (V.str a = V.str b) = true := decide_eq_true (congrArg V.str (of_decide_eq_true h))
theorem ok_shape (a : At K mg "_law_shape" sShape) : Cal P w K mg base CX0 1 "_law_shape" ["_law_form_here"] spShape := by
  refine a.cal (fun _ _ _ _ _ _ us hl => match us, hl with | [_], _ => rfl) fun f fd m F => ?_
  refine F.ok scShape (fun vs H Q E h => ?_) (fun cdv A outer s H vs Q E hr h => ?_)
  · obtain ⟨g, _, rfl, _⟩ := h
    rfl
  · obtain ⟨g, hg, rfl, q⟩ := h
    refine ⟨_, pss_cons (ps_if (pt_cmpR op_eq (pv 0) pe_str (nomark _)) (pss_one (ps_ret (pe_tup (pa_cons pe_int (pa_cons pe_non (pa_cons pe_non pa_nil)))))) pss_nil)
      (pss_cons (ps_if (pt_cmpR op_eq (pv 0) pe_str (nomark _)) (pss_one (ps_ret (pe_tup (pa_cons pe_int (pa_cons (pe_un un_neg pe_int) (pa_cons pe_int pa_nil)))))) pss_nil)
      (pss_cons (ps_if (pt_cmpR op_eq (pv 0) pe_str (nomark _)) (pss_one (ps_ret (pe_tup (pa_cons pe_int (pa_cons pe_non (pa_cons pe_non pa_nil)))))) pss_nil)
      (pss_cons (ps_if (pt_cmpR op_eq (pv 0) pe_str (nomark _)) (pss_one (ps_ret (pe_tup (pa_cons pe_int (pa_cons (pe_un un_neg pe_int) (pa_cons pe_int pa_nil)))))) pss_nil)
      (pss_one (ps_ret (pe_tup (pa_cons (pe_ifExp (pt_cmpR op_eq (pv 0) pe_str (nomark _)) pe_int pe_int) (pa_cons pe_int (pa_cons (pe_ifExp (pt_cmpR op_eq (pv 0) pe_str (nomark _)) pe_int pe_int) pa_nil))))))))), ?_⟩
    have z3 : 3 ≤ sizeLine := by decide
    match g, hg with
    | 0, _ => exact ⟨_, rfl, rfl, _, rfl, itT (txt_eq (by decide +kernel)) ⟨z3, fun p np => q _ p (same_new np) upd_same⟩⟩
    | 1, _ => exact ⟨_, rfl, rfl, _, rfl, itF (txt_ne (by decide +kernel)) ⟨_, rfl, rfl, _, rfl, itT (txt_eq (by decide +kernel)) ⟨_, rfl, z3, fun p np => q _ p (same_new np) upd_same⟩⟩⟩
    | 2, _ => exact ⟨_, rfl, rfl, _, rfl, itF (txt_ne (by decide +kernel)) ⟨_, rfl, rfl, _, rfl, itF (txt_ne (by decide +kernel)) ⟨_, rfl, rfl, _, rfl, itF (txt_ne (by decide +kernel)) ⟨_, rfl, rfl, _, rfl, itF (txt_ne (by decide +kernel))
        ⟨_, rfl, rfl, _, rfl, itF (txt_ne (by decide +kernel)) ⟨_, rfl, rfl, _, rfl, itF (txt_ne (by decide +kernel)) ⟨z3, fun p np => q _ p (same_new np) upd_same⟩⟩⟩⟩⟩⟩⟩
    | 3, _ => exact ⟨_, rfl, rfl, _, rfl, itF (txt_ne (by decide +kernel)) ⟨_, rfl, rfl, _, rfl, itF (txt_ne (by decide +kernel)) ⟨_, rfl, rfl, _, rfl, itF (txt_ne (by decide +kernel)) ⟨_, rfl, rfl, _, rfl, itT (txt_eq (by decide +kernel))
        ⟨_, rfl, z3, fun p np => q _ p (same_new np) upd_same⟩⟩⟩⟩⟩
    | 4, _ => exact ⟨_, rfl, rfl, _, rfl, itF (txt_ne (by decide +kernel)) ⟨_, rfl, rfl, _, rfl, itF (txt_ne (by decide +kernel)) ⟨_, rfl, rfl, _, rfl, itF (txt_ne (by decide +kernel)) ⟨_, rfl, rfl, _, rfl, itF (txt_ne (by decide +kernel))
        ⟨_, rfl, rfl, _, rfl, itT (txt_eq (by decide +kernel)) ⟨_, rfl, rfl, _, rfl, itF (txt_ne (by decide +kernel)) ⟨z3, fun p np => q _ p (same_new np) upd_same⟩⟩⟩⟩⟩⟩⟩
    | 5, _ => exact ⟨_, rfl, rfl, _, rfl, itF (txt_ne (by decide +kernel)) ⟨_, rfl, rfl, _, rfl, itF (txt_ne (by decide +kernel)) ⟨_, rfl, rfl, _, rfl, itF (txt_ne (by decide +kernel)) ⟨_, rfl, rfl, _, rfl, itF (txt_ne (by decide +kernel))
        ⟨_, rfl, rfl, _, rfl, itF (txt_ne (by decide +kernel)) ⟨_, rfl, rfl, _, rfl, itT (txt_eq (by decide +kernel)) ⟨z3, fun p np => q _ p (same_new np) upd_same⟩⟩⟩⟩⟩⟩⟩
    | 6, _ => exact ⟨_, rfl, rfl, _, rfl, itF (txt_ne (by decide +kernel)) ⟨_, rfl, rfl, _, rfl, itF (txt_ne (by decide +kernel)) ⟨_, rfl, rfl, _, rfl, itT (txt_eq (by decide +kernel)) ⟨z3, fun p np => q _ p (same_new np) upd_same⟩⟩⟩⟩
    | n + 7, h => exact absurd h (by omega)
end
end K18

/-! _law_form. -/
namespace K18
open PySem PySem.Spec PyProof.Rows L2 TL
section
variable {P : Program} {w : World} {K : PySem.W.Frag} {mg : Str → Option Value} {base : Heap}
abbrev nForm : List Str := ["_law_name", "_law_at", "_law_forms", "_law_most", "_law_form_here"]
theorem scForm : FnScope nForm ["_law_name"] (defScope sForm) := ⟨rfl, rfl, rfl, by decide +kernel, rfl, by decide +kernel, by decide +kernel⟩
/-- the law's table: below which place which form -/
def tab : List (Int × Str) := [(11, "three"), (15, "near"), (17, "byte"), (20, "far"), (21, "call"), (23, "control"), (26, "bare")]
def chosen (i : Int) (k : Nat) : List V := ((tab.take k).filter fun x => decide (i < x.1)).map fun x => V.str x.2
theorem chosen_first : ∀ k : Fin 26, (chosen (k.val : Int) 7)[0]? = some (V.str (formName (formI k.val))) := by decide +kernel
theorem names_len : names.length = 26 := by decide +kernel
theorem flat_strs : ∀ l : List Str, (l.map V.str).all flatV = true
  | [] => rfl
  | _ :: r => flat_strs r
theorem ok_form (a : At K mg "_law_form" sForm) (cN : Cal P w K mg base CX0 1 "_law_names" [] spNames) : Cal P w K mg base CX0 2 "_law_form" ["_law_name"] spForm := by
  refine a.cal (fun _ _ _ _ _ _ us hl => match us, hl with | [_], _ => rfl) fun f fd m F => ?_
  obtain ⟨fN, fdN, mN, kN, bN, GN⟩ := cN
  refine F.ok scForm (fun vs H Q E h => ?_) (fun cdv A outer s H vs Q E hr h => ?_)
  · obtain ⟨y, g, rfl, _⟩ := h
    rfl
  · obtain ⟨y, g, rfl, hg, q⟩ := h
    refine ⟨_, pss_cons (ps_set (i := 1) scForm.nd rfl (.inr rfl) (pe_bm PySem.F.plainAttrs_list PySem.F.slot_list_index PySem.F.type_list_index mt_index (pe_call0 GN hr (by rfl) mN kN bN .nil pass0) (pa_cons (pv 0) pa_nil)))
      (pss_cons (ps_set (i := 2) scForm.nd rfl (.inl rfl) (pe_lst (pa_cons (pe_tup (pa_cons pe_int (pa_cons pe_str pa_nil))) (pa_cons (pe_tup (pa_cons pe_int (pa_cons pe_str pa_nil))) (pa_cons (pe_tup (pa_cons pe_int (pa_cons pe_str pa_nil)))
        (pa_cons (pe_tup (pa_cons pe_int (pa_cons pe_str pa_nil))) (pa_cons (pe_tup (pa_cons pe_int (pa_cons pe_str pa_nil))) (pa_cons (pe_tup (pa_cons pe_int (pa_cons pe_str pa_nil))) (pa_cons (pe_tup (pa_cons pe_int (pa_cons pe_str pa_nil))) pa_nil)))))))))
      (pss_one (ps_ret (pe_ix ix_list (pe_lc (own := [("_law_most", 3), ("_law_form_here", 4)]) (g := gTup K 2 (gCons (gName 3) (gCons (gName 4) gNil))) (tt := tTest (tOp (rI0 fun i j => .bl (decide (i < j))) (tVar 1) (tVar 3))) rfl scForm.nd (pi_list (pv 2))
          (blkOk_by (own := [("_law_most", 3), ("_law_form_here", 4)]) (N := nForm) (sc := defScope sForm) (by decide +kernel))
          (fun _ _ _ _ _ => pg_tup rfl (pgs_cons (pg_name (i := 3) scForm.nd rfl (Or.inl rfl)) (pgs_cons (pg_name (i := 4) scForm.nd rfl (Or.inl rfl)) pgs_nil)))
          (fun _ _ _ _ _ => pts_one (pt_cmpR op_lt (pv 1) (pv 3) (nomark _))) (fun _ _ _ _ _ => pv 4)) pe_int (fun _ _ => rfl))))), ?_⟩
    obtain ⟨i, hi⟩ : ∃ i, place y = some i := by
      unfold opF at hg
      cases e : place y with
      | none =>
        rw [e] at hg
        cases hg
      | some i => exact ⟨i, rfl⟩
    have hgi : g = formI i := by
      unfold opF at hg
      rw [hi] at hg
      exact (Option.some.inj hg).symm
    have hat := place_mem hi
    have hi26 : i < 26 := by
      have k := (List.getElem?_eq_some_iff.mp hat).1
      rw [names_len] at k
      exact k
    refine ⟨rfl, fun H1 l nl t1 el => ⟨.inl ⟨rfl, _, .inl (.inl el)⟩, _, rfl, l, _, .str y, i, .str y, rfl, rfl, .inl (.inl el), rfl, flat_strs _, ?_, ?_, ?_, ?_⟩⟩
    · rw [List.getElem?_map, hat]
      rfl
    · show (y == y) = true
      exact beq_self_eq_true y
    · intro k z' hk hz'
      obtain ⟨n, hn, rfl⟩ := getElem_map_f hz'
      show (n == y) = false
      exact beq_eq_false_iff_ne.mpr (place_first hi hk hn)
    have z2 : 2 ≤ sizeLine := by decide
    refine ⟨z2, fun p0 n0 => ⟨z2, fun p1 n1 => ⟨z2, fun p2 n2 => ⟨z2, fun p3 n3 => ⟨z2, fun p4 n4 => ⟨z2, fun p5 n5 => ⟨z2, fun p6 n6 => ?_⟩⟩⟩⟩⟩⟩⟩
    have s0 := same_new (o := .tup [V.int 11, .str "three"]) n0
    have s1 := same_new (o := .tup [V.int 15, .str "near"]) n1
    have s2 := same_new (o := .tup [V.int 17, .str "byte"]) n2
    have s3 := same_new (o := .tup [V.int 20, .str "far"]) n3
    have s4 := same_new (o := .tup [V.int 21, .str "call"]) n4
    have s5 := same_new (o := .tup [V.int 23, .str "control"]) n5
    have s6 := same_new (o := .tup [V.int 26, .str "bare"]) n6
    have e6 := upd_same (H := (upd (upd (upd (upd (upd (upd H1 p0 (.tup [V.int 11, .str "three"])) p1 (.tup [V.int 15, .str "near"])) p2 (.tup [V.int 17, .str "byte"])) p3 (.tup [V.int 20, .str "far"])) p4 (.tup [V.int 21, .str "call"])) p5 (.tup [V.int 23, .str "control"]))) (a := p6) (o := .tup [V.int 26, .str "bare"])
    have e5 := s6 _ _ (upd_same (a := p5))
    have e4 := s6 _ _ (s5 _ _ (upd_same (a := p4)))
    have e3 := s6 _ _ (s5 _ _ (s4 _ _ (upd_same (a := p3))))
    have e2 := s6 _ _ (s5 _ _ (s4 _ _ (s3 _ _ (upd_same (a := p2)))))
    have e1 := s6 _ _ (s5 _ _ (s4 _ _ (s3 _ _ (s2 _ _ (upd_same (a := p1))))))
    have e0 := s6 _ _ (s5 _ _ (s4 _ _ (s3 _ _ (s2 _ _ (s1 _ _ (upd_same (a := p0)))))))
    have t2 := t1.trans (s0.trans (s1.trans (s2.trans (s3.trans (s4.trans (s5.trans s6))))))
    generalize (upd (upd (upd (upd (upd (upd (upd H1 p0 (.tup [V.int 11, .str "three"])) p1 (.tup [V.int 15, .str "near"])) p2 (.tup [V.int 17, .str "byte"])) p3 (.tup [V.int 20, .str "far"])) p4 (.tup [V.int 21, .str "call"])) p5 (.tup [V.int 23, .str "control"])) p6 (.tup [V.int 26, .str "bare"])) = H2 at e0 e1 e2 e3 e4 e5 e6 t2
    refine ⟨(show 7 ≤ sizeLine by decide), fun lf nf => ?_⟩
    have sf := same_new (o := .lst [V.ref p0, .ref p1, .ref p2, .ref p3, .ref p4, .ref p5, .ref p6]) nf
    have ef : (upd H2 lf (.lst [V.ref p0, .ref p1, .ref p2, .ref p3, .ref p4, .ref p5, .ref p6])) lf = some (.lst [V.ref p0, .ref p1, .ref p2, .ref p3, .ref p4, .ref p5, .ref p6]) := upd_same
    have t3 := t2.trans sf
    have rows : ∀ (j : Nat) (x : V), [V.ref p0, .ref p1, .ref p2, .ref p3, .ref p4, .ref p5, .ref p6][j]? = some x → ∃ (r : Int × Str) (b : Addr), tab[j]? = some r ∧ x = .ref b ∧ H2 b = some (.tup [.int r.1, .str r.2]) := by
      intro j x hx
      match j, hx with
      | 0, hx => exact ⟨(11, "three"), p0, rfl, (Option.some.inj hx).symm, e0⟩
      | 1, hx => exact ⟨(15, "near"), p1, rfl, (Option.some.inj hx).symm, e1⟩
      | 2, hx => exact ⟨(17, "byte"), p2, rfl, (Option.some.inj hx).symm, e2⟩
      | 3, hx => exact ⟨(20, "far"), p3, rfl, (Option.some.inj hx).symm, e3⟩
      | 4, hx => exact ⟨(21, "call"), p4, rfl, (Option.some.inj hx).symm, e4⟩
      | 5, hx => exact ⟨(23, "control"), p5, rfl, (Option.some.inj hx).symm, e5⟩
      | 6, hx => exact ⟨(26, "bare"), p6, rfl, (Option.some.inj hx).symm, e6⟩
    refine ⟨_, rfl, lf, rfl, ⟨_, .inl (.inl ef)⟩, fun D nD => lc_list (K := K) (a := lf) (xs := [V.ref p0, .ref p1, .ref p2, .ref p3, .ref p4, .ref p5, .ref p6])
      (fun j H4 => Same (upd H2 lf (.lst [V.ref p0, .ref p1, .ref p2, .ref p3, .ref p4, .ref p5, .ref p6])) H4 ∧ H4 D = some (.lst (chosen i j))) ⟨same_new nD, upd_same⟩ (fun j H4 _ c => c.1.seq (.inl (.inl ef))) ?_ ?_⟩
    · rintro j x H4 hx ⟨c1, c2⟩
      obtain ⟨r, b, hr1, rfl, eb⟩ := rows j x hx
      have hch : chosen i (j + 1) = if decide ((i : Int) < r.1) = true then chosen i j ++ [V.str r.2] else chosen i j := by
        unfold chosen
        rw [take_snoc hr1, List.filter_append, List.filter_cons, List.map_append]
        cases decide ((i : Int) < r.1) with
        | true => rfl
        | false =>
          rw [if_neg Bool.false_ne_true, List.filter_nil, List.map_nil, List.append_nil]
          rfl
      refine ⟨b, _, rfl, .inl (.inl (c1 _ _ (sf _ _ eb))), rfl, _, _, rfl, _, _, rfl, rfl, rfl, _, rfl, _, rfl, _, _, rfl, rfl, _, rfl, ?_⟩
      rw [hch]
      cases hc : decide ((i : Int) < r.1) with
      | true =>
        refine iteT ⟨_, rfl, _, c2, ?_, same_upd c1 nD, upd_same⟩
        unfold chosen
        rw [List.length_map]
        refine Nat.lt_of_le_of_lt (List.length_filter_le _ _) ?_
        rw [List.length_take]
        exact Nat.lt_of_le_of_lt (Nat.min_le_right _ _) (show 7 < sizeLine by decide)
      | false => exact iteF ⟨c1, c2⟩
    · rintro H4 ⟨c1, c2⟩
      have k := chosen_first ⟨i, hi26⟩
      refine ⟨D, _, _, _, rfl, rfl, .inl (.inl c2), atI_nat (j := 0) k, ?_⟩
      rw [← hgi]
      exact q _ (t3.trans c1)
end
end K18

/-! _law_drawn, _law_text. -/
namespace K18
open PySem PySem.Spec PyProof.Rows L2 TL
section
variable {P : Program} {w : World} {K : PySem.W.Frag} {mg : Str → Option Value} {base : Heap}
theorem mem_opF {y : Str} (h : y ∈ names) : ∃ f, opF y = some f := by
  unfold opF
  cases e : place y with
  | none => exact absurd h (place_none e)
  | some i => exact ⟨_, rfl⟩
theorem num_ord {f : Nat} {lo hi : Int} (h : numF f = some (lo, hi)) : lo ≤ hi ∧ hi - lo + 1 < 100000 ∧ bitF f = 1 := by
  have b : bitF f = 1 := by unfold bitF; rw [h]; rfl
  refine ⟨?_, ?_, b⟩ <;> (unfold numF at h; split at h <;> first | (injection h with h; injection h with h1 h2; subst h1; subst h2; decide) | cases h)
theorem bit0 {f : Nat} (h : numF f = none) : bitF f = 0 := by unfold bitF; rw [h]; rfl
theorem Pot.ne_none {p l : Addr} {H : Hp} (h : Pot H p) (n : H l = none) : l ≠ p := by
  obtain ⟨x, y, _, _, _, h4⟩ := h
  exact (ne_of_none h4 n).symm

/-! ### _law_drawn -/
abbrev nDrawn : List Str := ["_law_pot_here", "_law_name", "_law_registers", "_law_least", "_law_most", "_law_parts", "_law_turn", "_law_number_here"]
theorem scDrawn : FnScope nDrawn ["_law_pot_here"] (defScope sDrawn) := ⟨rfl, rfl, rfl, by decide +kernel, rfl, by decide +kernel, by decide +kernel⟩
theorem ok_drawn (T : Txt K w mg) (a : At K mg "_law_drawn" sDrawn) (cD : Cal P w K mg base CX0 1 "_law_draw" ["_law_pot_here", "_law_size"] spDraw) (cP : Cal P w K mg base CX0 2 "_law_pick" ["_law_pot_here", "_law_some"] spPick)
    (cN : Cal P w K mg base CX0 1 "_law_names" [] spNames) (cF : Cal P w K mg base CX0 2 "_law_form" ["_law_name"] spForm) (cS : Cal P w K mg base CX0 1 "_law_shape" ["_law_form_here"] spShape) :
    Cal P w K mg base CX0 3 "_law_drawn" ["_law_pot_here"] spDrawn := by
  refine a.cal (fun _ _ _ _ _ _ us hl => match us, hl with | [_], _ => rfl) fun f fd m F => ?_
  obtain ⟨fD, fdD, mD, kD, bD, GD⟩ := cD
  obtain ⟨fP, fdP, mP, kP, bP, GP⟩ := cP
  obtain ⟨fN, fdN, mN, kN, bN, GN⟩ := cN
  obtain ⟨fF, fdF, mF, kF, bF, GF⟩ := cF
  obtain ⟨fS, fdS, mS, kS, bS, GS⟩ := cS
  refine F.ok scDrawn (fun vs H Q E h => ?_) (fun cdv A outer s H vs Q E hr h => ?_)
  · obtain ⟨p, rfl, _⟩ := h
    rfl
  · obtain ⟨p, rfl, P0, q⟩ := h
    have hr1 : Room 1 _ := hr.mono (by decide)
    refine ⟨_, pss_cons (ps_set (i := 1) scDrawn.nd rfl (.inl rfl) (pe_call GP hr (by rfl) mP kP bP .nil pass0 (pa_cons (pv 0) (pa_cons (pe_call0 GN hr1 (by rfl) mN kN bN .nil pass0) pa_nil))))
      (pss_cons (ps_asg (pe_call GS hr1 (by rfl) mS kS bS .nil pass0 (pa_cons (pe_call GF hr (by rfl) mF kF bF .nil pass0 (pa_cons (pv 1) pa_nil)) pa_nil))
        (pg_tup rfl (pgs_cons (pg_name (i := 2) scDrawn.nd rfl (.inl rfl)) (pgs_cons (pg_name (i := 3) scDrawn.nd rfl (.inl rfl)) (pgs_cons (pg_name (i := 4) scDrawn.nd rfl (.inl rfl)) pgs_nil)))))
      (pss_cons (ps_set (i := 5) scDrawn.nd rfl (.inl rfl) (pe_lst pa_nil))
      (pss_cons (ps_for PassesOwn.never rfl (pi_range1 (by rfl) T.range (pa_cons (pv 2) pa_nil)) (pg_name (i := 6) scDrawn.nd rfl (Or.inl rfl))
        (pss_one (ps_expr (pe_bm PySem.F.plainAttrs_list PySem.F.slot_list_append PySem.F.type_list_append mt_append (pv 5) (pa_cons (pe_call GD hr1 (by rfl) mD kD bD .nil pass0 (pa_cons (pv 0) (pa_cons pe_int pa_nil))) pa_nil)))))
      (pss_cons (ps_if (pt_cmpR op_notN (pv 3) pe_non (nomark _))
        (pss_cons (ps_set (i := 7) scDrawn.nd rfl (.inl rfl) (pe_op op_add (pv 3) (pe_call GD hr1 (by rfl) mD kD bD .nil pass0 (pa_cons (pv 0) (pa_cons (pe_op op_add (pe_op op_sub (pv 4) (pv 3)) pe_int) pa_nil)))))
        (pss_one (ps_expr (pe_bm PySem.F.plainAttrs_list PySem.F.slot_list_append PySem.F.type_list_append mt_append (pv 5) (pa_cons (pe_call GP hr (by rfl) mP kP bP .nil pass0 (pa_cons (pv 0) (pa_cons (pe_lst (pa_cons (pv 7) (pa_cons (pv 7) (pa_cons (pv 3) (pa_cons (pv 4) pa_nil))))) pa_nil))) pa_nil))))) pss_nil)
      (pss_one (ps_ret (pe_op op_catT (pe_tup (pa_cons (pv 1) pa_nil)) (pe_callTy call_tuple_of (by rfl) T.tuple (by decide +kernel) (pa_cons (pv 5) pa_nil))))))))), ?_⟩
    refine ⟨_, rfl, rfl, fun H1 l nl t1 el => ⟨p, l, _, rfl, P0.same t1, el, P0.ne_none nl, (by rw [List.length_map]; decide +kernel), (by rw [List.length_map]; decide +kernel), fun H2 v k2 P2 hv => ?_⟩⟩
    obtain ⟨y, hy, rfl⟩ := List.mem_map.mp hv
    obtain ⟨g, hg⟩ := mem_opF hy
    have K2 : Kept p H H2 := (Kept.of t1).trans k2
    refine ⟨_, rfl, y, g, rfl, hg, fun H3 t3 => ⟨g, opF_le hg, rfl, fun H4 qr t4 eq => ?_⟩⟩
    have K4 := (K2.same t3).same t4
    have P4 := (P2.same t3).same t4
    -- what the law's row holds
    obtain ⟨lo, hi, erow, hlo⟩ : ∃ lo hi : V, lawRow g = [.int (regsF g : Int), lo, hi] ∧ ((numF g = none ∧ lo = .non) ∨ ∃ i j : Int, numF g = some (i, j) ∧ lo = .int i ∧ hi = .int j) := by
      rcases law_row g with ⟨h1, h2⟩ | ⟨i, j, h1, h2⟩
      · exact ⟨_, _, h2, .inl ⟨h1, rfl⟩⟩
      · exact ⟨_, _, h2, .inr ⟨i, j, h1, rfl, rfl⟩⟩
    rw [erow] at eq
    refine ⟨qr, _, rfl, .inl (.inl eq), rfl, _, _, rfl, _, _, rfl, _, _, rfl, rfl, ?_⟩
    refine ⟨Nat.zero_le _, fun lp np => ?_⟩
    have nlp := P4.ne_none np
    have hr8 : ((regsF g : Int)).toNat = regsF g := Int.toNat_natCast _
    have hr3 := regsF_le g
    refine ⟨_, rfl, _, rfl, by omega, by omega, for_range (n := ((regsF g : Int)).toNat) (fun j σ H' => ∃ (xs : List Int) (v6 : Option V), xs.length = j ∧ (∀ i ∈ xs, 0 ≤ i ∧ i ≤ 7) ∧
        σ = [some (.ref p), some (.str y), some (.int (regsF g : Int)), some lo, some hi, some (.ref lp), v6, none] ∧ Kept p H H' ∧ Pot H' p ∧ H' lp = some (.lst (xs.map V.int)))
      ⟨[], none, rfl, (fun i hi => nomatch hi), rfl, K4.trans (.of (same_new np)), P4.same (same_new np), upd_same⟩ ?_ ?_⟩
    · rintro j σ H' hj ⟨xs, v6, hl, hin, rfl, KK, PP, ep⟩
      refine ⟨_, rfl, .inl ⟨rfl, _, .inl (.inl ep)⟩, _, rfl, p, 8, rfl, PP, by decide, by decide, fun H5 d k5 P5 d0 d8 => ?_⟩
      refine ⟨lp, _, _, rfl, rfl, k5 _ _ nlp ep, ?_, ?_⟩
      · rw [List.length_map]
        exact Nat.lt_of_le_of_lt (show xs.length ≤ 3 by omega) (by decide)
      · refine ⟨xs ++ [d], _, by rw [List.length_append, hl]; rfl, fun i hi => ?_, rfl, ?_, ?_, ?_⟩
        · rcases List.mem_append.mp hi with hi | hi
          · exact hin i hi
          · rw [List.mem_singleton.mp hi]
            omega
        · intro b o n e
          have ne : b ≠ lp := fun z => by
            have z1 : H4 lp = none := np
            have : H' b = some o := KK b o n e
            have e4 := K4 b o n e
            rw [z, z1] at e4
            cases e4
          rw [upd_ne ne]
          exact k5 _ _ n (KK b o n e)
        · obtain ⟨x1, x2, h1, h2, h3, h4⟩ := P5
          exact ⟨x1, x2, h1, h2, h3, by rw [upd_ne nlp.symm]; exact h4⟩
        · rw [upd_same, List.map_append]
          rfl
    · rintro σ H' ⟨xs, v6, hl, hin, rfl, KK, PP, ep⟩
      rw [hr8] at hl
      -- the end: the numbers zs stand in the list
      have fin : ∀ (v7 : Option V) (zs : List Int) (H5 : Hp), Okx g zs → Kept p H H5 → Pot H5 p → H5 lp = some (.lst (zs.map V.int)) →
          tRet (tOp (rCatT K) (tTup (tCons (tVar 1) tNil)) (tCB (fun xs H Q => ∃ p ys, xs = [.ref p] ∧ ((SqL K H p ys ∧ ∀ l, H l = none → Q (.ref l) (upd H l (.tup ys))) ∨ (SqT K H p ys ∧ Q (.ref p) H))) (tCons (tVar 5) tNil)))
            { nx := fun _ H' => Q .non H', rt := Q } [some (.ref p), some (.str y), some (.int (regsF g : Int)), some lo, some hi, some (.ref lp), v6, v7] H5 := by
        intro v7 zs H5 hok K5 P5 e5
        refine ⟨_, rfl, (show 1 ≤ sizeLine by decide), fun b1 n1 => ?_⟩
        have s1 := same_new (o := .tup [V.str y]) n1
        refine ⟨_, rfl, lp, _, rfl, .inl ⟨.inl (.inl (s1 _ _ e5)), fun b2 n2 => ?_⟩⟩
        have s2 := same_new (o := .tup (zs.map V.int)) n2
        have e1 := s2 _ _ (upd_same (H := H5) (a := b1) (o := .tup [V.str y]))
        have zl := xs_len hok
        refine ⟨b1, b2, _, _, rfl, rfl, .inl (.inl e1), .inl (.inl upd_same), by simp, ?_, fun hz => ?_, fun hz b3 n3 => ?_⟩
        · rw [List.length_map]
          exact Nat.le_trans (show [V.str y].length + zs.length ≤ 5 by simp; omega) (by decide)
        · have z0 : zs = [] := List.map_eq_nil_iff.mp hz
          subst z0
          exact q _ b1 y g [] ((K5.same s1).same s2) ((P5.same s1).same s2) hg hok e1
        · have s3 := same_new (o := .tup ([V.str y] ++ zs.map V.int)) n3
          exact q _ b3 y g zs (((K5.same s1).same s2).same s3) (((P5.same s1).same s2).same s3) hg hok upd_same
      rcases hlo with ⟨hn, rfl⟩ | ⟨i, j, hn, rfl, rfl⟩
      · refine ⟨_, rfl, rfl, _, rfl, itF rfl ?_⟩
        refine fin _ xs H' ⟨by rw [hl, bit0 hn]; rfl, fun i hi => hin i (List.mem_of_mem_take hi), fun b hb => ?_⟩ KK PP ep
        rw [hn] at hb
        cases hb
      · obtain ⟨ho, hs, hb1⟩ := num_ord hn
        refine ⟨_, rfl, rfl, _, rfl, itT rfl ?_⟩
        refine ⟨_, rfl, _, rfl, _, rfl, _, rfl, _, _, rfl, rfl, _, _, rfl, rfl, p, _, rfl, PP, by omega, hs, fun H5 d k5 P5 d0 d1 => ?_⟩
        refine ⟨_, _, rfl, rfl, ?_⟩
        have ep5 := k5 _ _ nlp ep
        have K5 := KK.trans k5
        refine ⟨_, rfl, .inl ⟨rfl, _, .inl (.inl ep5)⟩, _, rfl, _, rfl, _, rfl, _, rfl, _, rfl, (show 4 ≤ sizeLine by decide), fun l4 n4 => ?_⟩
        have s4 := same_new (o := .lst [V.int (i + d), .int (i + d), .int i, .int j]) n4
        refine ⟨p, l4, _, rfl, P5.same s4, upd_same, P5.ne_none n4, (show 1 ≤ 4 by decide), (show 4 ≤ 100 by decide), fun H6 v k6 P6 hv => ?_⟩
        have ep6 := k6 _ _ nlp (s4 _ _ ep5)
        have K6 := (K5.same s4).trans k6
        obtain ⟨z, rfl, hz⟩ : ∃ z : Int, v = .int z ∧ i ≤ z ∧ z ≤ j := by
          simp only [List.mem_cons, List.not_mem_nil, or_false] at hv
          rcases hv with e | e | e | e
          · exact ⟨_, e, by omega, by omega⟩
          · exact ⟨_, e, by omega, by omega⟩
          · exact ⟨_, e, by omega, by omega⟩
          · exact ⟨_, e, by omega, by omega⟩
        refine ⟨lp, _, _, rfl, rfl, ep6, ?_, ?_⟩
        · rw [List.length_map]
          exact Nat.lt_of_le_of_lt (show xs.length ≤ 3 by omega) (by decide)
        · refine fin _ (xs ++ [z]) _ ⟨by rw [List.length_append, hl, hb1]; rfl, fun i' hi' => ?_, fun b hb v' hv' => ?_⟩ ?_ ?_ ?_
          · rw [← hl, List.take_append_of_le_length (Nat.le_refl _), List.take_length] at hi'
            exact hin i' hi'
          · rw [hn] at hb
            cases hb
            rw [List.getLast?_append, List.getLast?_singleton] at hv'
            have e := Option.some.inj hv'
            subst e
            exact hz
          · intro b o n e
            have ne : b ≠ lp := fun z' => by
              have e4 := K4 b o n e
              rw [z', show H4 lp = none from np] at e4
              cases e4
            rw [upd_ne ne]
            exact K6 _ _ n e
          · obtain ⟨x1, x2, h1, h2, h3, h4⟩ := P6
            exact ⟨x1, x2, h1, h2, h3, by rw [upd_ne nlp.symm]; exact h4⟩
          · rw [upd_same, List.map_append]
            rfl
end
end K18

/-! _law_text, _law_number, _law_bent. -/
namespace K18
open PySem PySem.Spec PyProof.Rows L2 TL
section
variable {P : Program} {w : World} {K : PySem.W.Frag} {mg : Str → Option Value} {base : Heap}
/-! ### _law_text -/
abbrev nText : List Str := ["_law_told", "_law_registers", "_law_least", "_law_most", "_law_words", "_law_one"]
theorem scText : FnScope nText ["_law_told"] (defScope sText) := ⟨rfl, rfl, rfl, by decide +kernel, rfl, by decide +kernel, by decide +kernel⟩
theorem ok_text (T : Txt K w mg) (a : At K mg "_law_text" sText) (cF : Cal P w K mg base CX0 2 "_law_form" ["_law_name"] spForm) (cS : Cal P w K mg base CX0 1 "_law_shape" ["_law_form_here"] spShape) :
    Cal P w K mg base CX0 3 "_law_text" ["_law_told"] (spTextI K) := by
  refine a.cal (fun _ _ _ _ _ _ us hl => match us, hl with | [_], _ => rfl) fun f fd m F => ?_
  obtain ⟨fF, fdF, mF, kF, bF, GF⟩ := cF
  obtain ⟨fS, fdS, mS, kS, bS, GS⟩ := cS
  refine F.ok scText (fun vs H Q E h => ?_) (fun cdv A outer s H vs Q E hr h => ?_)
  · obtain ⟨p, y, xs, g, rfl, _⟩ := h
    rfl
  · obtain ⟨p, y, xs, g, rfl, hT, hg, hok, q⟩ := h
    have hr1 : Room 1 _ := hr.mono (by decide)
    refine ⟨_, pss_cons (ps_asg (pe_call GS hr1 (by rfl) mS kS bS .nil pass0 (pa_cons (pe_call GF hr (by rfl) mF kF bF .nil pass0 (pa_cons (pe_ix ix_tup (pv 0) pe_int (fun _ _ => rfl)) pa_nil)) pa_nil))
        (pg_tup rfl (pgs_cons (pg_name (i := 1) scText.nd rfl (.inl rfl)) (pgs_cons (pg_name (i := 2) scText.nd rfl (.inl rfl)) (pgs_cons (pg_name (i := 3) scText.nd rfl (.inl rfl)) pgs_nil)))))
      (pss_cons (ps_set (i := 4) scText.nd rfl (.inl rfl) (pe_op op_cat (pe_lst (pa_cons (pe_ix ix_tup (pv 0) pe_int (fun _ _ => rfl)) pa_nil))
        (pe_lc (own := [("_law_one", 5)]) (g := gName 5) (tt := tYes) rfl scText.nd (pi_tup (pe_slice sl_tup (pv 0) (po_some pe_int) (po_some (pe_op op_add pe_int (pv 1)))))
            (blkOk_by (own := [("_law_one", 5)]) (N := nText) (sc := defScope sText) (by decide +kernel)) (fun _ _ _ _ _ => pg_name (i := 5) scText.nd rfl (Or.inl rfl)) (fun _ _ _ _ _ => pts_nil)
            (fun _ _ _ _ _ => pe_op op_add_str pe_str (pe_callTy call_str_int (by rfl) T.str (by decide +kernel) (pa_cons (pv 5) pa_nil))))))
      (pss_one (ps_ret (pe_join pe_str (pe_op op_cat (pv 4) (pe_ifExp (pt_cmpR op_isN (pv 2) pe_non (nomark _)) (pe_lst pa_nil)
        (pe_lst (pa_cons (pe_callTy call_str_int (by rfl) T.str (by decide +kernel) (pa_cons (pe_ix ix_tup (pv 0) (pe_un un_neg pe_int) (fun _ _ => rfl)) pa_nil)) pa_nil)))))))), ?_⟩
    have hmem := opF_mem hg
    refine ⟨_, rfl, p, _, _, _, rfl, rfl, hT, atI_nat (j := 0) rfl, y, g, rfl, hg, fun H1 t1 => ⟨g, opF_le hg, rfl, fun H2 qr t2' eq => ?_⟩⟩
    have t2 := t1.trans t2'
    obtain ⟨lo, hi, erow, hlo⟩ : ∃ lo hi : V, lawRow g = [.int (regsF g : Int), lo, hi] ∧ ((numF g = none ∧ lo = .non) ∨ ∃ i j : Int, numF g = some (i, j) ∧ lo = .int i ∧ hi = .int j) := by
      rcases law_row g with ⟨h1, h2⟩ | ⟨i, j, h1, h2⟩
      · exact ⟨_, _, h2, .inl ⟨h1, rfl⟩⟩
      · exact ⟨_, _, h2, .inr ⟨i, j, h1, rfl, rfl⟩⟩
    rw [erow] at eq
    refine ⟨qr, _, rfl, .inl (.inl eq), rfl, _, _, rfl, _, _, rfl, _, _, rfl, rfl, ?_⟩
    refine ⟨_, rfl, p, _, _, _, rfl, rfl, t2.tup hT, atI_nat (j := 0) rfl, (show 1 ≤ sizeLine by decide), fun l1 n1 => ?_⟩
    have t3 := t2.trans (same_new (o := .lst [V.str y]) n1)
    have ef3 : (upd H2 l1 (.lst [V.str y])) l1 = some (.lst [V.str y]) := upd_same
    generalize upd H2 l1 (.lst [V.str y]) = H3 at t3 ef3
    refine ⟨_, rfl, _, rfl, _, rfl, _, _, rfl, rfl, _, rfl, p, _, rfl, t3.tup hT, not_whole 1 (by decide) (by simp), fun p1 np1 => ?_⟩
    have hcut : cutV (.str y :: xs.map V.int) (some 1) (some (1 + (regsF g : Int))) = (xs.take (regsF g)).map V.int := by
      rw [List.map_take]
      exact cut_mid _ _ _
    rw [hcut]
    have t4 := t3.trans (same_new (o := .tup ((xs.take (regsF g)).map V.int)) np1)
    have ef4 := (same_new (o := .tup ((xs.take (regsF g)).map V.int)) np1) _ _ ef3
    have ep4 : (upd H3 p1 (.tup ((xs.take (regsF g)).map V.int))) p1 = some (.tup ((xs.take (regsF g)).map V.int)) := upd_same
    generalize upd H3 p1 (.tup ((xs.take (regsF g)).map V.int)) = H4 at t4 ef4 ep4
    refine ⟨p1, rfl, ⟨_, .inl (.inl ep4)⟩, fun D nD => lc_map (te := tOp (fun x y H Q => ∃ i j : Str, x = .str i ∧ y = .str j ∧ i.length + j.length ≤ sizeLine ∧ Q (.str (i ++ j)) H) (tC (V.str "r")) (tCB (fun xs H Q => ∃ i : Int, xs = [.int i] ∧ i.natAbs.log2 < 1920 ∧ Q (.str (toString i)) H) (tCons (tVar 5) tNil)))
      (R := fun j x => ((xs.take (regsF g)).map V.int)[j]? = some x) (out := (xs.take (regsF g)).map fun i => V.str (regT i)) walk_tup yat nD (fun H2 s2 => s2.tup (.inl (.inl ep4))) (by simp) ?_ (fun _ => rfl) ?_ ?_⟩
    · have := xs_len hok
      rw [List.length_map, List.length_take]
      exact Nat.lt_of_le_of_lt (Nat.min_le_right _ _) (Nat.lt_of_le_of_lt this (by decide))
    · intro j x y' H5 hx hy s2 Q' hQ
      obtain ⟨o, ho, rfl⟩ := getElem_map_f hx
      obtain rfl := map_at ho hy
      have hin := hok.reg o (List.mem_of_getElem? ho)
      have hlen : ("r" : Str).length + (Str.ofString (toString o)).length ≤ sizeLine := by
        have k := (int_back (v := o) (by omega)).2
        have e1 : ("r" : Str).length = 1 := by decide +kernel
        rw [e1, len_tl (Str.ofString (toString o))]
        exact Nat.le_trans (show 1 + (numS o).length ≤ 5 by omega) (by decide)
      exact ⟨_, rfl, o, rfl, small_log (by omega), _, _, rfl, rfl, hlen, hQ _ (.refl _)⟩
    intro H5 s5 e5
    have t5 := t4.trans s5
    refine ⟨l1, D, _, _, rfl, rfl, s5 _ _ ef4, e5, ?_, fun l2 n2 => ?_⟩
    · have := xs_len hok
      rw [List.length_map, List.length_take, List.length_singleton]
      exact Nat.le_trans (show 1 + min (regsF g) xs.length ≤ 5 by omega) (by decide)
    have t6 := t5.trans (same_new (o := .lst ([V.str y] ++ (xs.take (regsF g)).map fun i => V.str (regT i))) n2)
    have el6 : (upd H5 l2 (.lst ([V.str y] ++ (xs.take (regsF g)).map fun i => V.str (regT i)))) l2 = some (.lst ([V.str y] ++ (xs.take (regsF g)).map fun i => V.str (regT i))) := upd_same
    generalize upd H5 l2 (.lst ([V.str y] ++ (xs.take (regsF g)).map fun i => V.str (regT i))) = H6 at t6 el6
    have eall : ([V.str y] ++ (xs.take (regsF g)).map fun i => V.str (regT i)) ++ ((xs.drop (regsF g)).map fun i => V.str (numT i)) = (y :: parts g xs).map V.str := by
      unfold parts
      rw [List.map_cons, List.map_append, List.map_map, List.map_map]
      rfl
    have zl := xs_len hok
    refine ⟨⟨_, rfl⟩, _, rfl, _, rfl, rfl, _, rfl, ?_⟩
    rcases hlo with ⟨hn, rfl⟩ | ⟨i, j, hn, rfl, rfl⟩
    · refine itT rfl ⟨Nat.zero_le _, fun l3 n3 => ?_⟩
      have s3 := same_new (o := .lst ([] : List V)) n3
      refine ⟨l2, l3, _, _, rfl, rfl, s3 _ _ el6, upd_same, ?_, fun l4 n4 => ?_⟩
      · rw [List.length_append, List.length_map, List.length_take]
        exact Nat.le_trans (show [V.str y].length + min (regsF g) xs.length + ([] : List V).length ≤ 5 by simp; omega) (by decide)
      have e0 : xs.drop (regsF g) = [] := List.drop_eq_nil_of_le (by
        have := hok.len
        rw [bit0 hn] at this
        omega)
      rw [e0, List.map_nil] at eall
      rw [eall]
      exact ⟨_, l4, y :: parts g xs, rfl, rfl, .inl (.inl (.inl upd_same)), join_size hmem hok, q _ ((t6.trans s3).trans (same_new n4))⟩
    · have hlen := hok.len
      rw [(num_ord hn).2.2] at hlen
      obtain ⟨v, ev⟩ : ∃ v, xs.drop (regsF g) = [v] := List.length_eq_one_iff.mp (by rw [List.length_drop]; omega)
      obtain ⟨b, _, _, _, _, hla⟩ := hok.last (v := v) (by rw [ev]; exact List.mem_singleton.mpr rfl)
      have hvm : v ∈ xs := List.mem_of_mem_drop (by rw [ev]; exact List.mem_singleton.mpr rfl)
      have hla2 : (V.str y :: xs.map V.int).getLast? = some (.int v) := by
        rw [List.getLast?_cons, List.getLast?_map, hla]
        rfl
      refine itF rfl ⟨_, rfl, _, rfl, p, _, _, _, rfl, rfl, t6.tup hT, getLast_atI hla2, v, rfl, small_log (hok.small hvm), (show 1 ≤ sizeLine by decide), fun l3 n3 => ?_⟩
      have s3 := same_new (o := .lst [V.str (Str.ofString (toString v))]) n3
      refine ⟨l2, l3, _, _, rfl, rfl, s3 _ _ el6, upd_same, ?_, fun l4 n4 => ?_⟩
      · rw [List.length_append, List.length_map, List.length_take]
        exact Nat.le_trans (show [V.str y].length + min (regsF g) xs.length + [V.str (Str.ofString (toString v))].length ≤ 6 by simp; omega) (by decide)
      rw [ev] at eall
      have eall2 : ([V.str y] ++ (xs.take (regsF g)).map fun i => V.str (regT i)) ++ [V.str (Str.ofString (toString v))] = (y :: parts g xs).map V.str := eall
      rw [eall2]
      exact ⟨_, l4, y :: parts g xs, rfl, rfl, .inl (.inl (.inl upd_same)), join_size hmem hok, q _ ((t6.trans s3).trans (same_new n4))⟩

/-! ### _law_bent -/
theorem scBent : FnScope ["_law_pot_here", "_law_text_here", "_law_at", "_law_way"] ["_law_pot_here", "_law_text_here"] (defScope sBent) := ⟨rfl, rfl, rfl, by decide +kernel, rfl, by decide +kernel, by decide +kernel⟩
theorem len_to (z : Str) (i : Nat) (h : i ≤ z.length) : (cutS z none (some (i : Int))).length = i := by
  rw [len_tl, cut_to, List.length_take]
  rw [len_tl] at h
  omega
theorem len_from (z : Str) (i : Nat) : (cutS z (some (i : Int)) none).length = z.length - i := by
  rw [len_tl, cut_from, List.length_drop, ← len_tl]
theorem len_add (x y : Str) : (x ++ y).length = x.length + y.length := by
  rw [len_tl, tl_append, List.length_append, ← len_tl, ← len_tl]
theorem ok_bent (T : Txt K w mg) (a : At K mg "_law_bent" sBent) (cD : Cal P w K mg base CX0 1 "_law_draw" ["_law_pot_here", "_law_size"] spDraw) (cP : Cal P w K mg base CX0 2 "_law_pick" ["_law_pot_here", "_law_some"] spPick) :
    Cal P w K mg base CX0 3 "_law_bent" ["_law_pot_here", "_law_text_here"] spBent := by
  refine a.cal (fun _ _ _ _ _ _ us hl => match us, hl with | [_, _], _ => rfl) fun f fd m F => ?_
  obtain ⟨fD, fdD, mD, kD, bD, GD⟩ := cD
  obtain ⟨fP, fdP, mP, kP, bP, GP⟩ := cP
  refine F.ok scBent (fun vs H Q E h => ?_) (fun cdv A outer s H vs Q E hr h => ?_)
  · obtain ⟨p, t, rfl, _⟩ := h
    rfl
  · obtain ⟨p, t, rfl, P0, h1, h9, q⟩ := h
    have hr1 : Room 1 _ := hr.mono (by decide)
    refine ⟨_, pss_cons (ps_par (i := 2) (j := 3) rfl scBent.nd rfl rfl (by decide) rfl rfl (pa_cons (pe_call GD hr1 (by rfl) mD kD bD .nil pass0 (pa_cons (pv 0) (pa_cons (pe_callB call_len_str (by rfl) T.len PySem.boot_len (pa_cons (pv 1) pa_nil)) pa_nil)))
          (pa_cons (pe_call GD hr1 (by rfl) mD kD bD .nil pass0 (pa_cons (pv 0) (pa_cons pe_int pa_nil))) pa_nil)) (by rfl))
      (pss_cons (ps_if (pt_cmpR op_eq (pv 3) pe_int (nomark _)) (pss_one (ps_ret (pe_op op_add_str (pe_slice sl_str (pv 1) po_none (po_some (pv 2))) (pe_slice sl_str (pv 1) (po_some (pe_op op_add (pv 2) pe_int)) po_none)))) pss_nil)
      (pss_cons (ps_if (pt_cmpR op_eq (pv 3) pe_int (nomark _)) (pss_one (ps_ret (pe_op op_add_str (pe_op op_add_str (pe_slice sl_str (pv 1) po_none (po_some (pv 2)))
          (pe_call GP hr (by rfl) mP kP bP .nil pass0 (pa_cons (pv 0) (pa_cons (pe_lst (pa_cons pe_str (pa_cons pe_str (pa_cons pe_str (pa_cons pe_str (pa_cons pe_str (pa_cons pe_str (pa_cons pe_str (pa_cons pe_str pa_nil))))))))) pa_nil))))
          (pe_slice sl_str (pv 1) (po_some (pv 2)) po_none)))) pss_nil)
      (pss_one (ps_ret (pe_op op_add_str (pe_op op_add_str (pe_slice sl_str (pv 1) po_none (po_some (pv 2)))
          (pe_call GP hr (by rfl) mP kP bP .nil pass0 (pa_cons (pv 0) (pa_cons (pe_lst (pa_cons pe_str (pa_cons pe_str (pa_cons pe_str (pa_cons pe_str (pa_cons pe_str (pa_cons pe_str (pa_cons pe_str pa_nil)))))))) pa_nil))))
          (pe_slice sl_str (pv 1) (po_some (pe_op op_add (pv 2) pe_int)) po_none)))))), ?_⟩
    have hz : t.length ≤ sizeLine := Nat.le_trans h9 (by decide)
    have big : ∀ {n : Nat}, n ≤ 1000 → n ≤ sizeLine := fun h => Nat.le_trans h (by decide)
    refine ⟨_, rfl, _, rfl, _, rfl, hz, p, _, rfl, P0, by omega, by omega, fun H1 d k1 P1 d0 d1 => ⟨_, rfl, p, 3, rfl, P1, by decide, by decide, fun H2 e k2 P2 e0 e1 => ?_⟩⟩
    obtain ⟨i, rfl⟩ := Int.eq_ofNat_of_zero_le d0
    have hi : i < t.length := by omega
    have K2 := k1.trans k2
    have es : ((i : Int) + 1) = ((i + 1 : Nat) : Int) := by omega
    refine ⟨_, _, rfl, ?_⟩
    refine ⟨_, rfl, rfl, _, rfl, ?_⟩
    rw [dec_int]
    by_cases w0 : e = 0
    · refine itT (by rw [w0]; rfl) ⟨_, rfl, _, rfl, _, rfl, t, rfl, hz, _, rfl, _, rfl, _, _, rfl, rfl, _, rfl, t, rfl, hz, ?_⟩
      refine ⟨_, _, rfl, rfl, ?_, q _ _ K2 P2 ?_⟩
      · rw [es, len_from]
        have := len_to t i (by omega)
        exact big (by rw [this]; omega)
      · rw [len_add, es, len_from, len_to t i (by omega)]
        omega
    refine itF (beq_eq_false_iff_ne.mpr w0) ?_
    refine ⟨_, rfl, rfl, _, rfl, ?_⟩
    rw [dec_int]
    by_cases w1 : e = 1
    · refine itT (by rw [w1]; rfl) ⟨_, rfl, _, rfl, _, rfl, t, rfl, hz, _, rfl, (show 8 ≤ sizeLine by decide), fun l nl => ?_⟩
      have s1 := same_new (o := .lst [V.str "0", .str "1", .str "-", .str " ", .str "r", .str "i", .str "x", .str "7"]) nl
      refine ⟨p, l, _, rfl, P2.same s1, upd_same, P2.ne_none nl, (show 1 ≤ 8 by decide), (show 8 ≤ 100 by decide), fun H3 v k3 P3 hv => ?_⟩
      obtain ⟨z, rfl, hz1⟩ : ∃ z : Str, v = .str z ∧ z.length = 1 := by
        simp only [List.mem_cons, List.not_mem_nil, or_false] at hv
        rcases hv with e | e | e | e | e | e | e | e <;> exact ⟨_, e, by decide +kernel⟩
      have K3 := (K2.same s1).trans k3
      have hto := len_to t i (by omega)
      refine ⟨_, _, rfl, rfl, ?_, _, rfl, _, rfl, _, rfl, t, rfl, hz, _, _, rfl, rfl, ?_, q _ _ K3 P3 ?_⟩
      · exact big (by rw [hto, hz1]; omega)
      · exact big (by rw [len_add, hto, hz1, len_from]; omega)
      · rw [len_add, len_add, hto, hz1, len_from]
        omega
    · refine itF (beq_eq_false_iff_ne.mpr w1) ⟨_, rfl, _, rfl, _, rfl, t, rfl, hz, _, rfl, (show 7 ≤ sizeLine by decide), fun l nl => ?_⟩
      have s1 := same_new (o := .lst [V.str "0", .str "8", .str "-", .str " ", .str "r", .str "z", .str "1"]) nl
      refine ⟨p, l, _, rfl, P2.same s1, upd_same, P2.ne_none nl, (show 1 ≤ 7 by decide), (show 7 ≤ 100 by decide), fun H3 v k3 P3 hv => ?_⟩
      obtain ⟨z, rfl, hz1⟩ : ∃ z : Str, v = .str z ∧ z.length = 1 := by
        simp only [List.mem_cons, List.not_mem_nil, or_false] at hv
        rcases hv with e | e | e | e | e | e | e <;> exact ⟨_, e, by decide +kernel⟩
      have K3 := (K2.same s1).trans k3
      have hto := len_to t i (by omega)
      refine ⟨_, _, rfl, rfl, ?_, _, rfl, _, rfl, _, _, rfl, rfl, _, rfl, t, rfl, hz, _, _, rfl, rfl, ?_, q _ _ K3 P3 ?_⟩
      · exact big (by rw [hto, hz1]; omega)
      · exact big (by rw [es, len_add, hto, hz1, len_from]; omega)
      · rw [es, len_add, len_add, hto, hz1, len_from]
        omega
end
end K18

/-! _law_number. -/
namespace K18
open PySem PySem.Spec PyProof.Rows L2 TL
section
variable {P : Program} {w : World} {K : PySem.W.Frag} {mg : Str → Option Value} {base : Heap}
abbrev nNumber : List Str := ["_law_word", "_law_digits", "_law_sign"]
theorem scNumber : FnScope nNumber ["_law_word"] (defScope sNumber) := ⟨rfl, rfl, rfl, by decide +kernel, rfl, by decide +kernel, by decide +kernel⟩
/-- xs != [] of any list xs -/
theorem op_ne_nil {X : Cx} (hu : X.A.units + 64 < cLine) : OpR X (compareOp .NotEq) (fun x y H Q => ∃ (a b : Addr) (xs : List V), x = .ref a ∧ y = .ref b ∧ SqL X.K H a xs ∧ SqL X.K H b [] ∧ Q (.bl (!xs.isEmpty)) H) := by
  intro pins s σ H x y v u Q I rx ry h
  obtain ⟨a, b, xs, rfl, rfl, ha, hb, q⟩ := h
  cases rx
  cases ry
  obtain ⟨its, r, pl, _⟩ := I.list ha
  obtain ⟨its2, r2, pl2, _⟩ := I.list hb
  cases r2
  cases r with
  | nil => exact SeqAt.RcNeAt.lists pl.isList pl2.isList rfl (by omega) (e := fun _ => true) (fun j h1 _ => absurd h1 (by simp)) _ _ _ _ ⟨.bl false, H, I, rfl, q⟩
  | cons r1 r2 => exact SeqAt.RcNeAt.lists_lengths pl.isList pl2.isList (by simp) (by omega) _ _ _ _ ⟨.bl true, H, I, rfl, q⟩
theorem fold_lt : ∀ (l : List Nat) (a : Nat), PySem.NumText.AllDigits l → l.foldl (fun acc c => acc * 10 + (c - 48)) a < (a + 1) * 10 ^ l.length
  | [], a, _ => by simp
  | c :: r, a, h => by
    have hc := h.head
    have k := fold_lt r (a * 10 + (c - 48)) h.tail
    rw [List.foldl_cons, List.length_cons, Nat.pow_succ]
    refine Nat.lt_of_lt_of_le k ?_
    have e : (a + 1) * (10 ^ r.length * 10) = ((a + 1) * 10) * 10 ^ r.length := by rw [Nat.mul_comm (10 ^ r.length) 10, Nat.mul_assoc]
    rw [e]
    exact Nat.mul_le_mul_right _ (by omega)
theorem valL_small {l : List Nat} (hd : digs (bodyL l) = true) (h4 : (bodyL l).length ≤ 4) : -10000 < valL l ∧ valL l < 10000 := by
  have A := digs_all hd
  have k : PySem.NumText.digitsVal (bodyL l) < 10 ^ 4 := by
    have z := fold_lt (bodyL l) 0 A
    unfold PySem.NumText.digitsVal
    refine Nat.lt_of_lt_of_le z ?_
    rw [Nat.zero_add, Nat.one_mul]
    exact Nat.pow_le_pow_right (by decide) h4
  unfold bodyL at k
  unfold valL
  split at k
  · rename_i h
    rw [if_pos h]
    omega
  · rename_i h
    rw [if_neg h]
    omega
theorem small_log2 {v : Int} (h : -10000 < v ∧ v < 10000) : v.natAbs.log2 < 1920 :=
  Nat.lt_trans (PySem.Flt.log2_lt_of (k := 14) (by decide) (show v.natAbs < 2 ^ 14 by omega)) (by decide)
theorem all_keep (l : List Nat) : ((l.filter fun c => !isDig c).map fun c => V.str ⟨#[c]⟩).isEmpty = digs l := by
  induction l with
  | nil => rfl
  | cons c r ih =>
    rw [List.filter_cons]
    show _ = (isDig c && digs r)
    cases isDig c with
    | true =>
      rw [Bool.true_and, ← ih]
      rfl
    | false => rfl
theorem ok_number (T : Txt K w mg) (a : At K mg "_law_number" sNumber) : Cal P w K mg base CX0 1 "_law_number" ["_law_word"] spNumber := by
  refine a.cal (fun _ _ _ _ _ _ us hl => match us, hl with | [_], _ => rfl) fun f fd m F => ?_
  refine F.ok scNumber (fun vs H Q E h => ?_) (fun cdv A outer s H vs Q E hr h => ?_)
  · obtain ⟨z, rfl, _⟩ := h
    rfl
  · obtain ⟨z, rfl, hz, q⟩ := h
    refine ⟨_, pss_cons (ps_set (i := 1) scNumber.nd rfl (.inl rfl) (pe_body (pe_ifExp (pt_cmpR op_eq (pe_slice sl_str (pv 0) po_none (po_some pe_int)) pe_str (nomark _)) (pe_slice sl_str (pv 0) (po_some pe_int) po_none) (pv 0))))
      (pss_cons (ps_if (PW.pt (pw_or (pt_cmpR op_eq (pv 1) pe_str (nomark _)) (pw_or (pt_cmpR (op_ne_nil hr.units)
          (pe_lc (own := [("_law_sign", 2)]) (g := gName 2) (tt := tTest (tOp (fun x y H Q => ∃ (c : Nat) (z : Str), x = .str ⟨#[c]⟩ ∧ y = .str z ∧ Q (.bl (!decide (c ∈ z.cps.toList))) H) (tVar 2) (tC (V.str "0123456789")))) rfl scNumber.nd (pi_str (pv 1))
            (blkOk_by (own := [("_law_sign", 2)]) (N := nNumber) (sc := defScope sNumber) (by decide +kernel)) (fun _ _ _ _ _ => pg_name (i := 2) scNumber.nd rfl (Or.inl rfl)) (fun _ _ _ _ _ => pts_one (pt_cmpR op_notIn_sign (pv 2) pe_str (by rfl)))
            (fun _ _ _ _ _ => pv 2)) (pe_lst pa_nil) (nomark _))
          (pw_or1 (pt_cmpR op_gt (pe_callB call_len_str (by rfl) T.len PySem.boot_len (pa_cons (pv 1) pa_nil)) pe_int (nomark _))))))
        (pss_one (ps_ret pe_non)) pss_nil)
      (pss_one (ps_ret (pe_ifExp (pt_cmpR op_eq (pe_callTy call_str_int (by rfl) T.str (by decide +kernel) (pa_cons (pe_callTy call_int_str (by rfl) T.int (by decide +kernel) (pa_cons (pv 0) pa_nil)) pa_nil)) (pv 0) (nomark _))
        (pe_callTy call_int_str (by rfl) T.int (by decide +kernel) (pa_cons (pv 0) pa_nil)) pe_non)))), ?_⟩
    have hsz : z.length ≤ sizeLine := Nat.le_trans hz (by decide)
    have hbl : (bodyL (tl z)).length ≤ z.length := by
      rw [len_tl]
      unfold bodyL
      split
      · rw [List.length_drop]
        omega
      · exact Nat.le_refl _
    have hsb : (bodyS z).length ≤ sizeLine := by
      rw [len_tl, tl_bodyS]
      exact Nat.le_trans hbl hsz
    refine ⟨z, rfl, hsz, _, rfl, rfl, _, rfl, ?_⟩
    rw [str_eq, tl_bodyS, show tl ("" : Str) = [] from rfl]
    -- None at the end
    have none' : ∀ H', Same H H' → (bodyL (tl z) = [] ∨ digs (bodyL (tl z)) = false ∨ 4 < (bodyL (tl z)).length) → Q .non H' := fun H' s' hn => by
      have k := q H' s'
      unfold numL2 at k
      rw [if_pos hn] at k
      exact k
    by_cases hne : bodyL (tl z) = []
    · exact itT (decide_eq_true hne) (iteT (none' H (.refl H) (.inl hne)))
    refine itF (decide_eq_false hne) ?_
    refine ⟨_, rfl, _, rfl, fun D nD => lc_keep (items := tl (bodyS z)) (f := fun c => V.str ⟨#[c]⟩) (p := fun c => !isDig c) (by
        rw [show (tl (bodyS z)).length = (bodyS z).cps.size from Array.length_toList]
        exact walk_str) (fun i H x H' h => ?_) nD (fun _ _ => trivial) ?_ (fun _ => rfl) ?_ ?_ ?_⟩
    · obtain ⟨e, c, hc, ex⟩ := h
      refine ⟨e, c, ?_, ex⟩
      show (bodyS z).cps.toList[i]? = some c
      rw [Array.getElem?_toList]
      exact hc
    · exact Nat.lt_of_le_of_lt hbl (Nat.lt_of_le_of_lt hz (by decide))
    · exact (by decide : 2 < 3)
    · intro c H2 hc s2 Q' hQ
      refine ⟨_, rfl, c, _, rfl, rfl, _, rfl, ?_⟩
      rw [mem_figs]
      exact hQ _ (.refl _)
    intro H2 s2 e2
    refine ⟨Nat.zero_le _, fun l nl => ?_⟩
    have t3 := s2.trans (same_new (o := .lst []) nl)
    refine ⟨D, l, _, rfl, rfl, .inl (.inl ((same_new nl) _ _ e2)), .inl (.inl upd_same), _, rfl, ?_⟩
    rw [tl_bodyS, all_keep]
    cases hd : digs (bodyL (tl z)) with
    | false => exact iteT (iteT (none' _ t3 (.inr (.inl hd))))
    | true =>
      refine iteF ?_
      refine ⟨_, rfl, _, rfl, hsb, _, _, rfl, rfl, _, rfl, ?_⟩
      rw [show ((bodyS z).length : Int) = ((bodyL (tl z)).length : Int) by rw [len_tl, tl_bodyS]]
      by_cases h4 : 4 < (bodyL (tl z)).length
      · exact itT (decide_eq_true (by omega)) (none' _ t3 (.inr (.inr h4)))
      refine itF (decide_eq_false (by omega)) ?_
      have hl640 : z.length ≤ 640 := by
        have := body_len (tl z)
        rw [len_tl]
        omega
      have hi := int_text hne hd hl640
      have k := q _ t3
      unfold numL2 at k
      rw [if_neg (fun y => by
        rcases y with y | y | y
        · exact hne y
        · rw [hd] at y
          cases y
        · exact h4 y)] at k
      refine ⟨_, rfl, _, _, rfl, hi, hl640, _, rfl, small_log2 (valL_small hd (by omega)), _, rfl, rfl, _, rfl, ?_⟩
      rw [str_eq]
      by_cases he : numS (valL (tl z)) = tl z
      · rw [if_pos he] at k
        exact itT (decide_eq_true he) ⟨_, rfl, _, _, rfl, hi, hl640, k⟩
      · rw [if_neg he] at k
        exact itF (decide_eq_false he) k
end
end K18

/-! _law_read. -/
namespace K18
open PySem PySem.Spec PyProof.Rows L2 TL
section
variable {P : Program} {w : World} {K : PySem.W.Frag} {mg : Str → Option Value} {base : Heap}
/-! ### data -/
theorem in_names (y : Str) : inV (.str y) (names.map V.str) = (opF y).isSome := by
  have h1 : inV (.str y) (names.map V.str) = names.any fun n => decide (n = y) := by
    unfold inV
    rw [List.any_map]
    rfl
  rw [h1]
  unfold opF
  rw [Option.isSome_map]
  cases e : place y with
  | none =>
    refine List.any_eq_false.mpr ?_
    intro n hn hd
    exact place_none e ((of_decide_eq_true hd) ▸ hn)
  | some i => exact List.any_eq_true.mpr ⟨y, List.mem_of_getElem? (place_mem e), decide_eq_true rfl⟩
abbrev eight : List Str := ["0", "1", "2", "3", "4", "5", "6", "7"]
theorem eight_all : ∀ k : Fin 8, ∃ n ∈ eight, tl n = [48 + k.val] := by decide +kernel
theorem eight_one : ∀ n ∈ eight, ∃ k : Fin 8, tl n = [48 + k.val] := by decide +kernel
theorem in_eight (x : Str) : inV (.str x) (eight.map V.str) = true ↔ ∃ c, 48 ≤ c ∧ c ≤ 55 ∧ tl x = [c] := by
  unfold inV
  rw [List.any_map, List.any_eq_true]
  constructor
  · rintro ⟨n, hn, e⟩
    have e2 : n = x := beq_iff_eq.mp (show (n == x) = true from e)
    obtain ⟨k, hk⟩ := eight_one n hn
    exact ⟨48 + k.val, by omega, by omega, e2 ▸ hk⟩
  · rintro ⟨c, h1, h2, e⟩
    obtain ⟨n, hn, hk⟩ := eight_all ⟨c - 48, by omega⟩
    have e3 : 48 + (c - 48) = c := by omega
    refine ⟨n, hn, ?_⟩
    show (n == x) = true
    refine beq_iff_eq.mpr (ext_tl ?_)
    rw [hk, e]
    show [48 + (c - 48)] = [c]
    rw [e3]
theorem regL_cases (l : List Nat) : (l.take 1 ≠ [114] ∧ regL l = none) ∨ (l.take 1 = [114] ∧ (¬ ∃ c, 48 ≤ c ∧ c ≤ 55 ∧ l.drop 1 = [c]) ∧ regL l = none) ∨ (∃ c, 48 ≤ c ∧ c ≤ 55 ∧ l = [114, c] ∧ regL l = some ((c : Int) - 48)) := by
  match l with
  | [] => exact .inl ⟨by simp, rfl⟩
  | a :: r =>
    by_cases ha : a = 114
    · subst ha
      match r with
      | [] => exact .inr (.inl ⟨rfl, (fun ⟨c, _, _, e⟩ => by cases e), rfl⟩)
      | [c] =>
        by_cases hc : 48 ≤ c ∧ c ≤ 55
        · exact .inr (.inr ⟨c, hc.1, hc.2, rfl, if_pos hc⟩)
        · refine .inr (.inl ⟨rfl, ?_, if_neg hc⟩)
          rintro ⟨d, h1, h2, e⟩
          have e2 : c = d := (List.cons.inj e).1
          exact hc ⟨by omega, by omega⟩
      | c :: d :: r' =>
        refine .inr (.inl ⟨rfl, ?_, rfl⟩)
        rintro ⟨d', h1, h2, e⟩
        cases e
    · refine .inl ⟨fun e => ha (List.cons.inj e).1, ?_⟩
      unfold regL
      split
      · rename_i e
        exact absurd (List.cons.inj e).1 ha
      · rfl
theorem cut_one (z : Str) : tl (cutS z none (some 1)) = (tl z).take 1 := cut_to z 1
theorem cut_rest (z : Str) : tl (cutS z (some 1) none) = (tl z).drop 1 := cut_from z 1
/-! ### _law_read -/
abbrev nRead : List Str := ["_law_text_here", "_law_words", "_law_registers", "_law_least", "_law_most", "_law_parts", "_law_word", "_law_number_here"]
theorem scRead : FnScope nRead ["_law_text_here"] (defScope sRead) := ⟨rfl, rfl, rfl, by decide +kernel, rfl, by decide +kernel, by decide +kernel⟩
theorem ok_read (T : Txt K w mg) (a : At K mg "_law_read" sRead) (cN : Cal P w K mg base CX0 1 "_law_names" [] spNames) (cF : Cal P w K mg base CX0 2 "_law_form" ["_law_name"] spForm) (cS : Cal P w K mg base CX0 1 "_law_shape" ["_law_form_here"] spShape)
    (cM : Cal P w K mg base CX0 1 "_law_number" ["_law_word"] spNumber) : Cal P w K mg base CX0 3 "_law_read" ["_law_text_here"] spReader := by
  refine a.cal (fun _ _ _ _ _ _ us hl => match us, hl with | [_], _ => rfl) fun f fd m F => ?_
  obtain ⟨fN, fdN, mN, kN, bN, GN⟩ := cN
  obtain ⟨fF, fdF, mF, kF, bF, GF⟩ := cF
  obtain ⟨fS, fdS, mS, kS, bS, GS⟩ := cS
  obtain ⟨fM, fdM, mM, kM, bM, GM⟩ := cM
  refine F.ok scRead (fun vs H Q E h => ?_) (fun cdv A outer s H vs Q E hr h => ?_)
  · obtain ⟨t, rfl, _⟩ := h
    rfl
  · obtain ⟨t, rfl, hz, q0, q1⟩ := h
    have hr1 : Room 1 _ := hr.mono (by decide)
    refine ⟨_, pss_cons (ps_set (i := 1) scRead.nd rfl (.inl rfl) (pe_split (pv 0) pe_str))
      (pss_cons (ps_if (pt_cmpR op_notIn_seq (pe_ix ix_list (pv 1) pe_int (fun _ _ => rfl)) (pe_call0 GN hr1 (by rfl) mN kN bN .nil pass0) (by rfl)) (pss_one (ps_ret pe_non)) pss_nil)
      (pss_cons (ps_asg (pe_call GS hr1 (by rfl) mS kS bS .nil pass0 (pa_cons (pe_call GF hr (by rfl) mF kF bF .nil pass0 (pa_cons (pe_ix ix_list (pv 1) pe_int (fun _ _ => rfl)) pa_nil)) pa_nil))
        (pg_tup rfl (pgs_cons (pg_name (i := 2) scRead.nd rfl (.inl rfl)) (pgs_cons (pg_name (i := 3) scRead.nd rfl (.inl rfl)) (pgs_cons (pg_name (i := 4) scRead.nd rfl (.inl rfl)) pgs_nil)))))
      (pss_cons (ps_if (pt_cmpR op_ne (pe_callB call_len_seq (by rfl) T.len PySem.boot_len (pa_cons (pv 1) pa_nil))
          (pe_op op_add (pe_op op_add pe_int (pv 2)) (pe_callTy call_int1 (by rfl) T.int (by decide +kernel) (pa_cons (pe_cmpR op_notN (pv 3) pe_non (nomark _)) pa_nil))) (nomark _))
        (pss_one (ps_ret pe_non)) pss_nil)
      (pss_cons (ps_set (i := 5) scRead.nd rfl (.inl rfl) (pe_lst pa_nil))
      (pss_cons (ps_for PassesOwn.never rfl (pi_list (pe_slice sl_list (pv 1) (po_some pe_int) (po_some (pe_op op_add pe_int (pv 2))))) (pg_name (i := 6) scRead.nd rfl (Or.inl rfl))
        (pss_cons (ps_if (PW.pt (pw_or (pt_cmpR op_ne (pe_slice sl_str (pv 6) po_none (po_some pe_int)) pe_str (nomark _))
            (pw_or1 (pt_cmpR op_notIn_seq (pe_slice sl_str (pv 6) (po_some pe_int) po_none) (pe_lst (pa_cons pe_str (pa_cons pe_str (pa_cons pe_str (pa_cons pe_str (pa_cons pe_str (pa_cons pe_str (pa_cons pe_str (pa_cons pe_str pa_nil))))))))) (by rfl)))))
          (pss_one (ps_ret pe_non)) pss_nil)
        (pss_one (ps_expr (pe_bm PySem.F.plainAttrs_list PySem.F.slot_list_append PySem.F.type_list_append mt_append (pv 5) (pa_cons (pe_callTy call_int_str (by rfl) T.int (by decide +kernel) (pa_cons (pe_slice sl_str (pv 6) (po_some pe_int) po_none) pa_nil)) pa_nil))))))
      (pss_cons (ps_if (pt_cmpR op_notN (pv 3) pe_non (nomark _))
        (pss_cons (ps_set (i := 7) scRead.nd rfl (.inl rfl) (pe_call GM hr1 (by rfl) mM kM bM .nil pass0 (pa_cons (pe_ix ix_list (pv 1) (pe_un un_neg pe_int) (fun _ _ => rfl)) pa_nil)))
        (pss_cons (ps_if (PW.pt (pw_or (pt_cmpR op_isN (pv 7) pe_non (nomark _)) (pw_or1 (pt_not (pt_chain op_le op_le (pv 3) (pv 7) (pv 4)))))) (pss_one (ps_ret pe_non)) pss_nil)
        (pss_one (ps_expr (pe_bm PySem.F.plainAttrs_list PySem.F.slot_list_append PySem.F.type_list_append mt_append (pv 5) (pa_cons (pv 7) pa_nil)))))) pss_nil)
      (pss_one (ps_ret (pe_op op_catT (pe_tup (pa_cons (pe_ix ix_list (pv 1) pe_int (fun _ _ => rfl)) pa_nil)) (pe_callTy call_tuple_of (by rfl) T.tuple (by decide +kernel) (pa_cons (pv 5) pa_nil))))))))))), ?_⟩
    have hszt : t.length + 2 ≤ sizeLine := Nat.le_trans (show t.length + 2 ≤ 1002 by omega) (by decide)
    have hcount := words_count t
    have hne := words_ne t
    have hwl : ∀ z ∈ Txt.split t " ", z.length ≤ 1000 := fun z hz' => Nat.le_trans (word_len hz') hz
    have hinst : instOf t = match Txt.split t " " with
      | [] => none
      | y :: ws => match opF y with
        | none => none
        | some f => (heard (ws.map tl) f).map fun xs => (y, xs) := rfl
    refine ⟨_, rfl, ⟨_, rfl⟩, _, _, rfl, rfl, by decide +kernel, hszt, fun l nl => ?_⟩
    generalize Txt.split t " " = W at hne hcount hwl hinst
    cases W with
    | nil => exact absurd rfl hne
    | cons y ws =>
      have t1 : Same H (upd H l (.lst ((y :: ws).map V.str))) := same_new nl
      have el : (upd H l (.lst ((y :: ws).map V.str))) l = some (.lst ((y :: ws).map V.str)) := upd_same
      generalize upd H l (.lst ((y :: ws).map V.str)) = H1 at t1 el
      dsimp only at hinst
      refine ⟨_, rfl, l, _, _, _, rfl, rfl, .inl (.inl el), atI_nat (j := 0) rfl, rfl, fun H2 l2 n2 s2 e2 => ?_⟩
      have t2 := t1.trans s2
      have el2 := s2 _ _ el
      refine ⟨l2, _, rfl, .inl (.inl (.inl e2)), rfl, ?_, _, rfl, ?_⟩
      · exact List.all_eq_true.mpr fun v hv => by
          obtain ⟨n, _, rfl⟩ := List.mem_map.mp hv
          rfl
      show if (!inV (.str y) (names.map V.str)) = true then _ else _
      rw [in_names]
      cases hy : opF y with
      | none =>
        rw [hy] at hinst
        exact iteT (q0 hinst _ t2)
      | some g =>
        rw [hy] at hinst
        dsimp only at hinst
        rw [same_read] at hinst
        refine iteF ?_
        refine ⟨_, rfl, l, _, _, _, rfl, rfl, .inl (.inl el2), atI_nat (j := 0) rfl, y, g, rfl, hy, fun H3 s3 => ⟨g, opF_le hy, rfl, fun H4 qr s4 eq => ?_⟩⟩
        have t4 := (t2.trans s3).trans s4
        have el4 := s4 _ _ (s3 _ _ el2)
        obtain ⟨lo, hi, erow, hlo⟩ : ∃ lo hi : V, lawRow g = [.int (regsF g : Int), lo, hi] ∧ ((numF g = none ∧ lo = .non) ∨ ∃ i j : Int, numF g = some (i, j) ∧ lo = .int i ∧ hi = .int j) := by
          rcases law_row g with ⟨h1, h2⟩ | ⟨i, j, h1, h2⟩
          · exact ⟨_, _, h2, .inl ⟨h1, rfl⟩⟩
          · exact ⟨_, _, h2, .inr ⟨i, j, h1, rfl, rfl⟩⟩
        rw [erow] at eq
        refine ⟨qr, _, rfl, .inl (.inl eq), rfl, _, _, rfl, _, _, rfl, _, _, rfl, rfl, ?_⟩
        refine ⟨_, rfl, l, _, rfl, .inl (.inl (.inl el4)), _, rfl, _, _, rfl, rfl, _, rfl, rfl, .inr ⟨_, rfl, _, _, rfl, rfl, rfl, _, rfl, ?_⟩⟩
        have hbit : (if (!decide (lo = V.non)) = true then (1 : Int) else 0) = (bitF g : Int) := by
          rcases hlo with ⟨hn, rfl⟩ | ⟨i, j, hn, rfl, _⟩
          · rw [bit0 hn]
            rfl
          · rw [(num_ord hn).2.2]
            rfl
        rw [hbit, List.length_map, List.length_cons]
        by_cases hl : ws.length = regsF g + bitF g
        rotate_left
        · refine itT (by simp; omega) (q0 ?_ _ t4)
          rw [hinst]
          unfold lread
          rw [if_pos (by rw [List.length_map]; exact hl)]
          rfl
        refine itF (by simp; omega) ?_
        refine ⟨Nat.zero_le _, fun lp np => ?_⟩
        have s5 := same_new (o := .lst ([] : List V)) np
        have t5 := t4.trans s5
        have el5 := s5 _ _ el4
        have ep5 : (upd H4 lp (.lst ([] : List V))) lp = some (.lst []) := upd_same
        have nHp : H lp = none := t4.free np
        have nll : l ≠ lp := ne_of_none el4 np
        generalize upd H4 lp (.lst ([] : List V)) = H5 at s5 t5 el5 ep5
        refine ⟨_, rfl, _, rfl, _, rfl, _, _, rfl, rfl, _, rfl, l, _, rfl, .inl (.inl el5), fun p1 np1 => ?_⟩
        have hcut : cutV ((y :: ws).map V.str) (some 1) (some (1 + (regsF g : Int))) = (ws.take (regsF g)).map V.str := by
          rw [List.map_take]
          exact cut_mid _ _ _
        rw [hcut]
        have s6 := same_new (o := .lst ((ws.take (regsF g)).map V.str)) np1
        have t6 := t5.trans s6
        have el6 := s6 _ _ el5
        have ep6 := s6 _ _ ep5
        have ec6 : (upd H5 p1 (.lst ((ws.take (regsF g)).map V.str))) p1 = some (.lst ((ws.take (regsF g)).map V.str)) := upd_same
        have npl : p1 ≠ lp := (ne_of_none ep5 np1).symm
        generalize upd H5 p1 (.lst ((ws.take (regsF g)).map V.str)) = H6 at s6 t6 el6 ep6 ec6
        have hr3 := regsF_le g
        -- what is behind a change at lp alone
        have back : ∀ {H' : Hp}, Kept lp H6 H' → Same H H' := fun {H'} k b o e => k b o (fun z => by
          rw [z, nHp] at e
          cases e) (t6 b o e)
        refine ⟨p1, rfl, ⟨_, .inl (.inl ec6)⟩, for_list (K := K) (a := p1) (xs := (ws.take (regsF g)).map V.str) (fun j σ H' => ∃ (zs : List Int) (v6 : Option V), ((ws.take (regsF g)).take j).map (fun z => regL (tl z)) = zs.map some ∧
            σ = [some (.str t), some (.ref l), some (.int (regsF g : Int)), some lo, some hi, some (.ref lp), v6, none] ∧ Kept lp H6 H' ∧ H' lp = some (.lst (zs.map V.int)))
          ⟨[], none, rfl, rfl, .refl _ _, ep6⟩ (fun j σ H' _ ⟨_, _, _, _, KK, _⟩ => .inl (.inl (KK _ _ npl ec6))) ?_ ?_⟩
        · rintro j x σ H' hx ⟨zs, v6, hzs, rfl, KK, ep⟩
          obtain ⟨z, hz', rfl⟩ := getElem_map_f hx
          have hmem : z ∈ ws := List.mem_of_mem_take (List.mem_of_getElem? hz')
          have hzl : z.length ≤ sizeLine := Nat.le_trans (hwl z (List.mem_cons_of_mem _ hmem)) (by decide)
          have dead : regL (tl z) = none → ∀ H'' : Hp, Same H H'' → Q .non H'' := fun hn H'' s'' => by
            refine q0 ?_ _ s''
            rw [hinst]
            unfold lread
            rw [if_neg (fun z => z (by rw [List.length_map]; exact hl)), if_pos ?_]
            · rfl
            · rw [List.all_eq_false]
              refine ⟨none, ?_, by simp⟩
              rw [← List.map_take, List.map_map]
              exact List.mem_map.mpr ⟨z, List.mem_of_getElem? hz', hn⟩
          refine ⟨_, rfl, _, rfl, z, rfl, hzl, rfl, _, rfl, ?_⟩
          rw [str_eq, cut_one, tl_r]
          rcases regL_cases (tl z) with ⟨h1, hn⟩ | ⟨h1, h2, hn⟩ | ⟨c, c1, c2, ez, hn⟩
          · exact itT (by rw [decide_eq_false h1]; rfl) (iteT (dead hn _ (back KK)))
          · refine itF (by rw [decide_eq_true h1]; rfl) ?_
            refine ⟨_, rfl, _, rfl, z, rfl, hzl, (show 8 ≤ sizeLine by decide), fun l8 n8 => ?_⟩
            refine ⟨l8, _, rfl, .inl (.inl (.inl upd_same)), rfl, rfl, _, rfl, ?_⟩
            have hv : inV (.str (cutS z (some 1) none)) (eight.map V.str) = false := by
              cases e : inV (.str (cutS z (some 1) none)) (eight.map V.str) with
              | false => rfl
              | true =>
                obtain ⟨c, c1, c2, ec⟩ := (in_eight _).mp e
                rw [cut_rest] at ec
                exact absurd ⟨c, c1, c2, ec⟩ h2
            show if (!inV (.str (cutS z (some 1) none)) (eight.map V.str)) = true then _ else _
            rw [hv]
            exact iteT (dead hn _ ((back KK).trans (same_new n8)))
          · have ht : (tl z).take 1 = [114] := by rw [ez]; rfl
            have hd1 : tl (cutS z (some 1) none) = [c] := by rw [cut_rest, ez]; rfl
            refine itF (by rw [decide_eq_true ht]; rfl) ?_
            refine ⟨_, rfl, _, rfl, z, rfl, hzl, (show 8 ≤ sizeLine by decide), fun l8 n8 => ?_⟩
            refine ⟨l8, _, rfl, .inl (.inl (.inl upd_same)), rfl, rfl, _, rfl, ?_⟩
            have hv : inV (.str (cutS z (some 1) none)) (eight.map V.str) = true := (in_eight _).mpr ⟨c, c1, c2, hd1⟩
            show if (!inV (.str (cutS z (some 1) none)) (eight.map V.str)) = true then _ else _
            rw [hv]
            have s8 := same_new (o := .lst (eight.map V.str)) n8
            have hz1 : cutS z (some 1) none = (⟨#[c]⟩ : Str) := ext_tl hd1
            refine iteF ⟨_, rfl, .inl ⟨rfl, _, .inl (.inl (s8 _ _ ep))⟩, _, rfl, _, rfl, z, rfl, hzl, _, _, rfl, by rw [hz1]; exact one_dig (decide_eq_true ⟨c1, by omega⟩), by rw [hz1]; exact (show 1 ≤ 640 by decide), lp, _, _, rfl, rfl, s8 _ _ ep, ?_, ?_⟩
            · have hzl3 := congrArg List.length hzs
              rw [List.length_map, List.length_map, List.length_take, List.length_take] at hzl3
              rw [List.length_map]
              exact Nat.lt_of_le_of_lt (show zs.length ≤ 3 by omega) (by decide)
            · refine ⟨zs ++ [(c : Int) - 48], _, ?_, rfl, ?_, ?_⟩
              · rw [take_snoc hz', List.map_append, List.map_append, hzs]
                show _ ++ [regL (tl z)] = _
                rw [hn]
                rfl
              · intro b o n e
                rw [upd_ne n]
                exact s8 _ _ (KK b o n e)
              · rw [upd_same, List.map_append]
                rfl
        · rintro σ H' ⟨zs, v6, hzs, rfl, KK, ep⟩
          rw [List.length_map, List.take_length] at hzs
          have hregs : ((ws.map tl).take (regsF g)).map regL = zs.map some := by
            rw [← List.map_take, List.map_map]
            exact hzs
          have hall : (((ws.map tl).take (regsF g)).map regL).all Option.isSome = true := by
            rw [hregs, List.all_map]
            exact List.all_eq_true.mpr fun _ _ => rfl
          have hzl : zs.length ≤ 3 := by
            have k := congrArg List.length hzs
            rw [List.length_map, List.length_map, List.length_take] at k
            omega
          have hread : lread (ws.map tl) g = match numF g with
            | none => some (zs.map some)
            | some b => match inR b.1 b.2 (numL2 ((ws.map tl).getLast?.getD [])) with
              | none => none
              | some n => some (zs.map some ++ [some n]) := by
            unfold lread
            rw [if_neg (fun z => z (by rw [List.length_map]; exact hl)), if_neg (by rw [hall]; decide), hregs]
            try rfl
          -- the end: the numbers ms stand in the list
          have fin : ∀ (v7 : Option V) (ms : List Int) (H7 : Hp), instOf t = some (y, ms.map some) → ms.length ≤ 4 → Kept lp H6 H7 → H7 lp = some (.lst (ms.map V.int)) →
              tRet (tOp (rCatT K) (tTup (tCons (tOp (rIxL K) (tVar 1) (tC (.int 0))) tNil)) (tCB (fun xs H Q => ∃ p ys, xs = [.ref p] ∧ ((SqL K H p ys ∧ ∀ l, H l = none → Q (.ref l) (upd H l (.tup ys))) ∨ (SqT K H p ys ∧ Q (.ref p) H))) (tCons (tVar 5) tNil)))
                { nx := fun _ H' => Q .non H', rt := Q } [some (.str t), some (.ref l), some (.int (regsF g : Int)), some lo, some hi, some (.ref lp), v6, v7] H7 := by
            intro v7 ms H7 hi7 hm4 K7 e7
            refine ⟨_, rfl, l, _, _, _, rfl, rfl, .inl (.inl (K7 _ _ nll el6)), atI_nat (j := 0) rfl, (show 1 ≤ sizeLine by decide), fun b1 n1 => ?_⟩
            have u1 := same_new (o := .tup [V.str y]) n1
            refine ⟨_, rfl, lp, _, rfl, .inl ⟨.inl (.inl (u1 _ _ e7)), fun b2 n2 => ?_⟩⟩
            have u2 := same_new (o := .tup (ms.map V.int)) n2
            have e1 := u2 _ _ (upd_same (H := H7) (a := b1) (o := .tup [V.str y]))
            have tt := ((back K7).trans u1).trans u2
            refine ⟨b1, b2, _, _, rfl, rfl, .inl (.inl e1), .inl (.inl upd_same), by simp, ?_, fun hz => ?_, fun hz b3 n3 => ?_⟩
            · rw [List.length_map]
              exact Nat.le_trans (show [V.str y].length + ms.length ≤ 5 by simp; omega) (by decide)
            · have z0 : ms = [] := List.map_eq_nil_iff.mp hz
              subst z0
              exact q1 y _ hi7 _ b1 tt e1
            · refine q1 y _ hi7 _ b3 (tt.trans (same_new n3)) ?_
              rw [insV_some]
              exact upd_same
          rcases hlo with ⟨hn, rfl⟩ | ⟨i, j, hn, rfl, rfl⟩
          · refine ⟨_, rfl, rfl, _, rfl, itF rfl ?_⟩
            refine fin _ zs H' ?_ (by omega) KK ep
            rw [hinst, hread, hn]
            rfl
          · obtain ⟨ho, hs, hb1⟩ := num_ord hn
            rw [hb1] at hl
            have hwne : ws ≠ [] := fun z => by
              rw [z, List.length_nil] at hl
              omega
            have hla : ws.getLast? = some (ws.getLast hwne) := List.getLast?_eq_some_getLast hwne
            have hlm : ws.getLast hwne ∈ ws := List.getLast_mem hwne
            generalize ws.getLast hwne = z at hla hlm
            have hla2 : ((y :: ws).map V.str).getLast? = some (.str z) := by
              rw [List.getLast?_map, List.getLast?_cons, hla]
              rfl
            have hla3 : (ws.map tl).getLast?.getD [] = tl z := by
              rw [List.getLast?_map, hla]
              rfl
            rw [hn] at hread
            dsimp only at hread
            rw [hla3] at hread
            refine ⟨_, rfl, rfl, _, rfl, itT rfl ?_⟩
            refine ⟨_, rfl, _, rfl, l, _, _, _, rfl, rfl, .inl (.inl (KK _ _ nll el6)), getLast_atI hla2, z, rfl, Nat.le_trans (hwl z (List.mem_cons_of_mem _ hlm)) (by decide), fun H7 s7 => ?_⟩
            have K7 : Kept lp H6 H7 := KK.same s7
            have ep7 := s7 _ _ ep
            refine ⟨_, rfl, rfl, _, rfl, ?_⟩
            cases hv : numL2 (tl z) with
            | none =>
              refine itT rfl (iteT (q0 ?_ _ (back K7)))
              rw [hinst, hread, hv]
              rfl
            | some v =>
              refine itF rfl ⟨_, rfl, _, rfl, _, _, rfl, rfl, _, rfl, ?_⟩
              by_cases h1 : i ≤ v
              rotate_left
              · refine itF (decide_eq_false h1) ⟨_, rfl, iteT (q0 ?_ _ (back K7))⟩
                rw [hinst, hread, hv]
                unfold inR
                dsimp only
                rw [if_neg fun c => h1 c.1]
                rfl
              refine itT (decide_eq_true h1) ⟨_, rfl, _, _, rfl, rfl, _, rfl, ?_⟩
              by_cases h2 : v ≤ j
              rotate_left
              · rw [decide_eq_false h2]
                refine iteT (q0 ?_ _ (back K7))
                rw [hinst, hread, hv]
                unfold inR
                dsimp only
                rw [if_neg fun c => h2 c.2]
                rfl
              rw [decide_eq_true h2]
              refine iteF ?_
              refine ⟨_, rfl, .inl ⟨rfl, _, .inl (.inl ep7)⟩, _, rfl, lp, _, _, rfl, rfl, ep7, ?_, ?_⟩
              · rw [List.length_map]
                exact Nat.lt_of_le_of_lt hzl (by decide)
              · refine fin _ (zs ++ [v]) _ ?_ (by rw [List.length_append, List.length_singleton]; omega) ?_ ?_
                · rw [hinst, hread, hv]
                  unfold inR
                  dsimp only
                  rw [if_pos ⟨h1, h2⟩, List.map_append]
                  rfl
                · intro b o n e
                  rw [upd_ne n]
                  exact K7 b o n e
                · rw [upd_same, List.map_append]
                  rfl
end
end K18

/-! law. -/
namespace K18
open PySem PySem.Spec PyProof.Rows L2 TL
/-! ### data -/
theorem all_some : ∀ xs : List (Option Int), xs.all Option.isSome = true → ∃ ms : List Int, xs = ms.map some
  | [], _ => ⟨[], rfl⟩
  | none :: _, h => by cases h
  | some i :: r, h => by
    obtain ⟨ms, e⟩ := all_some r h
    exact ⟨i :: ms, by rw [e]; rfl⟩
theorem regOk_some {o : Option Int} (h : regOk o = true) : ∃ i : Int, o = some i ∧ 0 ≤ i ∧ i ≤ 7 := by
  cases o with
  | none => cases h
  | some i => exact ⟨i, rfl, of_decide_eq_true h⟩
theorem okV_inv {f : Nat} {xs : List (Option Int)} (h : okV f xs = true) : ∃ ms : List Int, xs = ms.map some ∧ Okx f ms := by
  unfold okV at h
  rw [Bool.and_eq_true, Bool.and_eq_true] at h
  obtain ⟨⟨h1, h2⟩, h3⟩ := h
  have hl : xs.length = regsF f + bitF f := of_decide_eq_true h1
  have hreg : ∀ o ∈ xs.take (regsF f), ∃ i : Int, o = some i ∧ 0 ≤ i ∧ i ≤ 7 := fun o ho => regOk_some (List.all_eq_true.mp h2 o ho)
  have hall : xs.all Option.isSome = true := by
    rw [← List.take_append_drop (regsF f) xs, List.all_append, Bool.and_eq_true]
    refine ⟨List.all_eq_true.mpr fun o ho => by obtain ⟨i, e, _⟩ := hreg o ho; rw [e]; rfl, ?_⟩
    have hd : (xs.drop (regsF f)).length = bitF f := by rw [List.length_drop]; omega
    unfold bitF at hd
    cases hn : numF f with
    | none =>
      rw [hn] at hd
      rw [List.eq_nil_of_length_eq_zero hd]
      rfl
    | some b =>
      rw [hn] at hd h3
      obtain ⟨o, e⟩ := List.length_eq_one_iff.mp hd
      have el : xs.getLast? = some o := by
        have z : xs = xs.take (regsF f) ++ [o] := by rw [← e, List.take_append_drop]
        rw [z]
        simp
      rw [el] at h3
      rw [e]
      cases o with
      | none => cases h3
      | some v => rfl
  obtain ⟨ms, rfl⟩ := all_some xs hall
  refine ⟨ms, rfl, ⟨by rw [List.length_map] at hl; exact hl, fun i hi => ?_, fun b hb v hv => ?_⟩⟩
  · obtain ⟨j, e, k⟩ := hreg (some i) (by rw [← List.map_take]; exact List.mem_map.mpr ⟨i, hi, rfl⟩)
    injection e with e
    subst e
    exact k
  · rw [hb, List.getLast?_map, hv] at h3
    dsimp only [Option.map_some] at h3
    rw [inR_isSome] at h3
    dsimp only at h3
    rw [Bool.and_eq_true] at h3
    exact ⟨of_decide_eq_true h3.1, of_decide_eq_true h3.2⟩
theorem instOf_inv {t y : Str} {xs : List (Option Int)} (h : instOf t = some (y, xs)) : ∃ (g : Nat) (ms : List Int), opF y = some g ∧ xs = ms.map some ∧ Okx g ms := by
  unfold instOf at h
  split at h
  · cases h
  · rename_i w ws e
    split at h
    · cases h
    · rename_i g hg
      unfold heard at h
      dsimp only at h
      split at h
      · rename_i hok
        have e2 := Option.some.inj h
        obtain ⟨ms, e3, ok⟩ := okV_inv hok
        have e4 : w = y := congrArg Prod.fst e2
        have e5 := congrArg Prod.snd e2
        subst e4
        exact ⟨g, ms, hg, by rw [← e3]; exact e5.symm, ok⟩
      · cases h
theorem names_repr : ∀ y ∈ names, (reprText y).length ≤ 10 := by decide +kernel
theorem piled_le (b : Nat) : ∀ l : List Str, (∀ p ∈ l, p.length ≤ b) → piled l ≤ l.length * (b + 2)
  | [], _ => Nat.zero_le _
  | p :: r, h => by
    have h1 := h p (List.mem_cons_self ..)
    have h2 := piled_le b r fun z hz => h z (List.mem_cons_of_mem _ hz)
    rw [piled_cons, List.length_cons, Nat.succ_mul]
    omega
theorem rtext_len {y : Str} {g : Nat} {ms : List Int} (hy : opF y = some g) (h : Okx g ms) : (rtext y ms).length ≤ sizeLine ∧ (reprText y).length ≤ sizeLine ∧ ∀ n ∈ ms, n.natAbs.log2 < 1920 := by
  have hm := names_repr y (opF_mem hy)
  refine ⟨?_, Nat.le_trans hm (by decide), fun n hn => small_log (h.small hn)⟩
  have k := fmt_text (rparts y ms)
  have k2 := piled_le 10 (rparts y ms) fun p hp => by
    unfold rparts at hp
    rcases List.mem_cons.mp hp with e | hp
    · rw [e]
      exact hm
    · obtain ⟨n, hn, rfl⟩ := List.mem_map.mp hp
      have := (int_back (h.small hn)).2
      rw [len_tl]
      exact Nat.le_trans this (by decide)
  have k3 : (rparts y ms).length ≤ 5 := by
    unfold rparts
    rw [List.length_cons, List.length_map]
    have := xs_len h
    omega
  have k4 : (rparts y ms).length * (10 + 2) ≤ 5 * 12 := Nat.mul_le_mul_right _ k3
  unfold rtext
  exact Nat.le_trans (show (tupleText (rparts y ms)).length ≤ 62 by omega) (by decide)
theorem rep_tup {K : PySem.W.Frag} {H : Hp} {a : Addr} {y : Str} {g : Nat} {ms : List Int} (hy : opF y = some g) (h : Okx g ms) (e : SqT K H a (.str y :: ms.map V.int)) : RepX K H (.ref a) (rtext y ms) := by
  obtain ⟨h1, h2, h3⟩ := rtext_len hy h
  exact .inr ⟨a, y, ms, rfl, e, rfl, h1, h2, h3⟩
theorem str_same (x : Str) : decide (V.str x = V.str x) = true := decide_eq_true rfl

section
variable {P : Program} {w : World} {K : PySem.W.Frag} {mg : Str → Option Value} {base : Heap}
abbrev nLaw : List Str := ["_law_script", "_law_pot_here", "_law_turn", "_law_told", "_law_text_here", "_law_more"]
theorem scLaw : FnScope nLaw ["_law_script"] (defScope sLaw) := ⟨rfl, rfl, rfl, by decide +kernel, rfl, by decide +kernel, by decide +kernel⟩
theorem law_run {C : Addr} (T : Txt K w mg) {f : Addr} {fd : FuncData} (F : Fun K "law" "law" sLaw f fd) {fO : Addr} {fdO : FuncData} (mO : mg "instruction_of" = some (.ref fO)) (FO : Fun K "instruction_of" "instruction_of" sInstOf fO fdO)
    (GO : FnOk P w K mg base (L2.CX P w) 5 fO fdO ["text"] (spInstOf C)) {fX : Addr} {fdX : FuncData} (mX : mg "text_of" = some (.ref fX)) (FX : Fun K "text_of" "text_of" sTextOf fX fdX)
    (GX : FnOk P w K mg base CX0 5 fX fdX ["instruction"] (spTextI K)) (cPot : Cal P w K mg base CX0 1 "_law_pot" ["_law_script", "_law_k"] (spPot K)) (cP : Cal P w K mg base CX0 2 "_law_pick" ["_law_pot_here", "_law_some"] spPick)
    (cD : Cal P w K mg base CX0 3 "_law_drawn" ["_law_pot_here"] spDrawn) (cT : Cal P w K mg base CX0 3 "_law_text" ["_law_told"] (spTextI K)) (cR : Cal P w K mg base CX0 3 "_law_read" ["_law_text_here"] spReader)
    (cH : Cal P w K mg base CX0 6 "_law_heard" ["_law_text_here"] spReader) (cB : Cal P w K mg base CX0 3 "_law_bent" ["_law_pot_here", "_law_text_here"] spBent)
    {A : Around} {outer : List Env} {s : Shared} {H : Hp} {args : Args} {a : Addr} {ns : List Int} {Q : VK} (hg : A.guards = some []) (hr0 : Room 7 A) (e0 : Env0 P w K mg base A outer s H)
    (hb : BindsTo s fd args [("_law_script", .ref a)]) (hS : SqL K H a (ns.map V.int)) (hl : ns.length ≤ 63) (q : ∀ H', Q (.bl true) H') :
    codeAny (model P w) A (.call (.ref f) args) (CR CX0 outer P w H s Q E0) s := by
  obtain ⟨fPot, fdPot, mPot, kPot, bPot, GPot⟩ := cPot
  obtain ⟨fP, fdP, mP, kP, bP, GP⟩ := cP
  obtain ⟨fD, fdD, mD, kD, bD, GD⟩ := cD
  obtain ⟨fT, fdT, mT, kT, bT, GT⟩ := cT
  obtain ⟨fR, fdR, mR, kR, bR, GR⟩ := cR
  obtain ⟨fH, fdH, mH, kH, bH, GH⟩ := cH
  obtain ⟨fB, fdB, mB, kB, bB, GB⟩ := cB
  have bO : Binds K fdO ["text"] [] := FO.binds fun _ _ _ _ _ _ us hl => match us, hl with | [_], _ => rfl
  have bX : Binds K fdX ["instruction"] [] := FX.binds fun _ _ _ _ _ _ us hl => match us, hl with | [_], _ => rfl
  have bXk : KBinds K fdX ["instruction"] ["instruction"] kwOnly kwOnly := kbind1 FX fun _ _ _ _ _ _ _ => rfl
  refine enter_at (N := nLaw) (ps := ["_law_script"]) (us := [.ref a]) (vs := [.ref a]) F scLaw hg hr0 e0 hb (.cons rfl .nil) rfl fun cdv hr hgd => ?_
  have hr1 : Room 1 _ := hr.mono (by decide)
  have hr2 : Room 2 _ := hr.mono (by decide)
  have hr3 : Room 3 _ := hr.mono (by decide)
  have hr5 : Room 5 _ := hr.mono (by decide)
  refine ⟨_, pss_cons (ps_set (i := 1) scLaw.nd rfl (.inl rfl) (pe_call GPot hr1 (by rfl) mPot kPot bPot .nil pass0 (pa_cons (pv 0) (pa_cons pe_int pa_nil))))
    (pss_cons (ps_for PassesOwn.never rfl (pi_range1 (by rfl) T.range (pa_cons pe_int pa_nil)) (pg_name (i := 2) scLaw.nd rfl (Or.inl rfl))
      (pss_cons (ps_set (i := 3) scLaw.nd rfl (.inl rfl) (pe_call GD hr3 (by rfl) mD kD bD .nil pass0 (pa_cons (pv 1) pa_nil)))
      (pss_cons (ps_set (i := 4) scLaw.nd rfl (.inl rfl) (pe_call GT hr3 (by rfl) mT kT bT .nil pass0 (pa_cons (pv 3) pa_nil)))
      (pss_cons (ps_if (PW.pt (pw_or (pt_cmpR op_ne (pe_call GX hr5 (by rfl) mX FX.kp bX .nil pass0 (pa_cons (pv 3) pa_nil)) (pv 4) (nomark _))
          (pw_or1 (pt_cmpR op_ne (pe_callB (call_reprX hgd hr.units) (by rfl) T.repr (by decide +kernel) (pa_cons (pe_call GO hr5 (by rfl) mO FO.kp bO .nil passL (pa_cons (pv 4) pa_nil)) pa_nil))
            (pe_callB (call_reprX hgd hr.units) (by rfl) T.repr (by decide +kernel) (pa_cons (pv 3) pa_nil)) (nomark _))))) (pss_one (ps_ret pe_bl)) pss_nil)
      (pss_one (ps_for PassesOwn.never rfl (pi_range1 (by rfl) T.range (pa_cons pe_int pa_nil)) (pg_name (i := 5) scLaw.nd rfl (Or.inl rfl))
        (pss_cons (ps_set (i := 4) scLaw.nd rfl (.inl rfl) (pe_call GB hr3 (by rfl) mB kB bB .nil pass0 (pa_cons (pv 1) (pa_cons (pe_op op_add_str (pv 4)
            (pe_call GP hr2 (by rfl) mP kP bP .nil pass0 (pa_cons (pv 1) (pa_cons (pe_lst (pa_cons pe_str (pa_cons pe_str (pa_cons pe_str pa_nil)))) pa_nil)))) pa_nil))))
        (pss_one (ps_if (PW.pt (pw_or (pt_cmpR op_eq (pv 4) pe_str (nomark _))
            (pw_or1 (pt_cmpR op_ne (pe_callB (call_reprX hgd hr.units) (by rfl) T.repr (by decide +kernel) (pa_cons (pe_call GH hr (by rfl) mH kH bH .nil pass0 (pa_cons (pv 4) pa_nil)) pa_nil))
              (pe_callB (call_reprX hgd hr.units) (by rfl) T.repr (by decide +kernel) (pa_cons (pe_call GR hr3 (by rfl) mR kR bR .nil pass0 (pa_cons (pv 4) pa_nil)) pa_nil)) (nomark _)))))
          (pss_one (ps_ret (pe_and (pe_cmpR op_eq (pv 4) pe_str (nomark _)) (pe_one (pe_cmpR op_isN (pe_call GH hr (by rfl) mH kH bH .nil pass0 (pa_cons pe_str pa_nil)) pe_non (nomark _)))))) pss_nil)))))))))
    (pss_one (ps_ret (pe_and (pe_cmpR op_eq (pe_callK0 GX hr5 (by rfl) mX FX.kp bXk pass0 (pk_cons (pe_tup (pa_cons pe_str pa_nil)) pk_nil)) pe_str (nomark _))
      (pe_one (pe_cmpR (op_eqD hr.units) (pe_call GO hr5 (by rfl) mO FO.kp bO .nil passL (pa_cons pe_str pa_nil))
        (pe_tup (pa_cons pe_str (pa_cons pe_int (pa_cons pe_int (pa_cons (pe_un un_neg pe_int) pa_nil))))) (nomark _))))))), ?_⟩
  refine ⟨_, rfl, a, ns, rfl, hS, hl, fun H1 p t1 P1 => ?_⟩
  refine ⟨12, rfl, by decide, by decide, for_range (n := 12) (fun j σ H' => ∃ v2 v3 v4 v5 : Option V, σ = [some (.ref a), some (.ref p), v2, v3, v4, v5] ∧ Pot H' p) ⟨none, none, none, none, rfl, P1⟩ ?_ ?_⟩
  · rintro j σ H2 hj ⟨v2, v3, v4, v5, rfl, P2⟩
    refine ⟨_, rfl, p, rfl, P2, fun H3 qa y g xs k3 P3 hy hok eq => ?_⟩
    refine ⟨_, rfl, qa, y, xs, g, rfl, .inl (.inl eq), hy, hok, fun H4 s4 => ?_⟩
    have eq4 := s4 _ _ eq
    have P4 := P3.same s4
    refine ⟨_, rfl, qa, y, xs, g, rfl, .inl (.inl eq4), hy, hok, fun H5 s5 => ⟨_, rfl, rfl, _, rfl, ?_⟩⟩
    have eq5 := s5 _ _ eq4
    have P5 := P4.same s5
    refine itF (by rw [str_same]; rfl) ?_
    have hin := instOf_text hy hok
    have htl := instT_len (opF_mem hy) hok
    have htp : 1 ≤ (instT y g xs).length := instT_pos (opF_mem hy)
    refine ⟨_, rfl, instT y g xs, rfl, Nat.le_trans htl (by decide), fun hn => ?_, fun y' xs' hs H6 p6 s6 e6 => ?_⟩
    · rw [hin] at hn
      cases hn
    rw [hin] at hs
    cases hs
    rw [insV_some] at e6
    refine ⟨_, _, rfl, rep_tup hy hok (.inl (.inl e6)), _, rfl, _, _, rfl, rep_tup hy hok (.inl (.inl (s6 _ _ eq5))), rfl, _, rfl, itF (by rw [str_same]; rfl) ?_⟩
    have P6 := P5.same s6
    generalize instT y g xs = t0 at htl htp
    refine ⟨4, rfl, by decide, by decide, for_range (n := 4) (fun i σ H' => ∃ (t : Str) (v2 v3 v5 : Option V), σ = [some (.ref a), some (.ref p), v2, v3, some (.str t), v5] ∧ Pot H' p ∧ 1 ≤ t.length ∧ t.length ≤ 30 + 3 * i)
      ⟨t0, _, _, _, rfl, P6, htp, by omega⟩ ?_ ?_⟩
    · rintro i σ H7 hi ⟨t, w2, w3, w5, rfl, P7, h1, h2⟩
      refine ⟨_, rfl, _, rfl, _, rfl, (show 3 ≤ sizeLine by decide), fun l nl => ?_⟩
      have sl := same_new (o := .lst [V.str "", .str "", .str " 0"]) nl
      refine ⟨p, l, _, rfl, P7.same sl, upd_same, P7.ne_none nl, (show 1 ≤ 3 by decide), (show 3 ≤ 100 by decide), fun H8 v k8 P8 hv => ?_⟩
      obtain ⟨z, rfl, hz⟩ : ∃ z : Str, v = .str z ∧ z.length ≤ 2 := by
        simp only [List.mem_cons, List.not_mem_nil, or_false] at hv
        rcases hv with e | e | e <;> exact ⟨_, e, by decide +kernel⟩
      have hlen : (t ++ z).length = t.length + z.length := by rw [len_tl, tl_append, List.length_append, ← len_tl, ← len_tl]
      refine ⟨_, _, rfl, rfl, Nat.le_trans (show t.length + z.length ≤ 50 by omega) (by decide), p, t ++ z, rfl, P8, by omega, by omega, fun H9 t' k9 P9 ht' => ?_⟩
      have hlt : t'.length ≤ 30 + 3 * (i + 1) := by omega
      refine ⟨_, rfl, rfl, _, rfl, ?_⟩
      by_cases he : t' = ""
      · subst he
        refine itT (str_same _) (iteT ?_)
        refine ⟨_, rfl, rfl, _, rfl, itT (str_same _) ?_⟩
        have hn : instOf "" = none := by decide +kernel
        refine ⟨"", rfl, by decide, fun _ H10 s10 => ⟨rfl, q _⟩, fun y' xs' hs => ?_⟩
        rw [hn] at hs
        cases hs
      · refine itF (decide_eq_false fun e => he (V.str.inj e)) ?_
        have hpos : 1 ≤ t'.length := by
          refine Nat.pos_of_ne_zero fun e => he (ext_tl ?_)
          rw [len_tl] at e
          exact List.eq_nil_of_length_eq_zero e
        have hl1000 : t'.length ≤ 1000 := by omega
        cases hin' : instOf t' with
        | none =>
          refine ⟨_, rfl, t', rfl, hl1000, fun _ H10 s10 => ⟨_, "None", rfl, .inl ⟨rfl, rfl⟩, _, rfl, t', rfl, hl1000, fun _ H11 s11 => ⟨_, "None", rfl, .inl ⟨rfl, rfl⟩, rfl, _, rfl, itF (by rw [str_same]; rfl) ?_⟩, fun y' xs' hs => ?_⟩, fun y' xs' hs => ?_⟩
          · exact ⟨t', _, _, _, rfl, (P9.same s10).same s11, hpos, hlt⟩
          · rw [hin'] at hs
            cases hs
          · rw [hin'] at hs
            cases hs
        | some r =>
          obtain ⟨y1, xs1⟩ := r
          obtain ⟨g1, ms, hy1, rfl, hok1⟩ := instOf_inv hin'
          refine ⟨_, rfl, t', rfl, hl1000, fun hn => ?_, fun y' xs' hs H10 p10 s10 e10 => ?_⟩
          · rw [hin'] at hn
            cases hn
          rw [hin'] at hs
          cases hs
          rw [insV_some] at e10
          refine ⟨_, _, rfl, rep_tup hy1 hok1 (.inl (.inl e10)), _, rfl, t', rfl, hl1000, fun hn => ?_, fun y'' xs'' hs H11 p11 s11 e11 => ?_⟩
          · rw [hin'] at hn
            cases hn
          rw [hin'] at hs
          cases hs
          rw [insV_some] at e11
          refine ⟨_, _, rfl, rep_tup hy1 hok1 (.inl (.inl e11)), rfl, _, rfl, itF (by rw [str_same]; rfl) ?_⟩
          exact ⟨t', _, _, _, rfl, (P9.same s10).same s11, hpos, hlt⟩
    · rintro σ H7 ⟨t, w2, w3, w5, rfl, P7, _, _⟩
      exact ⟨_, _, _, _, rfl, P7⟩
  · rintro σ H2 ⟨v2, v3, v4, v5, rfl, P2⟩
    refine ⟨(show 1 ≤ sizeLine by decide), fun p1 n1 => ?_⟩
    have okn : Okx 6 [] := ⟨rfl, (fun i hi => nomatch hi), (fun b hb => nomatch hb)⟩
    refine ⟨p1, "nop", [], 6, rfl, .inl (.inl upd_same), by decide +kernel, okn, fun H3 s3 => ⟨rfl, _, rfl, itT (decide_eq_true (congrArg V.str (show instT "nop" 6 [] = "nop" by decide +kernel))) ?_⟩⟩
    have oks : Okx 1 [3, 1, -2] := by
      refine ⟨rfl, ?_, ?_⟩
      · decide
      · intro b hb v hv
        cases hb
        cases hv
        decide
    have est : instOf "st r3 r1 -2" = some (("st" : Str), ([3, 1, -2] : List Int).map some) := by
      have e : ("st r3 r1 -2" : Str) = instT "st" 1 [3, 1, -2] := by decide +kernel
      rw [e]
      exact instOf_text (by decide +kernel) oks
    refine ⟨"st r3 r1 -2", rfl, by decide +kernel, fun hn => ?_, fun y' xs' hs H4 p4 s4 e4 => ?_⟩
    · rw [est] at hn
      cases hn
    rw [est] at hs
    cases hs
    rw [insV_some] at e4
    refine ⟨_, rfl, (show 4 ≤ sizeLine by decide), fun p5 n5 => ?_⟩
    have e4' := (same_new (o := .tup [V.str "st", .int 3, .int 1, .int (-2)]) n5) _ _ e4
    refine ⟨.tuple [.str "st", .int 3, .int 1, .int (-2)], .tuple [.str "st", .int 3, .int 1, .int (-2)], .tup (.inl (.inl e4')) (.cons (.str _) (.cons (.int _) (.cons (.int _) (.cons (.int _) .nil)))),
      .tup (.inl (.inl upd_same)) (.cons (.str _) (.cons (.int _) (.cons (.int _) (.cons (.int _) .nil)))), by decide +kernel, by decide +kernel, ?_⟩
    have ee : PyData.eqv (.tuple [.str "st", .int 3, .int 1, .int (-2)]) (.tuple [.str "st", .int 3, .int 1, .int (-2)]) = true := by decide +kernel
    rw [ee]
    exact q _
end
end K18

/-! What the top has written, the law at its place, the end. -/
namespace K18
open PySem PySem.Spec PyProof.Rows L2 TL
/-! ### the law's call, from the state that the top has left -/
/-- the script, known to the object, if it isn't one of the module's own -/
def scriptH (K : PySem.W.Frag) (a : Addr) (o : Obj) (u : HO) : Hp := fun b => if b = a ∧ K.lookup a = none then some (.frz o u) else none
theorem scriptH_some {K : PySem.W.Frag} {a b : Addr} {o : Obj} {u v : HO} (h : scriptH K a o u b = some v) : b = a ∧ K.lookup a = none ∧ v = .frz o u := by
  unfold scriptH at h
  split at h
  · rename_i c
    exact ⟨c.1, c.2, (Option.some.inj h).symm⟩
  · cases h
theorem at_caller {P : Program} {w : World} {K : PySem.W.Frag} {mg mb : Str → Option Value} {fa a : Addr} {s : Shared} {vs : List Value} {ns : List Int}
    (KX : K.In s.heap) (hns : s.heap.Ns mainGlobals mg) (hb : s.heap.Ns builtinsNs mb) (hbb : ∀ x : Str, x ≠ "__name__" → mb x = bootBuiltins x) (hlim : s.heap.NoLimit) (hg : s.gens = #[])
    (ha : s.heap.get? a = some { cls := .type "list", data := .seq vs.toArray }) (hi : IntsAre vs ns) (hl : ns.length ≤ sizeLine)
    (run : ∀ (base : Heap) (H : Hp), K.In base → base.Ns mainGlobals mg → Env0 P w K mg base callerA [] s H → SqL K H a (ns.map V.int) →
      codeAny (model P w) callerA (.call (.ref fa) ⟨[.ref a], []⟩) (CR CX0 [] P w H s (fun v _ => v = .bl true) E0) s) :
    codeAny (model P w) callerA (.call (.ref fa) ⟨[.ref a], []⟩) (fun r s' => r = .ok (.ret (.bool true)) ∧ OldK s.heap s'.heap ∧ s'.os = s.os ∧ AllBare s'.gens) s := by
  have rv : Vals (ns.map V.int) vs := vals_ints hi
  have lv : vs.length = ns.length := hi.length
  let o : Obj := { cls := .type "list", data := .seq vs.toArray }
  let u : HO := .lst (ns.map V.int)
  have hok : HOk P w (scriptH K a o u) s.heap := by
    intro b v e
    obtain ⟨rfl, _, rfl⟩ := scriptH_some e
    exact ⟨ha, by rw [List.length_map]; exact hl, vs, _, rv, ha⟩
  have hS : SqL K (scriptH K a o u) a (ns.map V.int) := by
    cases hk : K.lookup a with
    | none => exact .inl (.inr ⟨o, if_pos ⟨rfl, hk⟩⟩)
    | some o' =>
      have e := KX a o' hk
      rw [ha] at e
      cases e
      exact .inr ⟨_, vs.toArray, _, hk, rfl, rfl, rfl, by rw [List.size_toArray, lv]; exact hl, by simpa using rv⟩
  have away : ∀ {b : Addr} {o' : Obj}, s.heap.get? b = some o' → (∀ es ep, o'.data = .dict es ep → scriptH K a o u b = none) := by
    intro b o' e es ep d
    cases q : scriptH K a o u b with
    | none => rfl
    | some v =>
      obtain ⟨rfl, _, _⟩ := scriptH_some q
      rw [ha] at e
      cases e
      cases d
  have nsK : ∀ {b : Addr} {m : Str → Option Value}, s.heap.Ns b m → (hidT s.heap (scriptH K a o u)).Ns b m := by
    rintro b m ⟨o', es, ep, e, d, r⟩
    exact ⟨o', es, ep, hidT_get e (away e es ep d), d, r⟩
  have inB : K.In (hidT s.heap (scriptH K a o u)) := by
    intro b o' e
    refine hidT_get (KX b o' e) ?_
    cases q : scriptH K a o u b with
    | none => rfl
    | some v =>
      obtain ⟨rfl, z, _⟩ := scriptH_some q
      rw [z] at e
      cases e
  have M : Mod K mg (hidT s.heap (scriptH K a o u)) := by
    obtain ⟨mc, h1, h2⟩ := hlim
    exact ⟨inB, nsK hns, ⟨mb, nsK hb, hbb⟩, ⟨mc, nsK h1, h2⟩⟩
  have env : Env0 P w K mg (hidT s.heap (scriptH K a o u)) callerA [] s (scriptH K a o u) :=
    ⟨rfl, M, fun _ _ e => of_hidT e, Nat.le_of_eq (hidT_size _ _), trivial, fun b hb => absurd (show b ∈ ([] : List Addr) from hb) (by simp), hok, .of_eq hg⟩
  refine codeAny_mono (run _ _ inB (nsK hns) env hS) fun r s' h => ?_
  match r, h with
  | .error _, h => exact h.elim
  | .ok .next, h => exact h.elim
  | .ok .brk, h => exact h.elim
  | .ok .cont, h => exact h.elim
  | .ok (.ret z), h =>
    obtain ⟨v, H', os, bare, un, hok', r', q⟩ := h
    have q' : v = .bl true := q
    subst q'
    obtain rfl : z = Value.bool true := r'
    refine ⟨rfl, OldK.of_keep fun b ob e => ?_, os, bare⟩
    cases q : scriptH K a o u b with
    | none => exact un.keep b ob e q (fun z => absurd (show b ∈ ([] : List Addr) from z) (by simp)) (by simp)
    | some v =>
      obtain ⟨rfl, _, rfl⟩ := scriptH_some q
      obtain ⟨e1, _⟩ := hok _ _ q
      obtain ⟨e2, _⟩ := hok' _ _ (un.frzs _ _ _ q)
      rw [e] at e1
      cases e1
      exact e2

/-! ### facts of the top -/
/-- a def as it stands behind the top -/
def DefAt (K : PySem.W.Frag) (x : Str) (st : Stmt) : Prop := ∃ (f : Addr) (oc : Value) (od : Option Addr) (kV doc pm : Value) (an : Option Addr) (cdv ct : Value) (osl : Array (Option Value)),
  PySem.W.nsIn K mainGlobals x = some (some (.ref f)) ∧ K.lookup f = some ⟨oc, od, .func (PySem.W.fnOf x x (defArgs st) (defBody st) (defScope st) .none kV doc pm an cdv ct), osl⟩ ∧ PySem.W.codeIn K cdv x = true ∧ PySem.W.keepIn K (.ref f) = true
theorem DefAt.at_ {K : PySem.W.Frag} {h : Heap} {mg : Str → Option Value} {x : Str} {st : Stmt} (d : DefAt K x st) (KX : K.In h) (G : h.Ns mainGlobals mg) : At K mg x st := by
  obtain ⟨f, oc, od, kV, doc, pm, an, cdv, ct, osl, a, l, c, k⟩ := d
  exact ⟨f, _, PySem.W.mg_of KX G a, fun_mk l c k⟩
def entS (e : DictEntry) : Option (Str × Str) := match e.key, e.val with
  | .str x _, .str y _ => some (x, y)
  | _, _ => none
def formsTab : List (Str × Str) := [("add", "three"), ("sub", "three"), ("mul", "three"), ("div", "three"), ("and", "three"), ("or", "three"), ("xor", "three"), ("shl", "three"), ("shr", "three"), ("low", "three"), ("eq", "three"), ("addi", "near"), ("ld", "near"), ("st", "near"), ("jr", "near"),
  ("lim", "byte"), ("lhi", "byte"), ("bz", "far"), ("bnz", "far"), ("jal", "far"), ("sys", "call"), ("rdc", "control"), ("wrc", "control"), ("ret", "bare"), ("halt", "bare"), ("nop", "bare")]
theorem tab_names : formsTab.map (fun r => r.1) = names := by decide +kernel
theorem tab_forms : ∀ r ∈ formsTab, (opF r.1).map formName = some r.2 := by decide +kernel
/-- what the entries say, text by text -/
theorem find_ent : ∀ (L : List DictEntry) (R : List (Str × Str)) (z : Str), L.map entS = R.map some →
    (match L.find? (fun e => e.key.isStr z) with
      | some e => ∃ r ∈ R, r.1 = z ∧ RelV (.str r.2) e.val
      | none => z ∉ R.map (fun r => r.1) ∧ L.any (fun e => e.refKey) = false)
  | [], [], z, _ => ⟨by simp, rfl⟩
  | [], _ :: _, _, h => by cases h
  | _ :: _, [], _, h => by cases h
  | e :: L, r :: R, z, h => by
    rw [List.map_cons, List.map_cons] at h
    injection h with h1 h2
    obtain ⟨x, t, y, t', ek, ev, er⟩ : ∃ x t y t', e.key = .str x t ∧ e.val = .str y t' ∧ r = (x, y) := by
      unfold entS at h1
      split at h1
      · rename_i x t y t' k v
        exact ⟨x, t, y, t', k, v, (Option.some.inj h1).symm⟩
      · cases h1
    subst er
    have hk : e.key.isStr z = decide (x = z) := by
      rw [ek]
      first | rfl | (show (x == z) = _; rw [beq_eq_decide]) | (show (z == x) = _; rw [Bool.beq_comm, beq_eq_decide])
    have hr : e.refKey = false := by
      unfold DictEntry.refKey
      rw [ek]
      try rfl
    have ih := find_ent L R z h2
    rw [List.find?_cons, hk]
    by_cases hx : x = z
    · rw [decide_eq_true hx]
      exact ⟨(x, y), List.mem_cons_self .., hx, t', ev⟩
    · rw [decide_eq_false hx]
      dsimp only
      cases hf : L.find? (fun e => e.key.isStr z) with
      | some e2 =>
        rw [hf] at ih
        obtain ⟨r, hr, k⟩ := ih
        exact ⟨r, List.mem_cons_of_mem _ hr, k⟩
      | none =>
        rw [hf] at ih
        obtain ⟨i1, i2⟩ := ih
        refine ⟨fun hm => ?_, ?_⟩
        · rw [List.map_cons] at hm
          rcases List.mem_cons.mp hm with q | q
          · exact hx q.symm
          · exact i1 q
        · rw [List.any_cons, hr, i2]
          rfl
theorem forms_of {K : PySem.W.Frag} {d : Addr} {dd : Option Addr} {es : Array DictEntry} {n : Nat} {sl : Array (Option Value)} (l : K.lookup d = some ⟨.type "dict", dd, .dict es n, sl⟩) (t : es.toList.map entS = formsTab.map some) (z : Str) :
    (opF z = none ∧ PySem.W.nsIn K d z = some none) ∨ ∃ f u, opF z = some f ∧ PySem.W.nsIn K d z = some (some u) ∧ RelV (.str (formName f)) u := by
  have k := find_ent es.toList formsTab z t
  unfold PySem.W.nsIn
  rw [l]
  dsimp only
  cases hf : es.toList.find? (fun e => e.key.isStr z) with
  | some e =>
    rw [hf] at k
    obtain ⟨r, hr, rfl, rv⟩ := k
    have q := tab_forms r hr
    cases ho : opF r.1 with
    | none =>
      rw [ho] at q
      cases q
    | some f =>
      rw [ho] at q
      refine .inr ⟨f, e.val, rfl, rfl, ?_⟩
      rw [Option.some.inj q]
      exact rv
  | none =>
    rw [hf] at k
    obtain ⟨k1, k2⟩ := k
    rw [tab_names] at k1
    refine .inl ⟨?_, ?_⟩
    · cases ho : opF z with
      | none => rfl
      | some f => exact absurd (opF_mem ho) k1
    · rw [if_neg (by rw [k2]; decide)]
/-- a row of the program's table of shapes, at p -/
def RowAt (K : PySem.W.Frag) (d : Addr) (f : Nat) : Prop := ∃ (p : Addr) (dd : Option Addr) (t0 t1 t2 t3 : Tok) (r b lo hi : Int) (n : Nat) (sl : Array (Option Value)),
  PySem.W.nsIn K d (formName f) = some (some (.ref p)) ∧ K.lookup p = some ⟨.type "tuple", dd, .seq #[.int r t0, .int b t1, .int lo t2, .int hi t3] n, sl⟩ ∧ progRow f = [.int r, .int b, .int lo, .int hi]
theorem RowAt.row {K : PySem.W.Frag} {d : Addr} {f : Nat} (h : RowAt K d f) : ∃ p, PySem.W.nsIn K d (formName f) = some (some (.ref p)) ∧ ∀ H : Hp, SqT K H p (progRow f) := by
  obtain ⟨p, dd, t0, t1, t2, t3, r, b, lo, hi, n, sl, h1, h2, h3⟩ := h
  refine ⟨p, h1, fun H => .inr ⟨_, _, n, h2, rfl, rfl, (show 4 ≤ sizeLine by decide), ?_⟩⟩
  rw [h3]
  exact .cons ⟨_, rfl⟩ (.cons ⟨_, rfl⟩ (.cons ⟨_, rfl⟩ (.cons ⟨_, rfl⟩ .nil)))
/-- an error of the class at C is what «except C» names -/
theorem exm_own {K : PySem.W.Frag} {C : Addr} (h1 : PySem.W.subIn K (.ref C) (.type "BaseException") = some true) (h2 : PySem.W.isClsIn K C = true) (h3 : PySem.W.typeIn K (.ref C) = some (.type "type")) (h4 : PySem.W.subIn K (.ref C) (.ref C) = some true) :
    PySem.W.exmOne K (.ref C) (.ref C) = some true := by
  have e1 : (PySem.W.subIn K (.ref C) (.type "BaseException") == some true) = true := by rw [h1]; rfl
  have e2 : ((PySem.W.clsIn K C).isSome && PySem.W.typeIn K (.ref C) == some (.type "type")) = true := by
    rw [show (PySem.W.clsIn K C).isSome = true from h2, h3]
    rfl
  have e3 : PySem.W.kitCls K (.ref C) (.ref C) = PySem.W.subIn K (.ref C) (.ref C) := if_pos e2
  unfold PySem.W.exmOne
  rw [if_pos e1, e3]
  exact h4

/-- all that the top has left for the law -/
structure Facts (K : PySem.W.Frag) (w : World) : Prop where
  d0 : DefAt K "is_integer" sIsInt
  d1 : DefAt K "is_count" sIsCnt
  d2 : DefAt K "is_instruction_value" sIsIns
  d3 : DefAt K "want_instruction" sWantI
  d4 : DefAt K "listing_text" sLText
  d5 : DefAt K "register_in" sRegIn
  d6 : DefAt K "integer_in" sIntIn
  d7 : DefAt K "listing_instruction" sLInst
  d8 : DefAt K "text_of" sTextOf
  d9 : DefAt K "instruction_of" sInstOf
  d10 : DefAt K "_law_pot" sPot
  d11 : DefAt K "_law_draw" sDraw
  d12 : DefAt K "_law_pick" sPick
  d13 : DefAt K "_law_names" sNames
  d14 : DefAt K "_law_form" sForm
  d15 : DefAt K "_law_shape" sShape
  d16 : DefAt K "_law_drawn" sDrawn
  d17 : DefAt K "_law_text" sText
  d18 : DefAt K "_law_number" sNumber
  d19 : DefAt K "_law_read" sRead
  d20 : DefAt K "_law_heard" sHeard
  d21 : DefAt K "_law_bent" sBent
  d22 : DefAt K "law" sLaw
  z_len : PySem.W.nsIn K mainGlobals "len" = some none
  z_isinstance : PySem.W.nsIn K mainGlobals "isinstance" = some none
  z_int : PySem.W.nsIn K mainGlobals "int" = some none
  z_bool : PySem.W.nsIn K mainGlobals "bool" = some none
  z_str : PySem.W.nsIn K mainGlobals "str" = some none
  z_tuple : PySem.W.nsIn K mainGlobals "tuple" = some none
  z_all : PySem.W.nsIn K mainGlobals "all" = some none
  z_range : PySem.W.nsIn K mainGlobals "range" = some none
  z_divmod : PySem.W.nsIn K mainGlobals "divmod" = some none
  z_abs : PySem.W.nsIn K mainGlobals "abs" = some none
  z_max : PySem.W.nsIn K mainGlobals "max" = some none
  z_repr : PySem.W.nsIn K mainGlobals "repr" = some none
  most : ∃ t, PySem.W.nsIn K mainGlobals "MOST_REGISTER" = some (some (.int 7 t))
  figs : ∃ t, PySem.W.nsIn K mainGlobals "FIGURES" = some (some (.str "0123456789" t))
  mostF : ∃ t, PySem.W.nsIn K mainGlobals "MOST_FIGURES" = some (some (.int 3 t))
  forms : ∃ (d : Addr) (es : Array DictEntry) (n : Nat), PySem.W.nsIn K mainGlobals "FORMS" = some (some (.ref d)) ∧ K.lookup d = some ⟨.type "dict", none, .dict es n, #[]⟩ ∧ es.toList.map entS = formsTab.map some ∧ PySem.W.KeysLit w.params es.toList ∧ (d == sysModules) = false
  shapes : ∃ (d : Addr) (es : Array DictEntry) (n : Nat), PySem.W.nsIn K mainGlobals "SHAPES" = some (some (.ref d)) ∧ K.lookup d = some ⟨.type "dict", none, .dict es n, #[]⟩ ∧ PySem.W.KeysLit w.params es.toList ∧ (d == sysModules) = false ∧
    RowAt K d 0 ∧ RowAt K d 1 ∧ RowAt K d 2 ∧ RowAt K d 3 ∧ RowAt K d 4 ∧ RowAt K d 5 ∧ RowAt K d 6
  err : ∃ (C fI : Addr), PySem.W.nsIn K mainGlobals "InvalidListing" = some (some (.ref C)) ∧
    (∃ nm q N bs bm sn sub ab col dd k0 k1 k2 k3 k5, K.lookup C = some (excClassObj nm q C N bs bm true sn sub ab col dd k0 k1 k2 k3 k5 "ValueError.__new__") ∧ PySem.HandSPX.refsVE bm = true) ∧
    PySem.W.findIn K (.ref C) "__setattr__" = some (some (.builtin "object.__setattr__")) ∧ PySem.W.subIn K (.ref C) (.type "BaseException") = some true ∧ PySem.W.typeIn K (.ref C) = some (.type "type") ∧ PySem.W.keepIn K (.ref C) = true ∧
    PySem.W.findIn K (.ref C) "value" = some none ∧ PySem.W.isClsIn K C = true ∧ PySem.W.subIn K (.ref C) (.ref C) = some true ∧
    PySem.W.findIn K (.ref C) "__init__" = some (some (.ref fI)) ∧ PySem.W.typeIn K (.ref fI) = some (.type "function") ∧
    ∃ (oc : Value) (od : Option Addr) (kV doc pm : Value) (an : Option Addr) (cdv ct : Value) (osl : Array (Option Value)),
      K.lookup fI = some ⟨oc, od, .func (PySem.W.fnOf "__init__" "CoreError.__init__" (defArgs sInit) (defBody sInit) (defScope sInit) .none kV doc pm an cdv ct), osl⟩ ∧ PySem.W.codeIn K cdv "CoreError.__init__" = true ∧ PySem.W.keepIn K (.ref fI) = true
/-! the facts, each by its parts (the addresses are found with the parts) -/
section
variable {K : PySem.W.Frag} {w : World}
theorem DefAt.mk {x : Str} {st : Stmt} {f : Addr} {oc : Value} {od : Option Addr} {kV doc pm : Value} {an : Option Addr} {cdv ct : Value} {osl : Array (Option Value)}
    (a : PySem.W.nsIn K mainGlobals x = some (some (.ref f))) (l : K.lookup f = some ⟨oc, od, .func (PySem.W.fnOf x x (defArgs st) (defBody st) (defScope st) .none kV doc pm an cdv ct), osl⟩) (c : PySem.W.codeIn K cdv x = true) (k : PySem.W.keepIn K (.ref f) = true) : DefAt K x st :=
  ⟨f, oc, od, kV, doc, pm, an, cdv, ct, osl, a, l, c, k⟩
theorem int_mk {x : Str} {i : Int} {t : Tok} (a : PySem.W.nsIn K mainGlobals x = some (some (.int i t))) : ∃ t, PySem.W.nsIn K mainGlobals x = some (some (.int i t)) := ⟨t, a⟩
theorem str_mk {x y : Str} {t : Tok} (a : PySem.W.nsIn K mainGlobals x = some (some (.str y t))) : ∃ t, PySem.W.nsIn K mainGlobals x = some (some (.str y t)) := ⟨t, a⟩
theorem RowAt.mk {d : Addr} {f : Nat} {p : Addr} {dd : Option Addr} {t0 t1 t2 t3 : Tok} {r b lo hi : Int} {n : Nat} {sl : Array (Option Value)}
    (a : PySem.W.nsIn K d (formName f) = some (some (.ref p))) (l : K.lookup p = some ⟨.type "tuple", dd, .seq #[.int r t0, .int b t1, .int lo t2, .int hi t3] n, sl⟩) (e : progRow f = [.int r, .int b, .int lo, .int hi]) : RowAt K d f :=
  ⟨p, dd, t0, t1, t2, t3, r, b, lo, hi, n, sl, a, l, e⟩
theorem Facts.forms_mk {d : Addr} {es : Array DictEntry} {n : Nat} (a : PySem.W.nsIn K mainGlobals "FORMS" = some (some (.ref d))) (l : K.lookup d = some ⟨.type "dict", none, .dict es n, #[]⟩) (t : es.toList.map entS = formsTab.map some)
    (k : PySem.W.KeysLit w.params es.toList) (s : (d == sysModules) = false) :
    ∃ (d : Addr) (es : Array DictEntry) (n : Nat), PySem.W.nsIn K mainGlobals "FORMS" = some (some (.ref d)) ∧ K.lookup d = some ⟨.type "dict", none, .dict es n, #[]⟩ ∧ es.toList.map entS = formsTab.map some ∧ PySem.W.KeysLit w.params es.toList ∧ (d == sysModules) = false :=
  ⟨d, es, n, a, l, t, k, s⟩
theorem Facts.shapes_mk {d : Addr} {es : Array DictEntry} {n : Nat} (a : PySem.W.nsIn K mainGlobals "SHAPES" = some (some (.ref d))) (l : K.lookup d = some ⟨.type "dict", none, .dict es n, #[]⟩)
    (k : PySem.W.KeysLit w.params es.toList) (s : (d == sysModules) = false) (r0 : RowAt K d 0) (r1 : RowAt K d 1) (r2 : RowAt K d 2) (r3 : RowAt K d 3) (r4 : RowAt K d 4) (r5 : RowAt K d 5) (r6 : RowAt K d 6) :
    ∃ (d : Addr) (es : Array DictEntry) (n : Nat), PySem.W.nsIn K mainGlobals "SHAPES" = some (some (.ref d)) ∧ K.lookup d = some ⟨.type "dict", none, .dict es n, #[]⟩ ∧ PySem.W.KeysLit w.params es.toList ∧ (d == sysModules) = false ∧
      RowAt K d 0 ∧ RowAt K d 1 ∧ RowAt K d 2 ∧ RowAt K d 3 ∧ RowAt K d 4 ∧ RowAt K d 5 ∧ RowAt K d 6 :=
  ⟨d, es, n, a, l, k, s, r0, r1, r2, r3, r4, r5, r6⟩
theorem Facts.err_mk {C fI : Addr} {nm q N bs bm sn sub ab col dd k0 k1 k2 k3 k5} {oc : Value} {od : Option Addr} {kV doc pm : Value} {an : Option Addr} {cdv ct : Value} {osl : Array (Option Value)}
    (a : PySem.W.nsIn K mainGlobals "InvalidListing" = some (some (.ref C))) (o : K.lookup C = some (excClassObj nm q C N bs bm true sn sub ab col dd k0 k1 k2 k3 k5 "ValueError.__new__")) (rv : PySem.HandSPX.refsVE bm = true)
    (sa : PySem.W.findIn K (.ref C) "__setattr__" = some (some (.builtin "object.__setattr__"))) (ex : PySem.W.subIn K (.ref C) (.type "BaseException") = some true) (ty : PySem.W.typeIn K (.ref C) = some (.type "type")) (kp : PySem.W.keepIn K (.ref C) = true)
    (nv : PySem.W.findIn K (.ref C) "value" = some none) (ic : PySem.W.isClsIn K C = true) (su : PySem.W.subIn K (.ref C) (.ref C) = some true)
    (ini : PySem.W.findIn K (.ref C) "__init__" = some (some (.ref fI))) (ti : PySem.W.typeIn K (.ref fI) = some (.type "function"))
    (l : K.lookup fI = some ⟨oc, od, .func (PySem.W.fnOf "__init__" "CoreError.__init__" (defArgs sInit) (defBody sInit) (defScope sInit) .none kV doc pm an cdv ct), osl⟩) (c : PySem.W.codeIn K cdv "CoreError.__init__" = true) (k : PySem.W.keepIn K (.ref fI) = true) :
    ∃ (C fI : Addr), PySem.W.nsIn K mainGlobals "InvalidListing" = some (some (.ref C)) ∧
    (∃ nm q N bs bm sn sub ab col dd k0 k1 k2 k3 k5, K.lookup C = some (excClassObj nm q C N bs bm true sn sub ab col dd k0 k1 k2 k3 k5 "ValueError.__new__") ∧ PySem.HandSPX.refsVE bm = true) ∧
    PySem.W.findIn K (.ref C) "__setattr__" = some (some (.builtin "object.__setattr__")) ∧ PySem.W.subIn K (.ref C) (.type "BaseException") = some true ∧ PySem.W.typeIn K (.ref C) = some (.type "type") ∧ PySem.W.keepIn K (.ref C) = true ∧
    PySem.W.findIn K (.ref C) "value" = some none ∧ PySem.W.isClsIn K C = true ∧ PySem.W.subIn K (.ref C) (.ref C) = some true ∧
    PySem.W.findIn K (.ref C) "__init__" = some (some (.ref fI)) ∧ PySem.W.typeIn K (.ref fI) = some (.type "function") ∧
    ∃ (oc : Value) (od : Option Addr) (kV doc pm : Value) (an : Option Addr) (cdv ct : Value) (osl : Array (Option Value)),
      K.lookup fI = some ⟨oc, od, .func (PySem.W.fnOf "__init__" "CoreError.__init__" (defArgs sInit) (defBody sInit) (defScope sInit) .none kV doc pm an cdv ct), osl⟩ ∧ PySem.W.codeIn K cdv "CoreError.__init__" = true ∧ PySem.W.keepIn K (.ref fI) = true :=
  ⟨C, fI, a, ⟨nm, q, N, bs, bm, sn, sub, ab, col, dd, k0, k1, k2, k3, k5, o, rv⟩, sa, ex, ty, kp, nv, ic, su, ini, ti, oc, od, kV, doc, pm, an, cdv, ct, osl, l, c, k⟩
end
section
variable {P : Program} {w : World} {K : PySem.W.Frag} {mg : Str → Option Value}
theorem Facts.txt {h : Heap} (X : Facts K w) (KX : K.In h) (G : h.Ns mainGlobals mg) : Txt K w mg := by
  obtain ⟨tm, m1⟩ := X.most
  obtain ⟨tf, m2⟩ := X.figs
  obtain ⟨tn, m3⟩ := X.mostF
  obtain ⟨d, es, n, a, l, t, k, low⟩ := X.forms
  obtain ⟨d2, es2, n2, a2, l2, k2, low2, r0, r1, r2, r3, r4, r5, r6⟩ := X.shapes
  exact {
    forms := ⟨d, es, n, PySem.W.mg_of KX G a, ⟨l, k, low⟩, forms_of l t⟩
    shapes := ⟨d2, es2, n2, PySem.W.mg_of KX G a2, ⟨l2, k2, low2⟩, fun f hf => match f, hf with
      | 0, _ => r0.row | 1, _ => r1.row | 2, _ => r2.row | 3, _ => r3.row | 4, _ => r4.row | 5, _ => r5.row | 6, _ => r6.row
      | n + 7, h => absurd h (by omega)⟩
    most := ⟨tm, PySem.W.mg_of KX G m1⟩
    figs := ⟨tf, PySem.W.mg_of KX G m2⟩
    mostF := ⟨tn, PySem.W.mg_of KX G m3⟩
    len := PySem.W.mg_none_of KX G X.z_len
    isi := PySem.W.mg_none_of KX G X.z_isinstance
    int := PySem.W.mg_none_of KX G X.z_int
    bool := PySem.W.mg_none_of KX G X.z_bool
    str := PySem.W.mg_none_of KX G X.z_str
    tuple := PySem.W.mg_none_of KX G X.z_tuple
    all := PySem.W.mg_none_of KX G X.z_all
    range := PySem.W.mg_none_of KX G X.z_range
    divmod := PySem.W.mg_none_of KX G X.z_divmod
    abs := PySem.W.mg_none_of KX G X.z_abs
    max := PySem.W.mg_none_of KX G X.z_max
    repr := PySem.W.mg_none_of KX G X.z_repr }
theorem Facts.errs {h : Heap} (X : Facts K w) (KX : K.In h) (G : h.Ns mainGlobals mg) : ∃ C, Err K mg C := by
  obtain ⟨C, fI, a, cls, sa, ex, ty, kp, nv, ic, su, ini, ti, oc, od, kV, doc, pm, an, cdv, ct, osl, l, c, k⟩ := X.err
  exact ⟨C, PySem.W.mg_of KX G a, ⟨cls, sa, ex, ty, kp⟩, nv, ⟨fI, _, ini, ti, fun_mk l c k⟩, exm_own ex ic ty su⟩
theorem Facts.law {h : Heap} (X : Facts K w) (KX : K.In h) (G : h.Ns mainGlobals mg) {fa : Addr} (hfa : mg "law" = some (.ref fa)) {base : Heap} {s : Shared} {H : Hp} {a : Addr} {ns : List Int}
    (e0 : Env0 P w K mg base callerA [] s H) (hS : SqL K H a (ns.map V.int)) (hl : ns.length ≤ 63) :
    codeAny (model P w) callerA (.call (.ref fa) ⟨[.ref a], []⟩) (CR CX0 [] P w H s (fun v _ => v = .bl true) E0) s := by
  have T := X.txt KX G
  obtain ⟨C, R⟩ := X.errs KX G
  have cI : Cal P w K mg base CX0 1 "is_integer" ["value"] spIsInt := ok_isInt T (X.d0.at_ KX G)
  have cC : Cal P w K mg base CX0 2 "is_count" ["value"] spIsCnt := ok_isCnt T (X.d1.at_ KX G) cI
  have cV : Cal P w K mg base CX0 3 "is_instruction_value" ["value"] (spIsIns K) := ok_isIns T (X.d2.at_ KX G) cI cC
  have cW : Cal P w K mg base CX0 4 "want_instruction" ["value"] (spWantI K) := ok_wantI (X.d3.at_ KX G) cV
  have cL : Cal P w K mg base CX0 1 "listing_text" ["instruction"] (spTextI K) := ok_lText T (X.d4.at_ KX G)
  have cRI : Cal P w K mg base CX0 1 "register_in" ["word"] spRegIn := ok_regIn T (X.d5.at_ KX G)
  have cII : Cal P w K mg base CX0 1 "integer_in" ["word"] spIntIn := ok_intIn T (X.d6.at_ KX G)
  have cLI : Cal P w K mg base CX0 4 "listing_instruction" ["text"] spReader := ok_lInst T (X.d7.at_ KX G) cRI cII cV
  obtain ⟨fX, fdX, mX, FX⟩ := X.d8.at_ KX G
  have GX : FnOk P w K mg base CX0 5 fX fdX ["instruction"] (spTextI K) := ok_textOf FX cL cW
  obtain ⟨fO, fdO, mO, FO⟩ := X.d9.at_ KX G
  have GO : FnOk P w K mg base (L2.CX P w) 5 fO fdO ["text"] (spInstOf C) := ok_instOf R FO cLI
  have cPot : Cal P w K mg base CX0 1 "_law_pot" ["_law_script", "_law_k"] (spPot K) := ok_pot T (X.d10.at_ KX G)
  have cD : Cal P w K mg base CX0 1 "_law_draw" ["_law_pot_here", "_law_size"] spDraw := ok_draw T (X.d11.at_ KX G)
  have cP : Cal P w K mg base CX0 2 "_law_pick" ["_law_pot_here", "_law_some"] spPick := ok_pick T (X.d12.at_ KX G) cD
  have cN : Cal P w K mg base CX0 1 "_law_names" [] spNames := ok_names (X.d13.at_ KX G)
  have cF : Cal P w K mg base CX0 2 "_law_form" ["_law_name"] spForm := ok_form (X.d14.at_ KX G) cN
  have cS : Cal P w K mg base CX0 1 "_law_shape" ["_law_form_here"] spShape := ok_shape (X.d15.at_ KX G)
  have cDr : Cal P w K mg base CX0 3 "_law_drawn" ["_law_pot_here"] spDrawn := ok_drawn T (X.d16.at_ KX G) cD cP cN cF cS
  have cT : Cal P w K mg base CX0 3 "_law_text" ["_law_told"] (spTextI K) := ok_text T (X.d17.at_ KX G) cF cS
  have cM : Cal P w K mg base CX0 1 "_law_number" ["_law_word"] spNumber := ok_number T (X.d18.at_ KX G)
  have cRd : Cal P w K mg base CX0 3 "_law_read" ["_law_text_here"] spReader := ok_read T (X.d19.at_ KX G) cN cF cS cM
  have cH : Cal P w K mg base CX0 6 "_law_heard" ["_law_text_here"] spReader := ok_heard R (X.d20.at_ KX G) mO FO GO
  have cB : Cal P w K mg base CX0 3 "_law_bent" ["_law_pot_here", "_law_text_here"] spBent := ok_bent T (X.d21.at_ KX G) cD cP
  obtain ⟨fL, fdL, mL, FL⟩ := X.d22.at_ KX G
  obtain rfl : fL = fa := by
    rw [mL] at hfa
    cases hfa
    rfl
  have bL : Binds K fdL ["_law_script"] [] := FL.binds fun _ _ _ _ _ _ us hl => match us, hl with | [_], _ => rfl
  have bind := bL s [.ref a] (e0.mod.kin.keeps fun b o z => (e0.bs b o z).1) rfl
  exact law_run T FL mO FO GO mX FX GX cPot cP cDr cT cRd cH cB rfl ⟨rfl, by decide, by decide⟩ e0 bind hS hl fun _ => rfl
end
end K18

namespace K18
open PySem PySem.W PySem.Spec PyProof.Rows L2
theorem walk_end {l : OpenLaw} {q : Program} {loose : List Str} {XP : (Str → Option Value) → Heap → Prop} {YP : World → Heap → Prop} {d : DefRec} {K : Params → PySem.W.Frag}
    (hn : l.most = some 63) (hdf : d.params.defaults = []) (hnm : d.name = "law") (hY : ∀ (w : World) (h : Heap), YP w h → (K w.params).In h)
    (X : ∀ w : World, Facts (K w.params) w) :
    WalkO q loose XP YP l.row.toRowW d [] (fun f vs => PySem.call f vs) := by
  refine Att.attach_call hn hdf fun w s₀ s₁ mg mb fa o pm cd doc a vs ns G Y ho hd hcd hmg hobj hints hlen hg => ?_
  have KX := hY w _ Y
  rw [hnm] at hmg
  exact at_caller KX G.T.g G.T.b G.T.builtins G.T.nolimit hg hobj hints (Nat.le_trans hlen (by decide)) fun base H _ _ e0 hS => (X w).law KX G.T.g hmg e0 hS hlen
end K18
open PySem PySem.W PyProof.Rows in
set_option maxRecDepth 100000 in
set_option maxHeartbeats 0 in
theorem PySem.Challenge.cw_orderlycore_k18_whole_listing_holds : PySem.Challenge.rw_orderlycore_k18_whole_listing.Holds := by
  w_on; o_law; k_head; (case hw => w_witness2)
  k_fill
  refine K18.walk_end (l := PySem.Challenge.rw_orderlycore_k18_whole_listing) rfl rfl rfl (fun w h Y => PySem.W.kIn_of Y) ?F
  case F =>
    intro w
    refine' K18.Facts.mk ?d0 ?d1 ?d2 ?d3 ?d4 ?d5 ?d6 ?d7 ?d8 ?d9 ?d10 ?d11 ?d12 ?d13 ?d14 ?d15 ?d16 ?d17 ?d18 ?d19 ?d20 ?d21 ?d22 ?z0 ?z1 ?z2 ?z3 ?z4 ?z5 ?z6 ?z7 ?z8 ?z9 ?z10 ?z11 ?most ?figs ?mostF ?forms ?shapes ?err
    case d0 =>
      refine' K18.DefAt.mk ?a ?l ?c ?k
      (case a => k_is)
      (case l => k_is)
      (case c => k_is)
      (case k => k_is)
    case d1 =>
      refine' K18.DefAt.mk ?a ?l ?c ?k
      (case a => k_is)
      (case l => k_is)
      (case c => k_is)
      (case k => k_is)
    case d2 =>
      refine' K18.DefAt.mk ?a ?l ?c ?k
      (case a => k_is)
      (case l => k_is)
      (case c => k_is)
      (case k => k_is)
    case d3 =>
      refine' K18.DefAt.mk ?a ?l ?c ?k
      (case a => k_is)
      (case l => k_is)
      (case c => k_is)
      (case k => k_is)
    case d4 =>
      refine' K18.DefAt.mk ?a ?l ?c ?k
      (case a => k_is)
      (case l => k_is)
      (case c => k_is)
      (case k => k_is)
    case d5 =>
      refine' K18.DefAt.mk ?a ?l ?c ?k
      (case a => k_is)
      (case l => k_is)
      (case c => k_is)
      (case k => k_is)
    case d6 =>
      refine' K18.DefAt.mk ?a ?l ?c ?k
      (case a => k_is)
      (case l => k_is)
      (case c => k_is)
      (case k => k_is)
    case d7 =>
      refine' K18.DefAt.mk ?a ?l ?c ?k
      (case a => k_is)
      (case l => k_is)
      (case c => k_is)
      (case k => k_is)
    case d8 =>
      refine' K18.DefAt.mk ?a ?l ?c ?k
      (case a => k_is)
      (case l => k_is)
      (case c => k_is)
      (case k => k_is)
    case d9 =>
      refine' K18.DefAt.mk ?a ?l ?c ?k
      (case a => k_is)
      (case l => k_is)
      (case c => k_is)
      (case k => k_is)
    case d10 =>
      refine' K18.DefAt.mk ?a ?l ?c ?k
      (case a => k_is)
      (case l => k_is)
      (case c => k_is)
      (case k => k_is)
    case d11 =>
      refine' K18.DefAt.mk ?a ?l ?c ?k
      (case a => k_is)
      (case l => k_is)
      (case c => k_is)
      (case k => k_is)
    case d12 =>
      refine' K18.DefAt.mk ?a ?l ?c ?k
      (case a => k_is)
      (case l => k_is)
      (case c => k_is)
      (case k => k_is)
    case d13 =>
      refine' K18.DefAt.mk ?a ?l ?c ?k
      (case a => k_is)
      (case l => k_is)
      (case c => k_is)
      (case k => k_is)
    case d14 =>
      refine' K18.DefAt.mk ?a ?l ?c ?k
      (case a => k_is)
      (case l => k_is)
      (case c => k_is)
      (case k => k_is)
    case d15 =>
      refine' K18.DefAt.mk ?a ?l ?c ?k
      (case a => k_is)
      (case l => k_is)
      (case c => k_is)
      (case k => k_is)
    case d16 =>
      refine' K18.DefAt.mk ?a ?l ?c ?k
      (case a => k_is)
      (case l => k_is)
      (case c => k_is)
      (case k => k_is)
    case d17 =>
      refine' K18.DefAt.mk ?a ?l ?c ?k
      (case a => k_is)
      (case l => k_is)
      (case c => k_is)
      (case k => k_is)
    case d18 =>
      refine' K18.DefAt.mk ?a ?l ?c ?k
      (case a => k_is)
      (case l => k_is)
      (case c => k_is)
      (case k => k_is)
    case d19 =>
      refine' K18.DefAt.mk ?a ?l ?c ?k
      (case a => k_is)
      (case l => k_is)
      (case c => k_is)
      (case k => k_is)
    case d20 =>
      refine' K18.DefAt.mk ?a ?l ?c ?k
      (case a => k_is)
      (case l => k_is)
      (case c => k_is)
      (case k => k_is)
    case d21 =>
      refine' K18.DefAt.mk ?a ?l ?c ?k
      (case a => k_is)
      (case l => k_is)
      (case c => k_is)
      (case k => k_is)
    case d22 =>
      refine' K18.DefAt.mk ?a ?l ?c ?k
      (case a => k_is)
      (case l => k_is)
      (case c => k_is)
      (case k => k_is)
    (case z0 => k_is)
    (case z1 => k_is)
    (case z2 => k_is)
    (case z3 => k_is)
    (case z4 => k_is)
    (case z5 => k_is)
    (case z6 => k_is)
    (case z7 => k_is)
    (case z8 => k_is)
    (case z9 => k_is)
    (case z10 => k_is)
    (case z11 => k_is)
    (case most => refine' K18.int_mk ?a; (case a => k_is))
    (case figs => refine' K18.str_mk ?a; (case a => k_is))
    (case mostF => refine' K18.int_mk ?a; (case a => k_is))
    case forms =>
      refine' K18.Facts.forms_mk ?a ?l ?t ?k ?s
      (case a => k_is)
      (case l => k_is)
      (case t => first | rfl | kernel_rfl)
      (case k => repeat (first | exact True.intro | refine And.intro ⟨_, _, rfl, rfl⟩ ?_))
      (case s => rfl)
    case shapes =>
      refine' K18.Facts.shapes_mk ?a ?l ?k ?s ?r0 ?r1 ?r2 ?r3 ?r4 ?r5 ?r6
      (case a => k_is)
      (case l => k_is)
      (case k => repeat (first | exact True.intro | refine And.intro ⟨_, _, rfl, rfl⟩ ?_))
      (case s => rfl)
      (case r0 => refine' K18.RowAt.mk ?a ?l ?e; (case a => k_is); (case l => k_is); (case e => rfl))
      (case r1 => refine' K18.RowAt.mk ?a ?l ?e; (case a => k_is); (case l => k_is); (case e => rfl))
      (case r2 => refine' K18.RowAt.mk ?a ?l ?e; (case a => k_is); (case l => k_is); (case e => rfl))
      (case r3 => refine' K18.RowAt.mk ?a ?l ?e; (case a => k_is); (case l => k_is); (case e => rfl))
      (case r4 => refine' K18.RowAt.mk ?a ?l ?e; (case a => k_is); (case l => k_is); (case e => rfl))
      (case r5 => refine' K18.RowAt.mk ?a ?l ?e; (case a => k_is); (case l => k_is); (case e => rfl))
      (case r6 => refine' K18.RowAt.mk ?a ?l ?e; (case a => k_is); (case l => k_is); (case e => rfl))
    case err =>
      refine' K18.Facts.err_mk ?a ?o ?rv ?sa ?ex ?ty ?kp ?nv ?ic ?su ?ini ?ti ?l ?c ?k
      (case a => k_is)
      (case o => k_is)
      (case rv => first | rfl | decide +kernel)
      (case sa => first | k_is | rfl)
      (case ex => first | k_is | rfl)
      (case ty => first | k_is | rfl)
      (case kp => first | k_is | rfl)
      (case nv => first | k_is | rfl)
      (case ic => first | k_is | rfl)
      (case su => first | k_is | rfl)
      (case ini => first | k_is | rfl)
      (case ti => first | k_is | rfl)
      (case l => first | k_is | rfl)
      (case c => first | k_is | rfl)
      (case k => first | k_is | rfl)
