import PyProof.Rows.All
import Wide.All
import OpenK.AllK
import Wide.FinOn
import HandS.ForMost
import PySem.Challenge.RW_movedwhole_k06_the_line_where_a_text_is
import HandS.ForExc
import HandS.IsInst
import HandS.NoneIn
import HandS.HotCalls
import HandS.ExcInit
import HandS.Walk
import KE.GoesMore
import PyProof.Draws
import KE.KExcSuper
import KE.RegKSuper
set_option Elab.async false
set_option linter.all false
set_option maxRecDepth 100000
set_option maxHeartbeats 4000000
/-! K6Math: what a word, a line, a text of a world tells: plain Lean over Str. -/
namespace K6
open PySem L2
open TL (tl len_tl ext_tl tl_append)

/-! ### words -/
def isD (c : Nat) : Bool := decide (48 ≤ c) && decide (c ≤ 57)
def toldL : List Nat → Option Nat
  | [c] => if isD c = true then some (c - 48) else none
  | [c, d] => if isD c = true ∧ isD d = true ∧ c ≠ 48 then some ((c - 48) * 10 + (d - 48)) else none
  | _ => none
theorem toldL_1 (c : Nat) : toldL [c] = if isD c = true then some (c - 48) else none := rfl
theorem toldL_2 (c d : Nat) : toldL [c, d] = if isD c = true ∧ isD d = true ∧ c ≠ 48 then some ((c - 48) * 10 + (d - 48)) else none := rfl
/-- the number that a word of one or two figures tells -/
def told (w : Str) : Option Nat := toldL (tl w)
def toldI (w : Str) : Int := match told w with
  | some n => (n : Int)
  | none => -1

theorem mk_of_tl {w : Str} {l : List Nat} (h : tl w = l) : w = ⟨l.toArray⟩ := ext_tl (by rw [h])
theorem isD_iff {c : Nat} : isD c = true ↔ 48 ≤ c ∧ c ≤ 57 := by
  unfold isD
  simp
theorem digits_mem (c : Nat) : decide (c ∈ ("0123456789" : Str).cps.toList) = isD c := by
  have e : ("0123456789" : Str).cps.toList = [48, 49, 50, 51, 52, 53, 54, 55, 56, 57] := by
    show tl (Str.ofString "0123456789") = _
    rw [TL.tl_ofString]
    decide
  rw [e]
  unfold isD
  by_cases h : 48 ≤ c ∧ c ≤ 57
  · rw [decide_eq_true h.1, decide_eq_true h.2]
    refine decide_eq_true ?_
    simp
    omega
  · have h2 : ¬ c ∈ [48, 49, 50, 51, 52, 53, 54, 55, 56, 57] := by
      simp
      omega
    rw [decide_eq_false h2]
    by_cases h3 : 48 ≤ c
    · have h4 : ¬ c ≤ 57 := fun z => h ⟨h3, z⟩
      rw [decide_eq_false h4, Bool.and_false]
    · rw [decide_eq_false h3, Bool.false_and]

theorem int1 : ∀ d : Nat, d < 10 → PySem.intText? ⟨#[48 + d]⟩ = some (d : Int) := by decide +kernel
theorem int2 : ∀ c : Nat, c < 10 → ∀ d : Nat, d < 10 → PySem.intText? ⟨#[48 + c, 48 + d]⟩ = some ((c * 10 + d : Nat) : Int) := by decide +kernel

/-- a word that tells a number -/
inductive Tells : Str → Nat → Prop where
  | one {w : Str} (c : Nat) (h : tl w = [48 + c]) (hc : c < 10) : Tells w c
  | two {w : Str} (c d : Nat) (h : tl w = [48 + c, 48 + d]) (h0 : c ≠ 0) (hc : c < 10) (hd : d < 10) : Tells w (c * 10 + d)
theorem told_tells {w : Str} {n : Nat} (h : told w = some n) : Tells w n := by
  unfold told at h
  match e : tl w, h with
  | [c], h =>
    rw [toldL_1] at h
    by_cases z : isD c = true
    · rw [if_pos z] at h
      have z2 := isD_iff.mp z
      obtain ⟨k, rfl⟩ : ∃ k, c = 48 + k := ⟨c - 48, by omega⟩
      have e2 : n = k := by
        have := Option.some.inj h
        omega
      subst e2
      exact .one n e (by omega)
    · rw [if_neg z] at h
      cases h
  | [c, d], h =>
    rw [toldL_2] at h
    by_cases z : isD c = true ∧ isD d = true ∧ c ≠ 48
    · rw [if_pos z] at h
      have z2 := isD_iff.mp z.1
      have z3 := isD_iff.mp z.2.1
      obtain ⟨k, rfl⟩ : ∃ k, c = 48 + k := ⟨c - 48, by omega⟩
      obtain ⟨j, rfl⟩ : ∃ j, d = 48 + j := ⟨d - 48, by omega⟩
      have e2 : n = k * 10 + j := by
        have := Option.some.inj h
        omega
      subst e2
      exact .two k j e (by have := z.2.2; omega) (by omega) (by omega)
    · rw [if_neg z] at h
      cases h
  | [], h => cases h
  | _ :: _ :: _ :: _, h => cases h
theorem Tells.lt {w : Str} {n : Nat} (h : Tells w n) : n < 100 := by
  cases h with
  | one c h hc => omega
  | two c d h h0 hc hd => omega
theorem Tells.int {w : Str} {n : Nat} (h : Tells w n) : PySem.intText? w = some (n : Int) := by
  cases h with
  | one c h hc =>
    rw [mk_of_tl h]
    exact int1 _ hc
  | two c d h h0 hc hd =>
    rw [mk_of_tl h]
    exact int2 _ hc _ hd
theorem Tells.len {w : Str} {n : Nat} (h : Tells w n) : w.length ≤ 2 := by
  rw [len_tl]
  cases h with
  | one c h hc => rw [h]; exact (by decide : 1 ≤ 2)
  | two c d h h0 hc hd => rw [h]; exact Nat.le_refl 2
/-- written back -/
theorem Tells.str {w : Str} {n : Nat} (h : Tells w n) : (Str.ofString (toString ((n : Nat) : Int))) = w := by
  refine ext_tl ?_
  rw [TL.tl_num]
  cases h with
  | one c h hc =>
    rw [h, TL.numL_lt hc]
  | two c d h h0 hc hd =>
    rw [h, TL.numL_step (by omega)]
    have e1 : (c * 10 + d) / 10 = c := by omega
    have e2 : (c * 10 + d) % 10 = d := by omega
    rw [e1, e2, TL.numL_lt hc]
    rfl
theorem toldI_nonneg {w : Str} (h : 0 ≤ toldI w) : ∃ n : Nat, Tells w n ∧ toldI w = (n : Int) := by
  unfold toldI at h ⊢
  cases e : told w with
  | none =>
    rw [e] at h
    exact absurd h (by decide)
  | some n => exact ⟨n, told_tells e, rfl⟩
theorem toldI_lt (w : Str) : -1 ≤ toldI w ∧ toldI w < 100 := by
  unfold toldI
  cases e : told w with
  | none => exact ⟨by decide, by decide⟩
  | some n =>
    have := (told_tells e).lt
    refine ⟨?_, ?_⟩
    · show -1 ≤ (n : Int)
      omega
    · show (n : Int) < 100
      omega
theorem toldI_str {w : Str} (h : 0 ≤ toldI w) : (Str.ofString (toString (toldI w))) = w := by
  obtain ⟨n, t, e⟩ := toldI_nonneg h
  rw [e]
  exact t.str
theorem toldI_int {w : Str} (h : 0 ≤ toldI w) : PySem.intText? w = some (toldI w) := by
  obtain ⟨n, t, e⟩ := toldI_nonneg h
  rw [e]
  exact t.int
theorem toldI_len {w : Str} (h : 0 ≤ toldI w) : w.length ≤ 2 := by
  obtain ⟨n, t, e⟩ := toldI_nonneg h
  exact t.len
/-- by the signs: what the two readers look at -/
theorem toldI_bad_len {w : Str} (h : ¬ (1 ≤ w.length ∧ w.length ≤ 2)) : toldI w = -1 := by
  rw [len_tl] at h
  unfold toldI told
  match e : tl w with
  | [c] => rw [e] at h; exact absurd (by simp) h
  | [c, d] => rw [e] at h; exact absurd (by simp) h
  | [] => rfl
  | _ :: _ :: _ :: _ => rfl
theorem toldI_bad_sign {w : Str} {c : Nat} (hm : c ∈ tl w) (hc : isD c = false) : toldI w = -1 := by
  unfold toldI told
  match e : tl w with
  | [a] =>
    rw [e] at hm
    have ea : c = a := by simpa using hm
    subst ea
    rw [toldL_1, if_neg (by rw [hc]; decide)]
  | [a, b] =>
    rw [e] at hm
    have ea : c = a ∨ c = b := by simpa using hm
    rw [toldL_2, if_neg]
    rintro ⟨h1, h2, _⟩
    rcases ea with rfl | rfl
    · rw [hc] at h1; cases h1
    · rw [hc] at h2; cases h2
  | [] => rfl
  | _ :: _ :: _ :: _ => rfl
theorem toldI_bad_zero {w : Str} (h1 : 1 < w.length) (h0 : (tl w)[0]? = some 48) : toldI w = -1 := by
  rw [len_tl] at h1
  unfold toldI told
  match e : tl w with
  | [c] => rw [e] at h1; simp at h1
  | [c, d] =>
    rw [e] at h0
    have ec : c = 48 := Option.some.inj h0
    rw [toldL_2, if_neg]
    rintro ⟨_, _, z⟩
    exact z ec
  | [] => rfl
  | _ :: _ :: _ :: _ => rfl
theorem toldI_good {w : Str} (h : 1 ≤ w.length ∧ w.length ≤ 2) (hs : ∀ c ∈ tl w, isD c = true) (h0 : ¬ (1 < w.length ∧ (tl w)[0]? = some 48)) : 0 ≤ toldI w := by
  rw [len_tl] at h h0
  unfold toldI told
  match e : tl w with
  | [c] =>
    rw [e] at hs
    rw [toldL_1, if_pos (hs c (by simp))]
    show (0 : Int) ≤ ((c - 48 : Nat) : Int)
    omega
  | [c, d] =>
    rw [e] at hs h0
    have hz : isD c = true ∧ isD d = true ∧ c ≠ 48 := ⟨hs c (by simp), hs d (by simp), fun z => h0 ⟨by simp, by rw [z]; rfl⟩⟩
    rw [toldL_2, if_pos hz]
    show (0 : Int) ≤ (((c - 48) * 10 + (d - 48) : Nat) : Int)
    omega
  | [] => rw [e] at h; simp at h
  | _ :: _ :: _ :: _ => rw [e] at h; have := h.2; simp at this

/-! ### pieces of a text -/
theorem spl_ne (S : List Nat) : ∀ (l : List Nat) (k : Nat) (acc : List Nat), TL.spl S k acc l ≠ []
  | [], k, acc => by rw [TL.spl_nil]; simp
  | c :: r, 0, acc => by
    by_cases h : TL.pre S (c :: r) = true
    · rw [TL.spl_hit h]; simp
    · rw [TL.spl_miss (by simpa using h)]
      exact spl_ne S r 0 _
  | c :: r, k + 1, acc => by
    rw [TL.spl_pass]
    by_cases h : ((c :: r).drop (k + 1)) = []
    · rw [h, TL.spl_nil]; simp
    · have : ((c :: r).drop (k + 1)).length < (c :: r).length := by
        rw [List.length_drop]
        simp
        omega
      exact spl_ne S ((c :: r).drop (k + 1)) 0 acc
termination_by l => l.length
theorem split_ne {x y : Str} (hy : tl y ≠ []) (hk : y.cps.all (· < 256) = true) : Txt.split x y ≠ [] := fun z => by
  have h := TL.split_spl x y hy (TL.kind_ok hk)
  rw [z] at h
  exact spl_ne _ _ _ _ h.symm
def tot (l : List Str) : Nat := (l.map fun x => x.length + 1).sum
theorem tot_nil : tot [] = 0 := rfl
theorem tot_cons (x : Str) (l : List Str) : tot (x :: l) = x.length + 1 + tot l := by
  unfold tot
  rw [List.map_cons, List.sum_cons]
theorem tot_append (l m : List Str) : tot (l ++ m) = tot l + tot m := by
  unfold tot
  rw [List.map_append, List.sum_append]
theorem join_tot {y : Str} (hy : y.length = 1) : ∀ {l : List Str}, l ≠ [] → (Str.join y l).length + 1 = tot l
  | [], h => absurd rfl h
  | [x], _ => by
    show x.length + 1 = _
    rw [tot_cons, tot_nil]
  | x :: z :: r, _ => by
    have ih := join_tot hy (l := z :: r) (by simp)
    show (x ++ y ++ Str.join y (z :: r)).length + 1 = _
    rw [Str.length_append, Str.length_append, tot_cons, ← ih, hy]
    omega
theorem sum_tot (l : List Str) : (l.map fun x => x.length).sum + l.length = tot l := by
  induction l with
  | nil => rfl
  | cons a r ih =>
    rw [tot_cons, List.map_cons, List.sum_cons, List.length_cons, ← ih]
    omega
theorem join_fits {y : Str} (hy : y.length = 1) {l : List Str} (h : tot l ≤ 16777216) : (l.map fun x => x.length).sum + l.length * y.length ≤ 16777216 := by
  rw [hy, Nat.mul_one, sum_tot]
  exact h
theorem tot_small {l : List Str} {k : Nat} (h : ∀ x ∈ l, x.length ≤ k) : tot l ≤ l.length * (k + 1) := by
  induction l with
  | nil => exact Nat.zero_le _
  | cons a r ih =>
    rw [tot_cons, List.length_cons, Nat.succ_mul]
    have h1 := h a (by simp)
    have h2 := ih fun x hx => h x (List.mem_cons_of_mem _ hx)
    omega
theorem join_le {y : Str} (hy : y.length = 1) (l : List Str) : (Str.join y l).length ≤ tot l := by
  by_cases h : l = []
  · subst h
    exact Nat.zero_le _
  · have := join_tot hy h
    omega
theorem mem_tot : ∀ {l : List Str} {x : Str}, x ∈ l → x.length + 1 ≤ tot l
  | [], x, h => by cases h
  | a :: r, x, h => by
    rw [tot_cons]
    rcases List.mem_cons.mp h with e | h
    · subst e; omega
    · have := mem_tot h
      omega
theorem len_tot (l : List Str) : l.length ≤ tot l := by
  induction l with
  | nil => exact Nat.zero_le _
  | cons a r ih =>
    rw [tot_cons, List.length_cons]
    omega
theorem tot_take (l : List Str) (n : Nat) : tot (l.take n) ≤ tot l := by
  have h := tot_append (l.take n) (l.drop n)
  rw [List.take_append_drop] at h
  omega
theorem tot_drop (l : List Str) (n : Nat) : tot (l.drop n) ≤ tot l := by
  have h := tot_append (l.take n) (l.drop n)
  rw [List.take_append_drop] at h
  omega
theorem tot_set : ∀ (l : List Str) (i : Nat) (x : Str), tot (l.set i x) ≤ tot l + x.length + 1
  | [], i, x => by
    rw [List.set_nil]
    omega
  | a :: r, 0, x => by
    rw [List.set_cons_zero, tot_cons, tot_cons]
    omega
  | a :: r, i + 1, x => by
    rw [List.set_cons_succ, tot_cons, tot_cons]
    have := tot_set r i x
    omega
/-- one sign that parts a text -/
structure Sep (y : Str) : Prop where
  len : y.length = 1
  ne : tl y ≠ []
  small : y.cps.all (· < 256) = true
theorem sep_of {y : Str} {c : Nat} (h : y = ⟨#[c]⟩) (hc : c < 256) : Sep y := by
  subst h
  exact ⟨rfl, by simp, by simp [hc]⟩
theorem split_tot {x y : Str} (h : Sep y) : tot (Txt.split x y) = x.length + 1 := by
  rw [← join_tot h.len (split_ne h.ne h.small), StrLaws.join_split]
theorem split_mem {x y p : Str} (h : Sep y) (hp : p ∈ Txt.split x y) : p.length ≤ x.length := by
  have h1 := mem_tot hp
  rw [split_tot h] at h1
  omega
theorem split_len {x y : Str} (h : Sep y) : (Txt.split x y).length ≤ x.length + 1 := by
  have h1 := len_tot (Txt.split x y)
  rw [split_tot h] at h1
  exact h1
theorem sep_blank : Sep (Str.ofString " ") := sep_of (c := 32) (by decide +kernel) (by decide)
theorem sep_comma : Sep (Str.ofString ",") := sep_of (c := 44) (by decide +kernel) (by decide)
theorem sep_feed : Sep (Str.ofString "\n") := sep_of (c := 10) (by decide +kernel) (by decide)

/-! ### numbers of a line -/
def okW (w : Str) (b : Int × Int) : Bool := decide (b.1 ≤ toldI w) && decide (toldI w ≤ b.2)
theorem okW_iff {w : Str} {b : Int × Int} : okW w b = true ↔ b.1 ≤ toldI w ∧ toldI w ≤ b.2 := by
  unfold okW
  simp
/-- the number that a word tells within these bounds, -1 else -/
def figI (w : Str) (a b : Int) : Int := if a ≤ toldI w ∧ toldI w ≤ b then toldI w else -1
/-- the numbers of some words, one within each of the bounds -/
def nums (ws : List Str) (bs : List (Int × Int)) : Option (List Int) :=
  if ws.length = bs.length ∧ ∀ p ∈ ws.zip bs, okW p.1 p.2 = true then some (ws.map toldI) else none
theorem nums_len {ws : List Str} {bs : List (Int × Int)} (h : ws.length ≠ bs.length) : nums ws bs = none := if_neg fun z => h z.1
theorem nums_bad {ws : List Str} {bs : List (Int × Int)} {i : Nat} {w : Str} {b : Int × Int} (h1 : ws[i]? = some w) (h2 : bs[i]? = some b) (h : okW w b = false) : nums ws bs = none := by
  refine if_neg fun z => ?_
  have hm : (w, b) ∈ ws.zip bs := by
    refine List.mem_of_getElem? (i := i) ?_
    rw [List.getElem?_zip_eq_some]
    exact ⟨h1, h2⟩
  have := z.2 _ hm
  rw [h] at this
  cases this
theorem nums_good {ws : List Str} {bs : List (Int × Int)} (hl : ws.length = bs.length) (h : ∀ (i : Nat) w b, ws[i]? = some w → bs[i]? = some b → okW w b = true) : nums ws bs = some (ws.map toldI) := by
  refine if_pos ⟨hl, fun p hp => ?_⟩
  obtain ⟨i, hi⟩ := List.getElem?_of_mem hp
  rw [show p = (p.1, p.2) from rfl, List.getElem?_zip_eq_some] at hi
  exact h i _ _ hi.1 hi.2
theorem nums_some {ws : List Str} {bs : List (Int × Int)} {ns : List Int} (h : nums ws bs = some ns) : ns = ws.map toldI ∧ ws.length = bs.length ∧ ∀ (i : Nat) w b, ws[i]? = some w → bs[i]? = some b → okW w b = true := by
  unfold nums at h
  split at h
  · rename_i hz
    refine ⟨(Option.some.inj h).symm, hz.1, fun i w b h1 h2 => ?_⟩
    refine hz.2 (w, b) (List.mem_of_getElem? (i := i) ?_)
    rw [List.getElem?_zip_eq_some]
    exact ⟨h1, h2⟩
  · cases h

/-! ### lots -/
def rising : List Int → Bool
  | a :: b :: r => decide (a < b) && rising (b :: r)
  | _ => true
theorem rising_iff : ∀ {l : List Int}, rising l = true ↔ ∀ k x y, l[k]? = some x → l[k + 1]? = some y → x < y
  | [] => by simp [rising]
  | [a] => by
    refine ⟨fun _ k x y h1 h2 => ?_, fun _ => rfl⟩
    simp at h2
  | a :: b :: r => by
    unfold rising
    rw [Bool.and_eq_true, rising_iff (l := b :: r)]
    refine ⟨fun ⟨h1, h2⟩ k x y e1 e2 => ?_, fun h => ⟨decide_eq_true (h 0 a b rfl rfl), fun k x y e1 e2 => h (k + 1) x y e1 e2⟩⟩
    cases k with
    | zero =>
      have z1 : a = x := Option.some.inj e1
      have z2 : b = y := Option.some.inj e2
      rw [← z1, ← z2]
      exact of_decide_eq_true h1
    | succ k => exact h2 k x y e1 e2
def comma : Str := Str.ofString ","
def parts (w : Str) : List Str := Txt.split w comma
def lotM (w : Str) (many : Int) : Option (List Int) :=
  if (∀ x ∈ (parts w).map toldI, 0 ≤ x ∧ x < many) ∧ rising ((parts w).map toldI) = true then some ((parts w).map toldI) else none
theorem lotM_some {w : Str} {many : Int} {l : List Int} (h : lotM w many = some l) : l = (parts w).map toldI ∧ (∀ x ∈ l, 0 ≤ x ∧ x < many) ∧ rising l = true := by
  unfold lotM at h
  split at h
  · rename_i hz
    have e := Option.some.inj h
    subst e
    exact ⟨rfl, hz.1, hz.2⟩
  · cases h
theorem lotM_good {w : Str} {many : Int} (h1 : ∀ x ∈ (parts w).map toldI, 0 ≤ x ∧ x < many) (h2 : rising ((parts w).map toldI) = true) : lotM w many = some ((parts w).map toldI) := if_pos ⟨h1, h2⟩
theorem lotM_bad1 {w : Str} {many : Int} {x : Int} (hx : x ∈ (parts w).map toldI) (h1 : ¬ (0 ≤ x ∧ x < many)) : lotM w many = none := if_neg fun z => h1 (z.1 x hx)
theorem lotM_bad2 {w : Str} {many : Int} (h2 : rising ((parts w).map toldI) = false) : lotM w many = none := if_neg fun z => by rw [h2] at z; cases z.2

/-! ### lines -/
def blank : Str := Str.ofString " "
def words (line : Str) : List Str := Txt.split line blank
def nums1 (line first : Str) (bs : List (Int × Int)) : Option (List Int) := match words line with
  | [] => none
  | w :: ws => if w = first then nums ws bs else none
def headB : List (Int × Int) := [(1, 8), (0, 40)]
def storeB : List (Int × Int) := [(0, 99), (0, 99), (1, 8)]
def headM (line : Str) : Option (List Int) := nums1 line (Str.ofString "cluster") headB
def storeM (line : Str) : Option (List Int) := nums1 line (Str.ofString "store") storeB
def pieceM (line : Str) (many : Int) : Option (Int × List Int) := match words line with
  | [w, a, b] => if w = Str.ofString "piece" ∧ 1 ≤ toldI a ∧ toldI a ≤ 3 then (lotM b many).map fun l => (toldI a, l) else none
  | _ => none

/-! ### the text -/
def feed : Str := Str.ofString "\n"
def linesOf (z : Str) : List Str := Txt.split z feed
structure Wd where
  stores : List (List Int)
  pieces : List (Int × List Int)
inductive Res where
  | bad (at_ : Nat)
  | good (w : Wd)
/-- the place at which the line i begins -/
def offs (ls : List Str) (i : Nat) : Nat := ((ls.take i).map fun l => l.length + 1).sum
theorem offs_zero (ls : List Str) : offs ls 0 = 0 := rfl
theorem offs_succ {ls : List Str} {i : Nat} {l : Str} (h : ls[i]? = some l) : offs ls (i + 1) = offs ls i + l.length + 1 := by
  unfold offs
  rw [List.take_add_one, h]
  simp
  omega
/-- is line i (from 1) as it must be -/
def lineOk (S P : Nat) (i : Nat) (line : Str) : Bool := if i ≤ S then (storeM line).isSome else decide (i ≤ S + P) && (pieceM line (S : Int)).isSome
def scan (S P : Nat) : Nat → Nat → List Str → Option Nat
  | _, _, [] => none
  | i, k, l :: r => if lineOk S P i l = true then scan S P (i + 1) (k + l.length + 1) r else some k
theorem scan_bad {S P : Nat} : ∀ (ls : List Str) (i k j : Nat) (l : Str), (∀ m x, m < j → ls[m]? = some x → lineOk S P (i + m) x = true) → ls[j]? = some l → lineOk S P (i + j) l = false → scan S P i k ls = some (k + offs ls j)
  | [], i, k, j, l, _, h, _ => by simp at h
  | a :: r, i, k, 0, l, h1, h2, h3 => by
    have e : a = l := Option.some.inj h2
    subst e
    unfold scan
    rw [if_neg (by rw [show i = i + 0 from rfl, h3]; decide)]
    rfl
  | a :: r, i, k, j + 1, l, h1, h2, h3 => by
    have e0 : lineOk S P i a = true := h1 0 a (Nat.succ_pos _) rfl
    unfold scan
    rw [if_pos e0, scan_bad r (i + 1) (k + a.length + 1) j l (fun m x hm hx => by
      have := h1 (m + 1) x (by omega) hx
      rw [show i + 1 + m = i + (m + 1) by omega]
      exact this) h2 (by rw [show i + 1 + j = i + (j + 1) by omega]; exact h3)]
    have e : offs (a :: r) (j + 1) = a.length + 1 + offs r j := by
      unfold offs
      rw [List.take_succ_cons, List.map_cons, List.sum_cons]
    rw [e]
    congr 1
    omega
theorem scan_good {S P : Nat} : ∀ (ls : List Str) (i k : Nat), (∀ m x, ls[m]? = some x → lineOk S P (i + m) x = true) → scan S P i k ls = none
  | [], i, k, _ => rfl
  | a :: r, i, k, h1 => by
    have e0 : lineOk S P i a = true := h1 0 a rfl
    unfold scan
    rw [if_pos e0, scan_good r (i + 1) (k + a.length + 1) (fun m x hx => by
      have := h1 (m + 1) x hx
      rw [show i + 1 + m = i + (m + 1) by omega]
      exact this)]
def storeV (l : Str) : List Int := (storeM l).getD []
def pieceV (S : Nat) (l : Str) : Int × List Int := (pieceM l (S : Int)).getD (0, [])
def readM (z : Str) : Res := match linesOf z with
  | [] => .bad 0
  | l0 :: ls => match headM l0 with
    | some [S, P] => match scan S.toNat P.toNat 1 (l0.length + 1) ls with
      | some k => .bad k
      | none => if ls.length < S.toNat + P.toNat then .bad z.length else .good ⟨(ls.take S.toNat).map storeV, (ls.drop S.toNat).map (pieceV S.toNat)⟩
    | _ => .bad 0
end K6
namespace K6
open PySem L2
/-! ### by the words of a line -/
def numsW (W : List Str) (first : Str) (bs : List (Int × Int)) : Option (List Int) := match W with
  | [] => none
  | w :: ws => if w = first then nums ws bs else none
theorem nums1_W (line first : Str) (bs : List (Int × Int)) : nums1 line first bs = numsW (words line) first bs := rfl
def pieceW (W : List Str) (many : Int) : Option (Int × List Int) := match W with
  | [w, a, b] => if w = Str.ofString "piece" ∧ 1 ≤ toldI a ∧ toldI a ≤ 3 then (lotM b many).map fun l => (toldI a, l) else none
  | _ => none
theorem pieceM_W (line : Str) (many : Int) : pieceM line many = pieceW (words line) many := rfl
theorem pieceW_len {W : List Str} {many : Int} (h : W.length ≠ 3) : pieceW W many = none := by
  match W, h with
  | [], _ => rfl
  | [_], _ => rfl
  | [_, _], _ => rfl
  | [_, _, _], h => exact absurd rfl h
  | _ :: _ :: _ :: _ :: _, _ => rfl
theorem pieceW_head {w : Str} {ws : List Str} {many : Int} (h : w ≠ Str.ofString "piece") : pieceW (w :: ws) many = none := by
  match ws with
  | [] => rfl
  | [_] => rfl
  | [_, _] => exact if_neg fun z => h z.1
  | _ :: _ :: _ :: _ => rfl
theorem pieceW_wish {w a b : Str} {many : Int} (h : ¬ (1 ≤ toldI a ∧ toldI a ≤ 3)) : pieceW [w, a, b] many = none := if_neg fun z => h z.2
theorem pieceW_3 (w a b : Str) (many : Int) : pieceW [w, a, b] many = if w = Str.ofString "piece" ∧ 1 ≤ toldI a ∧ toldI a ≤ 3 then (lotM b many).map (fun l => (toldI a, l)) else none := rfl
theorem pieceW_lot {w a b : Str} {many : Int} (h : lotM b many = none) : pieceW [w, a, b] many = none := by
  rw [pieceW_3, h]
  simp
theorem pieceW_good {w a b : Str} {many : Int} {l : List Int} (h0 : w = Str.ofString "piece") (h1 : 1 ≤ toldI a ∧ toldI a ≤ 3) (h : lotM b many = some l) : pieceW [w, a, b] many = some (toldI a, l) := by
  rw [pieceW_3, h]
  exact if_pos ⟨h0, h1⟩
theorem three {W : List Str} (h : W.length = 3) : ∃ a b c, W = [a, b, c] := by
  match W, h with
  | [a, b, c], _ => exact ⟨a, b, c, rfl⟩
end K6
namespace K6
open PySem L2
/-! ### what readM says, by cases -/
theorem headM_some {l : Str} {ns : List Int} (h : headM l = some ns) : ∃ S P : Nat, ns = [(S : Int), (P : Int)] ∧ 1 ≤ S ∧ S ≤ 8 ∧ P ≤ 40 := by
  unfold headM at h
  rw [nums1_W] at h
  match e : words l, h with
  | w :: ws, h =>
    have h' : (if w = Str.ofString "cluster" then nums ws headB else none) = some ns := h
    split at h'
    · obtain ⟨e1, e2, e3⟩ := nums_some h'
      match ws, e1, e2, e3 with
      | [a, b], e1, _, e3 =>
        have h0 := okW_iff.mp (e3 0 a (1, 8) rfl rfl)
        have h1 := okW_iff.mp (e3 1 b (0, 40) rfl rfl)
        refine ⟨(toldI a).toNat, (toldI b).toNat, ?_, ?_, ?_, ?_⟩
        · rw [e1]
          have a1 : (1 : Int) ≤ toldI a := h0.1
          have b1 : (0 : Int) ≤ toldI b := h1.1
          rw [Int.toNat_of_nonneg (by omega), Int.toNat_of_nonneg b1]
          rfl
        · have a1 : (1 : Int) ≤ toldI a := h0.1
          omega
        · have a2 : toldI a ≤ 8 := h0.2
          omega
        · have b2 : toldI b ≤ 40 := h1.2
          omega
    · cases h'
theorem linesOf_cons (z : Str) : ∃ l ls, linesOf z = l :: ls := by
  have h := split_ne (x := z) sep_feed.ne sep_feed.small
  match e : linesOf z with
  | [] => exact absurd e h
  | w :: ws => exact ⟨w, ws, rfl⟩
theorem lines_tot (z : Str) : tot (linesOf z) = z.length + 1 := split_tot sep_feed
theorem offs_cons (l : Str) (ls : List Str) (j : Nat) : offs (l :: ls) (j + 1) = l.length + 1 + offs ls j := by
  unfold offs
  rw [List.take_succ_cons, List.map_cons, List.sum_cons]
section
variable {z l0 : Str} {ls : List Str} {S P : Nat}
theorem readM_none (e : linesOf z = l0 :: ls) (h : headM l0 = none) : readM z = .bad 0 := by
  unfold readM
  rw [e]
  show (match headM l0 with | some [S, P] => _ | _ => _) = _
  rw [h]
theorem readM_head (e : linesOf z = l0 :: ls) (h : headM l0 = some [(S : Int), (P : Int)]) : readM z = match scan S P 1 (l0.length + 1) ls with
      | some k => .bad k
      | none => if ls.length < S + P then .bad z.length else .good ⟨(ls.take S).map storeV, (ls.drop S).map (pieceV S)⟩ := by
  unfold readM
  rw [e]
  show (match headM l0 with | some [S, P] => _ | _ => _) = _
  rw [h]
  rfl
theorem readM_line (e : linesOf z = l0 :: ls) (h : headM l0 = some [(S : Int), (P : Int)]) {j : Nat} {l : Str} (h1 : ∀ m x, m < j → ls[m]? = some x → lineOk S P (m + 1) x = true) (h2 : ls[j]? = some l) (h3 : lineOk S P (j + 1) l = false) :
    readM z = .bad (offs (l0 :: ls) (j + 1)) := by
  rw [readM_head e h, scan_bad ls 1 (l0.length + 1) j l (fun m x hm hx => by rw [Nat.add_comm]; exact h1 m x hm hx) h2 (by rw [Nat.add_comm]; exact h3), offs_cons]
theorem readM_short (e : linesOf z = l0 :: ls) (h : headM l0 = some [(S : Int), (P : Int)]) (h1 : ∀ m x, ls[m]? = some x → lineOk S P (m + 1) x = true) (h2 : ls.length < S + P) : readM z = .bad z.length := by
  rw [readM_head e h, scan_good ls 1 (l0.length + 1) (fun m x hx => by rw [Nat.add_comm]; exact h1 m x hx)]
  exact if_pos h2
theorem readM_good (e : linesOf z = l0 :: ls) (h : headM l0 = some [(S : Int), (P : Int)]) (h1 : ∀ m x, ls[m]? = some x → lineOk S P (m + 1) x = true) (h2 : ¬ ls.length < S + P) :
    readM z = .good ⟨(ls.take S).map storeV, (ls.drop S).map (pieceV S)⟩ := by
  rw [readM_head e h, scan_good ls 1 (l0.length + 1) (fun m x hx => by rw [Nat.add_comm]; exact h1 m x hx)]
  exact if_neg h2
end
theorem lineOk_store {S P i : Nat} {l : Str} (h : i ≤ S) : lineOk S P i l = (storeM l).isSome := if_pos h
theorem lineOk_piece {S P i : Nat} {l : Str} (h : ¬ i ≤ S) : lineOk S P i l = (decide (i ≤ S + P) && (pieceM l (S : Int)).isSome) := if_neg h
theorem storeV_of {l : Str} {ns : List Int} (h : storeM l = some ns) : storeV l = ns := by
  unfold storeV
  rw [h]
  rfl
theorem pieceV_of {l : Str} {S : Nat} {p : Int × List Int} (h : pieceM l (S : Int) = some p) : pieceV S l = p := by
  unfold pieceV
  rw [h]
  rfl
theorem storeM_some {l : Str} {ns : List Int} (h : storeM l = some ns) : ∃ a b c w, words l = [w, a, b, c] ∧ w = Str.ofString "store" ∧ ns = [toldI a, toldI b, toldI c] ∧ (0 ≤ toldI a ∧ toldI a ≤ 99) ∧ (0 ≤ toldI b ∧ toldI b ≤ 99) ∧ (1 ≤ toldI c ∧ toldI c ≤ 8) := by
  unfold storeM at h
  rw [nums1_W] at h
  match e : words l, h with
  | w :: ws, h =>
    have h' : (if w = Str.ofString "store" then nums ws storeB else none) = some ns := h
    split at h'
    · rename_i hw
      obtain ⟨e1, e2, e3⟩ := nums_some h'
      match ws, e1, e2, e3 with
      | [a, b, c], e1, _, e3 =>
        exact ⟨a, b, c, w, rfl, hw, e1, okW_iff.mp (e3 0 a (0, 99) rfl rfl), okW_iff.mp (e3 1 b (0, 99) rfl rfl), okW_iff.mp (e3 2 c (1, 8) rfl rfl)⟩
    · cases h'
theorem pieceM_some {l : Str} {m : Int} {p : Int × List Int} (h : pieceM l m = some p) : ∃ a b w, words l = [w, a, b] ∧ w = Str.ofString "piece" ∧ p.1 = toldI a ∧ 1 ≤ toldI a ∧ toldI a ≤ 3 ∧ lotM b m = some p.2 := by
  rw [pieceM_W] at h
  by_cases h3 : (words l).length = 3
  · obtain ⟨w, a, b, e⟩ := three h3
    rw [e, pieceW_3] at h
    split at h
    · rename_i hz
      cases hm : lotM b m with
      | none => rw [hm] at h; cases h
      | some q =>
        rw [hm] at h
        have e2 := Option.some.inj h
        subst e2
        exact ⟨a, b, w, e, hz.1, rfl, hz.2.1, hz.2.2, hm⟩
    · cases h
  · rw [pieceW_len h3] at h
    cases h
end K6

/-! K6Text: the text's defs by their places, what the top leaves, how a def is called. -/
namespace K6
open PySem PySem.Spec PyProof.Rows L2
def top (i : Nat) : Stmt := PySem.Challenge.pw_movedwhole_k06_the_line_where_a_text_is.main.body.getD i (.Pass ⟨0, 0, 0, 0⟩)
abbrev s_integer_told : Stmt := top 13
abbrev n_integer_told : List Str := ["word", "sign"]
theorem sc_integer_told : FnScope ["word", "sign"] ["word"] (defScope s_integer_told) := ⟨rfl, rfl, rfl, by decide +kernel, rfl, by decide +kernel, by decide +kernel⟩
abbrev s_lot_told : Stmt := top 14
abbrev n_lot_told : List Str := ["word", "store_count", "lot", "part", "store", "k"]
theorem sc_lot_told : FnScope ["word", "store_count", "lot", "part", "store", "k"] ["word", "store_count"] (defScope s_lot_told) := ⟨rfl, rfl, rfl, by decide +kernel, rfl, by decide +kernel, by decide +kernel⟩
abbrev s_lot_text : Stmt := top 15
abbrev n_lot_text : List Str := ["lot", "store"]
theorem sc_lot_text : FnScope ["lot", "store"] ["lot"] (defScope s_lot_text) := ⟨rfl, rfl, rfl, by decide +kernel, rfl, by decide +kernel, by decide +kernel⟩
abbrev s_begins : Stmt := top 16
abbrev n_begins : List Str := ["lines", "found", "at", "line"]
theorem sc_begins : FnScope ["lines", "found", "at", "line"] ["lines"] (defScope s_begins) := ⟨rfl, rfl, rfl, by decide +kernel, rfl, by decide +kernel, by decide +kernel⟩
abbrev s_write_world : Stmt := top 20
abbrev n_write_world : List Str := ["cluster", "wishes", "placing", "lines", "store", "told", "piece", "wish", "number"]
theorem sc_write_world : FnScope ["cluster", "wishes", "placing", "lines", "store", "told", "piece", "wish", "number"] ["cluster", "wishes", "placing"] (defScope s_write_world) := ⟨rfl, rfl, rfl, by decide +kernel, rfl, by decide +kernel, by decide +kernel⟩
abbrev s_read_world : Stmt := top 21
abbrev n_read_world : List Str := ["text", "lines", "places", "sizes", "store_count", "many", "stores", "wishes", "placing", "k", "store", "piece", "cluster", "row"]
theorem sc_read_world : FnScope ["text", "lines", "places", "sizes", "store_count", "many", "stores", "wishes", "placing", "k", "store", "piece", "cluster", "row"] ["text"] (defScope s_read_world) := ⟨rfl, rfl, rfl, by decide +kernel, rfl, by decide +kernel, by decide +kernel⟩
abbrev s_numbers : Stmt := top 22
abbrev n_numbers : List Str := ["line", "first", "bounds", "words", "numbers", "number", "least", "most", "word"]
theorem sc_numbers : FnScope ["line", "first", "bounds", "words", "numbers", "number", "least", "most", "word"] ["line", "first", "bounds"] (defScope s_numbers) := ⟨rfl, rfl, rfl, by decide +kernel, rfl, by decide +kernel, by decide +kernel⟩
abbrev s_piece : Stmt := top 23
abbrev n_piece : List Str := ["line", "store_count", "words", "wish", "lot"]
theorem sc_piece : FnScope ["line", "store_count", "words", "wish", "lot"] ["line", "store_count"] (defScope s_piece) := ⟨rfl, rfl, rfl, by decide +kernel, rfl, by decide +kernel, by decide +kernel⟩
abbrev s_is_from_to : Stmt := top 9
abbrev n_is_from_to : List Str := ["value", "least", "most"]
theorem sc_is_from_to : FnScope ["value", "least", "most"] ["value", "least", "most"] (defScope s_is_from_to) := ⟨rfl, rfl, rfl, by decide +kernel, rfl, by decide +kernel, by decide +kernel⟩
abbrev s_Cluster___init : Stmt := inClass (top 10) 0
abbrev n_Cluster___init : List Str := ["self", "racks", "rooms", "rates", "store", "rack", "room", "rate"]
theorem sc_Cluster___init : FnScope ["self", "racks", "rooms", "rates", "store", "rack", "room", "rate"] ["self", "racks", "rooms", "rates"] (defScope s_Cluster___init) := ⟨rfl, rfl, rfl, by decide +kernel, rfl, by decide +kernel, by decide +kernel⟩
abbrev s_l_draws : Stmt := top 25
abbrev n_l_draws : List Str := ["_law_script", "_law_many", "_law_cell", "_law_rests", "_law_draws_here", "_law_k", "_law_at", "_law_mixed"]
theorem sc_l_draws : FnScope ["_law_script", "_law_many", "_law_cell", "_law_rests", "_law_draws_here", "_law_k", "_law_at", "_law_mixed"] ["_law_script", "_law_many"] (defScope s_l_draws) := ⟨rfl, rfl, rfl, by decide +kernel, rfl, by decide +kernel, by decide +kernel⟩
abbrev s_l_take : Stmt := top 26
abbrev n_l_take : List Str := ["_law_hand", "_law_many", "_law_at", "_law_draws_here"]
theorem sc_l_take : FnScope ["_law_hand", "_law_many", "_law_at", "_law_draws_here"] ["_law_hand", "_law_many"] (defScope s_l_take) := ⟨rfl, rfl, rfl, by decide +kernel, rfl, by decide +kernel, by decide +kernel⟩
abbrev s_l_like : Stmt := top 27
abbrev n_l_like : List Str := ["_law_found", "_law_due", "_law_at"]
theorem sc_l_like : FnScope ["_law_found", "_law_due", "_law_at"] ["_law_found", "_law_due"] (defScope s_l_like) := ⟨rfl, rfl, rfl, by decide +kernel, rfl, by decide +kernel, by decide +kernel⟩
abbrev s_l_cluster : Stmt := top 28
abbrev n_l_cluster : List Str := ["_law_hand", "_law_most", "_law_many", "_law_racks", "_law_rooms", "_law_v"]
theorem sc_l_cluster : FnScope ["_law_hand", "_law_most", "_law_many", "_law_racks", "_law_rooms", "_law_v"] ["_law_hand", "_law_most"] (defScope s_l_cluster) := ⟨rfl, rfl, rfl, by decide +kernel, rfl, by decide +kernel, by decide +kernel⟩
abbrev s_l_lot : Stmt := top 29
abbrev n_l_lot : List Str := ["_law_hand", "_law_many", "_law_found", "_law_v"]
theorem sc_l_lot : FnScope ["_law_hand", "_law_many", "_law_found", "_law_v"] ["_law_hand", "_law_many"] (defScope s_l_lot) := ⟨rfl, rfl, rfl, by decide +kernel, rfl, by decide +kernel, by decide +kernel⟩
abbrev s_l_wishes : Stmt := top 30
abbrev n_l_wishes : List Str := ["_law_hand", "_law_pieces", "_law_p"]
theorem sc_l_wishes : FnScope ["_law_hand", "_law_pieces", "_law_p"] ["_law_hand", "_law_pieces"] (defScope s_l_wishes) := ⟨rfl, rfl, rfl, by decide +kernel, rfl, by decide +kernel, by decide +kernel⟩
abbrev s_l_placing : Stmt := top 31
abbrev n_l_placing : List Str := ["_law_hand", "_law_many", "_law_pieces", "_law_p"]
theorem sc_l_placing : FnScope ["_law_hand", "_law_many", "_law_pieces", "_law_p"] ["_law_hand", "_law_many", "_law_pieces"] (defScope s_l_placing) := ⟨rfl, rfl, rfl, by decide +kernel, rfl, by decide +kernel, by decide +kernel⟩
abbrev s_l_lines : Stmt := top 32
abbrev n_l_lines : List Str := ["_law_cluster_here", "_law_wishes_here", "_law_placing_here", "_law_lines_here", "_law_v", "_law_p", "_law_row"]
theorem sc_l_lines : FnScope ["_law_cluster_here", "_law_wishes_here", "_law_placing_here", "_law_lines_here", "_law_v", "_law_p", "_law_row"] ["_law_cluster_here", "_law_wishes_here", "_law_placing_here"] (defScope s_l_lines) := ⟨rfl, rfl, rfl, by decide +kernel, rfl, by decide +kernel, by decide +kernel⟩
abbrev s_l_world_is : Stmt := top 33
abbrev n_l_world_is : List Str := ["_law_found", "_law_cluster_here", "_law_wishes_here", "_law_placing_here"]
theorem sc_l_world_is : FnScope ["_law_found", "_law_cluster_here", "_law_wishes_here", "_law_placing_here"] ["_law_found", "_law_cluster_here", "_law_wishes_here", "_law_placing_here"] (defScope s_l_world_is) := ⟨rfl, rfl, rfl, by decide +kernel, rfl, by decide +kernel, by decide +kernel⟩
abbrev s_l_figures : Stmt := top 34
abbrev n_l_figures : List Str := ["_law_word_here", "_law_least", "_law_most", "_law_sign"]
theorem sc_l_figures : FnScope ["_law_word_here", "_law_least", "_law_most", "_law_sign"] ["_law_word_here", "_law_least", "_law_most"] (defScope s_l_figures) := ⟨rfl, rfl, rfl, by decide +kernel, rfl, by decide +kernel, by decide +kernel⟩
abbrev s_l_numbers : Stmt := top 35
abbrev n_l_numbers : List Str := ["_law_words", "_law_bounds", "_law_found", "_law_k", "_law_number"]
theorem sc_l_numbers : FnScope ["_law_words", "_law_bounds", "_law_found", "_law_k", "_law_number"] ["_law_words", "_law_bounds"] (defScope s_l_numbers) := ⟨rfl, rfl, rfl, by decide +kernel, rfl, by decide +kernel, by decide +kernel⟩
abbrev s_l_read_lot : Stmt := top 36
abbrev n_l_read_lot : List Str := ["_law_word_here", "_law_many", "_law_found", "_law_part", "_law_number"]
theorem sc_l_read_lot : FnScope ["_law_word_here", "_law_many", "_law_found", "_law_part", "_law_number"] ["_law_word_here", "_law_many"] (defScope s_l_read_lot) := ⟨rfl, rfl, rfl, by decide +kernel, rfl, by decide +kernel, by decide +kernel⟩
abbrev s_l_read_line : Stmt := top 37
abbrev n_l_read_line : List Str := ["_law_words", "_law_head", "_law_stores", "_law_pieces", "_law_numbers_here", "_law_wish", "_law_lot_here"]
theorem sc_l_read_line : FnScope ["_law_words", "_law_head", "_law_stores", "_law_pieces", "_law_numbers_here", "_law_wish", "_law_lot_here"] ["_law_words", "_law_head", "_law_stores", "_law_pieces"] (defScope s_l_read_line) := ⟨rfl, rfl, rfl, by decide +kernel, rfl, by decide +kernel, by decide +kernel⟩
abbrev s_l_read : Stmt := top 38
abbrev n_l_read : List Str := ["_law_text", "_law_at", "_law_head", "_law_stores", "_law_pieces", "_law_line", "_law_words", "_law_cluster_here", "_law_k", "_law_piece", "_law_store"]
theorem sc_l_read : FnScope ["_law_text", "_law_at", "_law_head", "_law_stores", "_law_pieces", "_law_line", "_law_words", "_law_cluster_here", "_law_k", "_law_piece", "_law_store"] ["_law_text"] (defScope s_l_read) := ⟨rfl, rfl, rfl, by decide +kernel, rfl, by decide +kernel, by decide +kernel⟩
abbrev s_l_word : Stmt := top 39
abbrev n_l_word : List Str := ["_law_hand", "_law_words"]
theorem sc_l_word : FnScope ["_law_hand", "_law_words"] ["_law_hand"] (defScope s_l_word) := ⟨rfl, rfl, rfl, by decide +kernel, rfl, by decide +kernel, by decide +kernel⟩
abbrev s_l_bent_line : Stmt := top 40
abbrev n_l_bent_line : List Str := ["_law_hand", "_law_line", "_law_words", "_law_at", "_law_kind", "_law_parts"]
theorem sc_l_bent_line : FnScope ["_law_hand", "_law_line", "_law_words", "_law_at", "_law_kind", "_law_parts"] ["_law_hand", "_law_line"] (defScope s_l_bent_line) := ⟨rfl, rfl, rfl, by decide +kernel, rfl, by decide +kernel, by decide +kernel⟩
abbrev s_l_bent : Stmt := top 41
abbrev n_l_bent : List Str := ["_law_hand", "_law_text", "_law_lines_here", "_law_kind", "_law_at", "_law_other", "_law_line", "_law_place", "_law_sign"]
theorem sc_l_bent : FnScope ["_law_hand", "_law_text", "_law_lines_here", "_law_kind", "_law_at", "_law_other", "_law_line", "_law_place", "_law_sign"] ["_law_hand", "_law_text"] (defScope s_l_bent) := ⟨rfl, rfl, rfl, by decide +kernel, rfl, by decide +kernel, by decide +kernel⟩
abbrev s_l_is_right : Stmt := top 42
abbrev n_l_is_right : List Str := ["_law_text", "_law_due", "_law_found", "e"]
theorem sc_l_is_right : FnScope ["_law_text", "_law_due", "_law_found", "e"] ["_law_text"] (defScope s_l_is_right) := ⟨rfl, rfl, rfl, by decide +kernel, rfl, by decide +kernel, by decide +kernel⟩
abbrev s_law : Stmt := top 43
abbrev n_law : List Str := ["_law_script", "_law_hand", "_law_cluster_here", "_law_pieces", "_law_text", "_law_step", "_law_bent_here", "_law_one"]
theorem sc_law : FnScope ["_law_script", "_law_hand", "_law_cluster_here", "_law_pieces", "_law_text", "_law_step", "_law_bent_here", "_law_one"] ["_law_script"] (defScope s_law) := ⟨rfl, rfl, rfl, by decide +kernel, rfl, by decide +kernel, by decide +kernel⟩

/-- what the top leaves: the built-ins untouched, the constants -/
structure Blt (mg : Str → Option Value) : Prop where
  n_len : mg "len" = none
  n_all : mg "all" = none
  n_int : mg "int" = none
  n_str : mg "str" = none
  n_abs : mg "abs" = none
  n_tuple : mg "tuple" = none
  n_isinstance : mg "isinstance" = none
  n_bool : mg "bool" = none
  n_list : mg "list" = none
  n_range : mg "range" = none
  n_enumerate : mg "enumerate" = none
  n_zip : mg "zip" = none
  n_super : mg "super" = none
  c_MOST_STORES : ∃ t, mg "MOST_STORES" = some (.int 8 t)
  c_MOST_NUMBER : ∃ t, mg "MOST_NUMBER" = some (.int 99 t)
  c_MOST_RATE : ∃ t, mg "MOST_RATE" = some (.int 8 t)
  c_MOST_FIGURES : ∃ t, mg "MOST_FIGURES" = some (.int 2 t)
  c_MOST_WISH : ∃ t, mg "MOST_WISH" = some (.int 3 t)
  c_MOST_PIECES : ∃ t, mg "MOST_PIECES" = some (.int 40 t)

/-- a def of the top -/
def DefAt (K : PySem.W.Frag) (mg : Str → Option Value) (x : Str) (st : Stmt) : Prop := ∃ (f : Addr) (fd : FuncData), Fun K x x st f fd ∧ mg x = some (.ref f)
/-- a def of the top that keeps its promise -/
def Callee (P : Program) (w : World) (K : PySem.W.Frag) (mg : Str → Option Value) (base : Heap) (CX : CXT) (k : Nat) (x : Str) (ps : List Str) (sp : Sp) : Prop :=
  ∃ (f : Addr) (fd : FuncData), mg x = some (.ref f) ∧ PySem.W.keepIn K (.ref f) = true ∧ Binds K fd ps [] ∧ FnOk P w K mg base CX k f fd ps sp
theorem Callee.mono {P : Program} {w : World} {K : PySem.W.Frag} {mg : Str → Option Value} {base : Heap} {CX : CXT} {j k : Nat} {x : Str} {ps : List Str} {sp : Sp} (c : Callee P w K mg base CX j x ps sp) (h : j ≤ k) : Callee P w K mg base CX k x ps sp :=
  let ⟨f, fd, a, b, d, e⟩ := c
  ⟨f, fd, a, b, d, e.mono h⟩
theorem Callee.imp {P : Program} {w : World} {K : PySem.W.Frag} {mg : Str → Option Value} {base : Heap} {CX : CXT} {k : Nat} {x : Str} {ps : List Str} {sp sp' : Sp} (c : Callee P w K mg base CX k x ps sp) (h : ∀ vs H Q E, sp' vs H Q E → sp vs H Q E) : Callee P w K mg base CX k x ps sp' :=
  let ⟨f, fd, a, b, d, e⟩ := c
  ⟨f, fd, a, b, d, e.imp h⟩
section
variable {X : Cx} {k : Nat} {x : Str} {ps : List Str} {sp : Sp} {p pos : Pos} {e : Expr} {es : List Expr} {t : TA}
theorem pe_cal (c : Callee X.prog X.w X.K X.mg X.base CX0 k x ps sp) (hr : Room k X.A) (hg : Gl X x) (ha : PA X (e :: es) t) (hdb : (x == ("__debug__" : Str)) = false := by decide)
    (he : starEach (e :: es) X.env = (false, eval e X.env) :: starEach es X.env := by rfl) (hpl : (backTo pos (starEach es X.env)).any (·.1) = false := by rfl) :
    PE X (.Call (.Name x p) (e :: es) [] pos) (tCall sp [] E0 t) := by
  obtain ⟨f, fd, g, kp, b, G⟩ := c
  exact pe_call G hr hg g kp b .nil pass0 ha hdb he hpl
theorem pe_const {n : Int} (h : ∃ t, X.mg x = some (.int n t)) (hg : Gl X x) (hd : (x == ("__debug__" : Str)) = false := by decide) : PE X (.Name x pos) (tC (.int n)) := by
  obtain ⟨t, h⟩ := h
  exact pe_glob hg h ⟨t, rfl⟩ hd
end
theorem same_upd {H : Hp} {p : Addr} {o : HO} (h : H p = none) : Same H (upd H p o) := fun b x e => by
  rw [upd_ne (ne_of_none e h)]
  exact e
theorem Same.tup {K : PySem.W.Frag} {H H' : Hp} {a : Addr} {xs : List V} (e : Same H H') (h : SqT K H a xs) : SqT K H' a xs := by
  rcases h with (h | ⟨o, h⟩) | h
  · exact .inl (.inl (e _ _ h))
  · exact .inl (.inr ⟨o, e _ _ h⟩)
  · exact .inr h
end K6

/-! K6Help: comprehensions whose turns leave what is tracked as it was. -/
namespace K6
open PySem PySem.Spec PyProof.Rows L2
theorem big6 {n : Nat} (h : n ≤ 10000000) : n ≤ sizeLine := Nat.le_trans h (by decide)
theorem big6' {n : Nat} (h : n ≤ 10000000) : n < sizeLine := Nat.lt_of_le_of_lt h (by decide)
theorem ite_t {c A B : Prop} [Decidable c] (h : c) (hA : A) : if c then A else B := by
  rw [if_pos h]
  exact hA
theorem ite_f {c A B : Prop} [Decidable c] (h : ¬ c) (hB : B) : if c then A else B := by
  rw [if_neg h]
  exact hB
theorem nd_t {p : Prop} [Decidable p] (h : p) : ¬ (!decide p) = true := by simp [h]
theorem nd_f {p : Prop} [Decidable p] (h : ¬ p) : (!decide p) = true := by simp [h]
theorem d_t {p : Prop} [Decidable p] (h : p) : decide p = true := decide_eq_true h
theorem d_f {p : Prop} [Decidable p] (h : ¬ p) : ¬ decide p = true := by simp [h]
theorem Same.mut {H H' : Hp} {p : Addr} {o : HO} (e : Same H H') (h : H p = none) : Same H (upd H' p o) := fun a u ha => by
  rw [upd_ne (ne_of_none ha h)]
  exact e a u ha
section
variable {X : Cx} {K : PySem.W.Frag}
theorem ix_listK (h : X.K = K := by rfl) : IxR X (rIxL K) := h ▸ ix_list
theorem ix_tupK (h : X.K = K := by rfl) : IxR X (rIxT K) := h ▸ ix_tup
theorem call_tuple_ofK (h : X.K = K := by rfl) : CallR X (.type "tuple") (fun xs H Q => ∃ p ys, xs = [.ref p] ∧ ((SqL K H p ys ∧ ∀ l, H l = none → Q (.ref l) (upd H l (.tup ys))) ∨ (SqT K H p ys ∧ Q (.ref p) H))) := h ▸ call_tuple_of
theorem pi_listK {tg l : Expr} {tl : TE} (hl : PE X l tl) (h : X.K = K := by rfl) : PI X tg l (iList K tl) := h ▸ pi_list hl
end
section
variable {J : It} {n : Nat} {G : Hp → Prop} {Y : Nat → Hp → V → Hp → Prop}
/-- a comprehension without an if, each turn of which leaves what is tracked as it was: its list is ys -/
theorem lc_to (w : Walk J n G Y) {g : TG} {te : TE} {vs : List Nat} {σ : L2.St} {H1 : Hp} {D : Addr} {Qd : Hp → Prop} (ys : List V) (hn : n = ys.length) (hz : n ≤ 10000000) (hD : H1 D = none)
    (hG : ∀ H, Same H1 H → G H)
    (hs : ∀ i x H H' y (Q : VK), i < n → Same H1 H → Y i H x H' → ys[i]? = some y → (∀ H4, Same H H4 → Q y H4) → g x (wipe σ vs) H' fun σ2 H2 => wipe σ2 vs = wipe σ vs ∧ te σ2 H2 Q)
    (hd : ∀ H, Same H1 H → H D = some (.lst ys) → Qd H) :
    ∃ W : Nat → Nat → Hp → Prop, (∃ m, W 0 m (upd H1 D (.lst []))) ∧ ∀ i m H, W i m H →
      (J.stop i H ∧ Qd H) ∨ (J.go i H ∧ ∃ Nx : Hp → Prop, (∀ H', Nx H' → ∃ m', m' < m ∧ W (i + 1) m' H') ∧ ∀ x H', J.yld i H x H' → g x (wipe σ vs) H' fun σ2 H2 => wipe σ2 vs = wipe σ vs ∧ tYes σ2 H2 fun b H3 =>
        if b = true then te σ2 H3 fun y H4 => ∃ acc, H4 D = some (.lst acc) ∧ acc.length < sizeLine ∧ Nx (upd H4 D (.lst (acc ++ [y]))) else Nx H3) := by
  refine lc_it w (fun i H => Same H1 H ∧ H D = some (.lst (ys.take i))) ⟨same_upd0 hD, upd_same⟩ (fun i H _ p => hG H p.1) (fun i x H H' hi p y => ?_) (fun H p => hd H p.1 (by rw [p.2, hn, List.take_length]))
  have hi' : i < ys.length := by rw [← hn]; exact hi
  have e : ys[i]? = some ys[i] := List.getElem?_eq_getElem hi'
  refine hs i x H H' ys[i] (fun y H4 => ∃ acc, H4 D = some (.lst acc) ∧ acc.length < sizeLine ∧ (Same H1 (upd H4 D (.lst (acc ++ [y]))) ∧ (upd H4 D (.lst (acc ++ [y]))) D = some (.lst (ys.take (i + 1))))) hi p.1 y e (fun H4 sm => ?_)
  refine ⟨ys.take i, sm _ _ p.2, big6' (by rw [List.length_take]; omega), Same.mut (p.1.trans sm) hD, ?_⟩
  rw [upd_same, List.take_add_one, e]
  rfl
where
  same_upd0 {H : Hp} {p : Addr} {o : HO} (h : H p = none) : Same H (upd H p o) := fun b x e => by
    rw [upd_ne (ne_of_none e h)]
    exact e
/-- as lc_to, the items told by what holds of them -/
theorem lc_rel (w : Walk J n G Y) {g : TG} {te : TE} {vs : List Nat} {σ : L2.St} {H1 : Hp} {D : Addr} {Qd : Hp → Prop} (R : Nat → V → Hp → Prop) (hz : n ≤ 10000000) (hD : H1 D = none)
    (hR : ∀ i y H H' acc, (∀ b o, b ≠ D → H b = some o → H' b = some o) → H D = some (.lst acc) → R i y H → R i y H')
    (hG : ∀ H, Same H1 H → G H)
    (hs : ∀ i x H H' (Q : VK), i < n → Same H1 H → Y i H x H' → (∀ y H4, Same H H4 → R i y H4 → Q y H4) → g x (wipe σ vs) H' fun σ2 H2 => wipe σ2 vs = wipe σ vs ∧ te σ2 H2 Q)
    (hd : ∀ H ys, Same H1 H → H D = some (.lst ys) → ys.length = n → (∀ (i : Nat) y, ys[i]? = some y → R i y H) → Qd H) :
    ∃ W : Nat → Nat → Hp → Prop, (∃ m, W 0 m (upd H1 D (.lst []))) ∧ ∀ i m H, W i m H →
      (J.stop i H ∧ Qd H) ∨ (J.go i H ∧ ∃ Nx : Hp → Prop, (∀ H', Nx H' → ∃ m', m' < m ∧ W (i + 1) m' H') ∧ ∀ x H', J.yld i H x H' → g x (wipe σ vs) H' fun σ2 H2 => wipe σ2 vs = wipe σ vs ∧ tYes σ2 H2 fun b H3 =>
        if b = true then te σ2 H3 fun y H4 => ∃ acc, H4 D = some (.lst acc) ∧ acc.length < sizeLine ∧ Nx (upd H4 D (.lst (acc ++ [y]))) else Nx H3) := by
  refine lc_it w (fun i H => Same H1 H ∧ ∃ ys : List V, H D = some (.lst ys) ∧ ys.length = i ∧ ∀ (j : Nat) y, ys[j]? = some y → R j y H) ⟨lc_to.same_upd0 hD, [], upd_same, rfl, fun j y h => by simp at h⟩ (fun i H _ p => hG H p.1) (fun i x H H' hi p y => ?_) (fun H p => ?_)
  · obtain ⟨s1, ys, e, hl, hr⟩ := p
    refine hs i x H H' _ hi s1 y fun y H4 sm ry => ?_
    have e4 := sm _ _ e
    have bt : ∀ b o, b ≠ D → H4 b = some o → (upd H4 D (.lst (ys ++ [y]))) b = some o := fun b o n q => by rw [upd_ne n]; exact q
    refine ⟨ys, e4, big6' (by omega), Same.mut (s1.trans sm) hD, ys ++ [y], upd_same, by simp [hl], fun j z hj => ?_⟩
    by_cases h : j < ys.length
    · rw [List.getElem?_append_left h] at hj
      exact hR _ _ _ _ _ bt e4 (hR _ _ _ _ _ (fun b o n q => sm b o q) e (hr j z hj))
    · rw [List.getElem?_append_right (by omega)] at hj
      have e0 : j - ys.length = 0 := by
        cases h2 : j - ys.length with
        | zero => rfl
        | succ k => rw [h2] at hj; simp at hj
      rw [e0] at hj
      have ez : y = z := Option.some.inj hj
      have ej : j = i := by omega
      subst ez
      subst ej
      exact hR _ _ _ _ _ bt e4 ry
  · obtain ⟨s1, ys, e, hl, hr⟩ := p
    exact hd H ys s1 e hl hr
end
end K6

/-! K6Enum: enumerate over a tuple (the layer has lists alone). -/
namespace K6
open PySem PySem.Spec PyProof.Rows L2
open Sem (wp)
theorem meets_enum1 {v : Value} {o : Obj} {H : Heap → Prop} (B : Begins v o H) :
    Meets (Builtin.«enumerate.__new__» ⟨[.type "enumerate", v], []⟩) (fun _ R s => H s.heap ∧
      R (.ok (.ret (.ref (s.heap.push o).objs.size))) { s with heap := (s.heap.push o).push { cls := .type "enumerate", data := .fields #[.none, .bool false, .ref s.heap.objs.size, rawInt 0, .none, .none] } }) :=
  .of_wp fun prog w A R s h => by
    obtain ⟨hp, g, d, tk, os⟩ := s; obtain ⟨h1, h⟩ := h
    have hsub := sub_enumerate
    have q1 : ∀ {A' : Around} {E : Value → Shared → Prop} {Q : Value → Shared → Prop}, Q (.ref hp.objs.size) ⟨hp.push o, g, d, tk, os⟩ → wpAny (model prog w) A' (pyIter v) Q E ⟨hp, g, d, tk, os⟩ :=
      fun q => B.iter prog w _ _ ⟨hp, g, d, tk, os⟩ _ h1 q
    wp_walk using q1
    refine wpAny_stack_any fun st => wpAny_pure ?_
    split
    · rename_i c _ _ _ _ _
      cases (c == Value.type "enumerate")
      · wp_walk using q1
        exact ⟨_, rfl, h⟩
      · wp_walk using q1
        exact ⟨_, rfl, h⟩
    · wp_walk using q1
      exact ⟨_, rfl, h⟩
section
variable {prog : Program} {w : World} {A : Around} {E : Value → Shared → Prop} {s : Shared}
theorem enum_begins1 {v : Value} {o : Obj} {H : Heap → Prop} {Q : Value → Shared → Prop} (B : Begins v o H) (h1 : H s.heap)
    (h : ∀ h', IsEnum h' (s.heap.objs.size + 1) s.heap.objs.size 0 .none → h'.get? s.heap.objs.size = some o → h'.objs.size = s.heap.objs.size + 2 →
      (∀ b o, s.heap.get? b = some o → h'.get? b = some o) → Q (.ref (s.heap.objs.size + 1)) { s with heap := h' }) :
    wpAny (model prog w) A (call (.type "enumerate") [v]) Q E s := by
  refine callType_new F.called_enumerate (by decide) (F.typeCall_enumerate_1 _) (F.newCall_enumerate_1 _) (fun obj => F.args_object_init_2 obj _) F.entry_enumerate_new
    (meets_enum1 B) ⟨h1, ?_⟩
  have hz : (s.heap.push o).objs.size = s.heap.objs.size + 1 := Heap.size_push ..
  show _ ∧ _
  rw [hz]
  have he : IsEnum ((s.heap.push o).push { cls := .type "enumerate", data := .fields #[.none, .bool false, .ref s.heap.objs.size, rawInt 0, .none, .none] }) (s.heap.objs.size + 1) s.heap.objs.size 0 .none := by
    have := Heap.get?_push_size (s.heap.push o) (o := { cls := .type "enumerate", data := .fields #[.none, .bool false, .ref s.heap.objs.size, rawInt 0, .none, .none] }) rfl
    rw [hz] at this; exact this
  refine ⟨⟨_, he, rfl⟩, h _ he (Heap.get?_push_of_some _ (Heap.get?_push_size _ B.free)) (by rw [Heap.size_push, hz]) fun b o x => Heap.get?_push_of_some _ (Heap.get?_push_of_some _ x)⟩
end
/-- the tuple at a, each item in a new pair -/
def IteT (K : PySem.W.Frag) (a : Addr) : It :=
  ⟨fun i H => ∃ (xs : List V) (x : V), SqT K H a xs ∧ xs[i]? = some x, fun i H v H' => ∃ T x, v = .ref T ∧ H T = none ∧ H' = upd H T (.tup [.int (i : Nat), x]) ∧ ∀ xs, SqT K H a xs → xs[i]? = some x, fun i H => ∃ xs : List V, SqT K H a xs ∧ xs.length = i⟩
theorem turn_enumT {P : Program} {w : World} {K : PySem.W.Frag} {elts : List Expr} {kk : Nat} {tpos : Pos} (a e it : Addr) :
    Turn P w K (.Tuple elts kk tpos) (IteT K a) [e, it] e (fun i h => (∃ old, IsEnum h e it ((i : Nat) : Int) old) ∧ h.IsTupleIter it a i ∧ e ≠ it ∧ a ≠ it) where
  mem := by simp
  obj := fun i h st b hb => by
    obtain ⟨⟨old, he⟩, ⟨o, ho, hc, hd⟩, _⟩ := st
    have e' : b = e ∨ b = it := by simpa using hb
    rcases e' with z | z
    · rw [z]; exact ⟨_, he, fun v q => nomatch q⟩
    · rw [z]; exact ⟨o, ho, fun v q => by rw [hd] at q; cases q⟩
  keep := fun i h h' st k => let ⟨⟨old, he⟩, hi, hne⟩ := st; ⟨⟨old, k e (by simp) _ he⟩, hi.at fun o q => k it (by simp) o q, hne⟩
  item := by
    intro X hP hw hK hc i pins s σ H E I hf st hg
    subst hP hw hK
    obtain ⟨⟨old, he⟩, hit, hne, hna⟩ := st
    obtain ⟨xs, x, hq, hx⟩ := hg
    obtain ⟨its, rv, p, hz⟩ := I.tuple hq
    obtain ⟨u, hu, ru⟩ := rv.get hx
    have hel : e < s.heap.objs.size := Heap.lt_size he
    have hil : it < s.heap.objs.size := by obtain ⟨_, q, _⟩ := hit; exact Heap.lt_size q
    have hea : e ≠ a := fun z => by
      obtain ⟨o, ho, hcl, _⟩ := p
      rw [← z, he] at ho
      have h2 : Value.type "enumerate" = Value.type "tuple" := by
        rw [← hcl, ← Option.some.inj ho]
      exact absurd h2 (by decide)
    have D := Draws.tuple (prog := X.prog) (w := X.w) (A := X.A.in1) (I.ok.hd hc) it a hna its.toArray
    have hi : i < its.toArray.size := by have := (List.getElem?_eq_some_iff.mp hu).1; simpa using this
    refine wpAny_pyNext_enum_itemD D he ⟨hit, (show s.heap.IsTuple a its.toArray from p)⟩ hi hne (by simp [hne, hea]) fun x' h' tk hP ho hit' hT hsz hk => ?_
    have ex' : x' = u := by
      have h1 : its.toArray[i]? = some x' := hP
      have h2 : its.toArray[i]? = some u := by simpa using hu
      exact Option.some.inj (h1.symm.trans h2)
    subst ex'
    refine ⟨_, rfl, wpAny_letOwnedTupleGo_enum (s := { s with heap := h', toks := tk + 1 }) ho fun h'' he' sb => ?_⟩
    have hT2 : h''.get? s.heap.objs.size = some { cls := .type "tuple", data := .seq #[.int i tk, x'] } := (sb.2 _ (Nat.ne_of_gt hel)).trans hT
    have new : ObjOk X.prog X.w (upd H s.heap.objs.size (.tup [.int (i : Nat), x])) h'' s.heap.objs.size (.tup [.int (i : Nat), x]) :=
      ⟨by show 2 ≤ sizeLine; decide, [.int i tk, x'], .cons ⟨_, rfl⟩ (.cons ru .nil), ⟨_, hT2, rfl, _, rfl⟩⟩
    have I1 : Inv X pins σ (upd H s.heap.objs.size (.tup [.int (i : Nat), x])) { s with heap := h'', toks := tk + 1 } :=
      I.turnedNew (ch := [e, it]) (fun b ob hb q => (sb.2 b (fun z => hb (by simp [z]))).trans (hk b ob (fun z => hb (by simp [z])) (fun z => hb (by simp [z])) q)) hf (Nat.le_refl _) new
    refine ⟨.ref s.heap.objs.size, _, I1, rfl, ⟨_, x, rfl, I.hok.fresh (Nat.le_refl _), rfl, fun ys hy => by rw [I.tuple_inj hy hq]; exact hx⟩, ⟨⟨x', ?_⟩, hit'.1.at fun o q => (sb.2 it (Ne.symm hne)).trans q, hne, hna⟩, fun b hb => ?_⟩
    · have e1 : ((i + 1 : Nat) : Int) = (i : Int) + 1 := by omega
      rw [e1]; exact he'
    · have hb' : b < s.heap.objs.size := by
        have e' : b = e ∨ b = it := by simpa using hb
        rcases e' with z | z
        · rw [z]; exact hel
        · rw [z]; exact hil
      rw [upd_ne (Nat.ne_of_lt hb')]
      exact (hf b hb).1
  done := by
    intro X hP hw hK hc i pins s σ H E I hf st hg
    subst hP hw hK
    obtain ⟨⟨old, he⟩, hit, hne, hna⟩ := st
    obtain ⟨xs, hq, hx⟩ := hg
    obtain ⟨its, rv, p, hz⟩ := I.tuple hq
    obtain ⟨f0, f1, f2, f3, f4, f5⟩ := hf it (by simp)
    have hl := rv.length
    have D := Draws.tuple (prog := X.prog) (w := X.w) (A := X.A.in1) (I.ok.hd hc) it a hna its.toArray
    have ei : its.toArray.size = i := by simp; omega
    refine wpAny_pyNext_enum_endD D he (by rw [ei]; exact ⟨hit, (show s.heap.IsTuple a its.toArray from p)⟩) fun h' eb => ⟨rfl, I.turned (t' := s.toks) (fun b o hb q => eb b o hb q) f0 f1 f3 f4 f5⟩
  self := fun A i s Q E st h => let ⟨⟨_, he⟩, _⟩ := st; wpAny_pyIter_enum he h
def iEnumT (K : PySem.W.Frag) (ta : TA) : TI := fun σ H R => ta σ H fun vs H1 => ∃ a xs, vs = [.ref a] ∧ SqT K H1 a xs ∧ R (IteT K a) H1
theorem pi_enumT {X : Cx} {e : Expr} {ta : TA} {p pos tpos : Pos} {elts : List Expr} {kk : Nat} (hg : Gl X "enumerate") (hm : X.mg "enumerate" = none) (ha : PA X [e] ta) (hs : starEach [e] X.env = [(false, eval e X.env)] := by rfl) :
    PI X (.Tuple elts kk tpos) (.Call (.Name "enumerate" p) [e] [] pos) (iEnumT X.K ta) := by
  refine ⟨fun pins s σ H R I h => ?_⟩
  refine Call_ (ld_blt I hg hm boot_enumerate (PyProof.Rows.callWith_type1 (thn (ha.run pos pins s σ H _ I h) fun us s1 ⟨vs, H1, I1, r1, q1⟩ => ?_) hs rfl))
  obtain ⟨a, xs, ex, hq, q⟩ := q1
  subst ex
  cases r1 with
  | cons r rr =>
    cases rr
    cases r
    obtain ⟨its, rv, p', hz⟩ := I1.tuple hq
    refine enum_begins1 (begins_tuple a its.toArray) (show s1.heap.IsTuple a its.toArray from p') fun h' he hit hsz hk => wpAny_pyIter_enum he ?_
    have I2 : Inv X pins σ H1 { s1 with heap := h' } := I1.kept (t' := s1.toks) hk
    have hal : a < s1.heap.objs.size := by obtain ⟨o, ho, _⟩ := p'; exact Heap.lt_size ho
    refine ⟨s1.heap.objs.size + 1, [s1.heap.objs.size + 1, s1.heap.objs.size], _, _, H1, rfl, I2, turn_enumT a (s1.heap.objs.size + 1) s1.heap.objs.size, ⟨⟨.none, he⟩, ⟨_, hit, rfl, rfl⟩, Nat.succ_ne_self _, Nat.ne_of_lt hal⟩, fun b hb => ?_, q⟩
    have e' : b = s1.heap.objs.size + 1 ∨ b = s1.heap.objs.size := by simpa using hb
    have hle : s1.heap.objs.size ≤ b := by
      rcases e' with z | z
      · rw [z]; exact Nat.le_add_right _ _
      · rw [z]; exact Nat.le_refl _
    exact I1.fpOk hle (I1.hok.fresh hle)
theorem walk_enumT {K : PySem.W.Frag} {a : Addr} {xs : List V} : Walk (IteT K a) xs.length (fun H => SqT K H a xs) (YPair (fun i => some (.int (i : Nat))) (fun i => xs[i]?)) := by
  refine ⟨fun i _ hi q => ⟨xs, xs[i], q, by simp [hi]⟩, fun _ q => ⟨xs, q, rfl⟩, fun i H v H' _ q y => ?_⟩
  obtain ⟨T, x, h1, h2, h3, h4⟩ := y
  exact ⟨T, .int (i : Nat), x, h1, h2, h3, rfl, h4 xs q⟩
end K6

/-! K6Exc: the own error InvalidText: its __init__ says super().__init__(..), then two fields; made, raised, caught, its fields read. -/
namespace K6X
open PySem PySem.W PySem.Calls PyProof.Rows PySem.HandSPX
def sT : Stmt := L2.inClass (K6.top 4) 0
/-- what the written part says of InvalidText, at C, and of its __init__, at fI -/
structure TxtT (P : Program) (K : Frag) (mg : Str → Option Value) (C fI : Addr) : Prop where
  gC : mg "InvalidText" = some (.ref C)
  ox : L2.OexC K C
  ga : findIn K (.ref C) "__getattribute__" = some (some (.builtin "BaseException.__getattribute__"))
  gg : findIn K (.ref C) "__getattr__" = some none
  nT : findIn K (.ref C) "text" = some none
  nA : findIn K (.ref C) "at" = some none
  iC : findIn K (.ref C) "__init__" = some (some (.ref fI))
  tI : typeIn K (.ref fI) = some (.type "function")
  hdC : hasDictIn K C = true
  te : exmOne K (.ref C) (.ref C) = some true
  sup : ks_superIn K C C "__init__" = some (some (.builtin "ValueError.__init__"))
  hB : subIn K (.ref C) (.type "ValueError") = some true
  hsub : mroIn K C (.ref C) = some true
  ho : nsIn K cStatics "thirdparty.any" = some none
  sg : mg "super" = none
  htop : (P.main.scope.names.lookup ("super" : Str)).isSome = false
  fn : ∃ (oc : Value) (od : Option Addr) (kV doc pm : Value) (an : Option Addr) (cda : Addr) (ct : Value) (osl : Array (Option Value)) (cc : Addr),
    K.lookup fI = some ⟨oc, od, .func (ksFn "__init__" "InvalidText.__init__" (L2.defArgs sT) (L2.defBody sT) (L2.defScope sT) .none kV doc pm an (.ref cda) ct cc), osl⟩ ∧ codeIn K (.ref cda) "InvalidText.__init__" = true ∧
    (∃ ccl cdd vs ccs file tf, K.lookup cda = some ⟨ccl, cdd, .fields vs, ccs⟩ ∧ vs[2]? = some (.str file tf) ∧ ((P.main.file : Str) == file) = true) ∧
    ∃ cl cld csl, K.lookup cc = some ⟨cl, cld, .cell (some (.ref C)), csl⟩
/-- what __init__ leaves of a fresh exception at x -/
structure InitEnd (h h' : Heap) (x C dx t1 : Addr) (v1 v2 : Value) : Prop where
  keep : ∀ b o, b ≠ x → h.get? b = some o → h'.get? b = some o
  obj : h'.get? x = some { cls := .ref C, dict := some dx, data := .fields #[.ref t1, .none, .none, .none, .bool false, .none] }
  dbig : h.objs.size ≤ dx
  dne : dx ≠ x
  ns : h'.Ns1 dx (fun y => if y = "at" then some v2 else if y = "text" then some v1 else none)
theorem ldE {M : Model} {A : Around} {E : Value → Shared → Prop} {s : Shared} {env : Env} {m : Str → Option Value} {x : Str} {pos : Pos} {v : Value} {Q : Value → Shared → Prop} (hn : s.heap.Ns env.locals m) (hv : m x = some v) (h : Q v s)
    (hk : env.scope.kind = .function := by rfl) (hl : env.kindOf x = some .local := by rfl) (hd : (x == ("__debug__" : Str)) = false := by decide) : wpAny M A (eval (.Name x pos) env) Q E s := wpAny_Name (wpAny_loadName_local hk hl hn hv h) hd
section
variable {prog : Program} {w : World} {A : Around} {E : Value → Shared → Prop} {R : Result → Shared → Prop} {K : Frag} {mg : Str → Option Value} {C fI : Addr}
/-- the wrapper of ValueError.__init__ called -/
theorem call_vw {h : Heap} {g : Array GenState} {d : Drawn} {t : Nat} {os : OsState} {u x t0 : Addr} {rest : List Value} {Q : Value → Shared → Prop} (T : L2.OexC K C) (X : K.In h) (hx : h.get? x = some (excO C t0)) (hu : h.get? u = some (kxs_mw "ValueError.__init__" x)) (hz : rest.length ≤ sizeLine)
    (hq : ∀ h' t1, (∀ b o, b ≠ x → h.get? b = some o → h'.get? b = some o) → h'.get? x = some (excO C t1) → Q .none ⟨h', g, d, t, os⟩) :
    wpAny (model prog w) A (call (.ref u) rest) Q E ⟨h, g, d, t, os⟩ := by
  obtain ⟨nm, q, N, bs, bm, sn, sub, ab, col, dd, k0, k1, k2, k3, k5, hC, hbm⟩ := T.cls
  have hC' := X _ _ hC
  refine wpAny_call (codeAny_of_tree ?_)
  show wpAny _ A.in1 (callAny (.ref u) ⟨rest, []⟩) _ _ _
  simp only [callAny]
  refine wpAny_bind (wpAny_load hu ?_)
  simp only [kxs_mw, show (Value.type "method-wrapper" == Value.type "method" || Value.type "method-wrapper" == Value.type "builtin_function_or_method" || Value.type "method-wrapper" == Value.type "method-wrapper") = true by decide, if_true]
  refine KFB.if_so (by decide) ?_
  refine wpAny_bind (check_bound_init F.excBase_ValueError.toExcCallFacts hC' hx rfl ?_)
  refine wpAny_bind (wpAny_pure (wpAny_pure ?_))
  refine ⟨plainId_quiet F.excBase_ValueError.init.plain _, codeAny_builtin F.excBase_ValueError.initEntry ?_⟩
  exact exc_init_tree (cls := .ref C) (t0 := t0) (dv := none) (c2 := .none) (c3 := .none) (b4 := .bool false) hx hz fun h' k e _ => hq h' _ k e
theorem one_size (v : Value) : [v].length ≤ sizeLine := by
  rw [sizeLine_eq]
  exact (by decide : 1 ≤ 16777216)
theorem two_size (v u : Value) : [v, u].length ≤ sizeLine := by
  rw [sizeLine_eq]
  exact (by decide : 2 ≤ 16777216)
theorem txt_init {base : Heap} {s : Shared} (T : TxtT prog K mg C fI) (M0 : L2.Mod K mg base) (kb : ∀ b o, base.get? b = some o → s.heap.get? b = some o) {x t0 : Addr} {v1 v2 : Value} (hx : s.heap.get? x = some (excO C t0)) (hnx : K.lookup x = none) (hroom : A.depth < recursionLimit)
    (hq : ∀ h' tk dx t1, InitEnd s.heap h' x C dx t1 v1 v2 → R (.ok (.ret .none)) { s with heap := h', toks := tk }) :
    codeAny (model prog w) A (.call (.ref fI) ⟨[.ref x, v1, v2], []⟩) R s := by
  obtain ⟨oc, od, kV, doc, pm, an, cda, ct, osl, cc, ho, hcd, ⟨ccl, cdd, vs, ccs, file, tf, hcode, hvs, hfile⟩, cl, cld, csl, hcell⟩ := T.fn
  obtain ⟨nm, q, N, bs, bm, sn, sub, ab, col, dd, k0, k1, k2, k3, k5, hC, hbm⟩ := T.ox.cls
  have hcl : clsIn K C = some { name := nm, bases := bs, mro := .ref C :: bm, ns := N, qualname := q, hasDict := true, slotNames := sn, subclasses := sub, abstract := ab, collection := col, hasDel := false } := by unfold clsIn; rw [hC] <;> rfl
  have X : K.In s.heap := M0.kin.keeps kb
  have hlim : s.heap.NoLimit := M0.nolimit.keeps kb
  refine ks_codeAny_call_defAt (fd := ksFn "__init__" "InvalidText.__init__" (L2.defArgs sT) (L2.defBody sT) (L2.defScope sT) .none kV doc pm an (.ref cda) ct cc) (binds := [("self", .ref x), ("text", v1), ("at", v2)]) hroom (X _ _ ho) rfl hlim (codeRec_of X hcd) rfl
    (BindsTo.of_eq (by first | rfl | with_unfolding_all rfl)) (show ∀ x ∈ (L2.defScope sT).names, x.2 ≠ .cell by decide +kernel) (locs rfl) (fun h₁ hn k => ?_)
  obtain ⟨hp, g, d, t, os⟩ := s
  have hx : hp.get? x = some (excO C t0) := hx
  have hxL : hp.objs.size ≠ x := Nat.ne_of_gt (Heap.lt_size hx)
  have k : ∀ b o, hp.get? b = some o → h₁.get? b = some o := k
  have X₁ : K.In h₁ := Frag.In.keeps (show K.In hp from X) k
  have hx₁ := k _ _ hx
  have kb : ∀ b o, base.get? b = some o → hp.get? b = some o := kb
  have kb₁ : ∀ b o, base.get? b = some o → h₁.get? b = some o := fun b o e => k b o (kb b o e)
  obtain ⟨mb, hb1, hb2⟩ := M0.blt
  have hL : hp.objs.size < h₁.objs.size := hn.lt
  have hn : h₁.Ns hp.objs.size (fun y => ([("self", .ref x), ("text", v1), ("at", v2)] : List (Str × Value)).reverse.lookup y) := hn
  -- super().__init__(..)
  refine ks_wpAt_execs_cons (ks_wpAt_Expr_any (ks_wpAt_MethodCall ?_))
  refine ks_wpAt_super_base (by rfl) (by rfl) (by decide) rfl (X₁ _ _ ho) rfl (by rfl) rfl (X₁ _ _ hcode) rfl hvs hfile T.htop ?_
  refine ks_loadName_global (by rfl) (by rfl) (loadGlobal_builtin (M0.glob.keeps kb₁) T.sg (hb1.keeps kb₁) ((hb2 "super" (by decide)).trans (by decide +kernel)) ⟨rfl, ?_⟩)
  refine wpAny_loadName_free (by rfl) (by rfl) rfl ⟨_, X₁ _ _ hcell, rfl⟩ ?_
  refine wpAny_loadName_local (by rfl) (by rfl) hn (by rfl) ?_
  refine ks_wpAny_isType_cls (X₁ _ _ hC) rfl ⟨rfl, ?_⟩
  refine ks_wpAny_call_super (X₁ _ _ hC) rfl hx₁ rfl (fun c e => by cases e) (looks_mroIn X₁ T.hsub) (fun h2 hso k2 => ?_)
  have X₂ : K.In h2 := X₁.keeps k2
  have hx₂ := k2 _ _ hx₁
  have hxC : x ≠ C := fun e => by
    rw [e, X₁ _ _ hC] at hx₁
    cases hx₁
  have I2 : InstAt h2 x (excO C t0) C none := ⟨hx₂, rfl, rfl, trivial⟩
  refine kxs_getMethod kxs_ValueError hso (looks_opaque X₂ T.ho) (l₀ := .ref C :: bm) (fun A Q E s k q => wpAny_bind ((looks_clsIn X₂ hcl) A _ E s k (wpAny_pure q))) rfl X₂ (by
    have e := T.sup
    unfold ks_superIn at e
    rw [hcl] at e
    exact e) (I2.type.andThen (looks_subIn X₂ T.hB)) hxC (by decide) ?_
  have k3 : ∀ b o, h2.get? b = some o → (h2.push (kxs_mw "ValueError.__init__" x)).get? b = some o := fun b o e => Heap.get?_push_of_some _ e
  have hu : (h2.push (kxs_mw "ValueError.__init__" x)).get? h2.objs.size = some (kxs_mw "ValueError.__init__" x) := Heap.get?_push_size _ rfl
  refine kxs_callWith (i := "ValueError.__init__") (x := x) rfl (evalArgs_plain (Calls.spliced_cons (Calls.Constant_str (k := 0) (pos := ⟨16, 25, 16, 76⟩) (Calls.spliced_nil ⟨hu, ?_⟩))))
  refine call_vw T.ox (X₂.keeps k3) (k3 _ _ hx₂) hu (one_size _) fun h4 t1 k4 hx4 => ?_
  have kept : ∀ {b : Addr} {o : Obj}, b ≠ x → h₁.get? b = some o → h4.get? b = some o := fun {b o} n e => k4 b o n (k3 _ _ (k2 _ _ e))
  have nK : ∀ a o, K.lookup a = some o → a ≠ x := fun a o e z => by rw [z, hnx] at e; cases e
  have X4 : K.In h4 := fun a o e => kept (nK a o e) (X₁ a o e)
  have hn4 : h4.Ns hp.objs.size (fun y => ([("self", .ref x), ("text", v1), ("at", v2)] : List (Str × Value)).reverse.lookup y) := by
    obtain ⟨o, es, ep, e, r⟩ := hn
    exact ⟨o, es, ep, kept hxL e, r⟩
  -- self.text = text
  refine wpAt_of_wpAny (wpAny_execs_cons (plainObj_wpAny_Assign_Attribute ?_))
  refine ldE hn4 (v := v1) (by rfl) (ldE hn4 (v := .ref x) (by rfl) ?_)
  refine set_plain X4 (ox := excO C t1) (od := none) ⟨hx4, rfl, rfl, trivial⟩ T.ox.sa ?_
  refine exc_osa X4 hx4 hcl (show refsVE (.ref C :: bm) = true from hbm) rfl T.nT (fun h5 tk5 dx k5 dn dne hx5 hns5 => ?_)
  have X5 : K.In h5 := fun a o e => k5 a o (nK a o e) (X4 a o e)
  have hn5 : h5.Ns hp.objs.size (fun y => ([("self", .ref x), ("text", v1), ("at", v2)] : List (Str × Value)).reverse.lookup y) := by
    obtain ⟨o, es, ep, e, r⟩ := hn4
    exact ⟨o, es, ep, k5 _ _ hxL e, r⟩
  have hw0 : Within (fun _ : Str => (none : Option Value)) [] := fun y hy => absurd rfl hy
  have hw : Within (fun y : Str => if y = "text" then some v1 else none) ["text"] := Within.cons "text" v1 hw0
  obtain ⟨oD, _, _, hoD, _, _⟩ := hns5.count hw
  -- self.at = at
  show wpAny _ _ (execs _ _) _ _ _
  refine wpAny_execs_cons (plainObj_wpAny_Assign_Attribute ?_)
  refine ldE hn5 (v := v2) (by rfl) (ldE hn5 (v := .ref x) (by rfl) ?_)
  refine set_plain X5 (ox := { cls := .ref C, dict := some dx, data := .fields #[.ref t1, .none, .none, .none, .bool false, .none] }) (od := some oD) ⟨hx5, rfl, rfl, hoD⟩ T.ox.sa ?_
  refine PySem.OEX.osa_old X5 hx5 hns5 hw (by decide) hcl (show refsVE (.ref C :: bm) = true from hbm) rfl T.nA (fun h6 tk6 k6 hns6 => ?_)
  show wpAny _ _ (execs _ _) _ _ _
  refine wpAny_execs_nil (hq h6 tk6 dx t1 ⟨fun b o hb e => ?_, k6 x _ (Ne.symm dne) hx5, ?_, dne, hns6⟩)
  · have e4 := kept hb (k b o e)
    exact k6 b o (Nat.ne_of_lt (Nat.lt_of_lt_of_le (Heap.lt_size e4) dn)) (k5 b o hb e4)
  · obtain ⟨o, es, ep, e, r⟩ := hn4
    exact Nat.le_trans (Nat.le_of_lt (Heap.lt_size e)) dn
/-- a made InvalidText -/
structure OwnMade (h h' : Heap) (e C d : Addr) (v1 v2 : Value) : Prop where
  keep : ∀ b o, h.get? b = some o → h'.get? b = some o
  new : h.objs.size ≤ e
  obj : ∃ t1 : Addr, h'.get? e = some { cls := .ref C, dict := some d, data := .fields #[.ref t1, .none, .none, .none, .bool false, .none] }
  dbig : h.objs.size ≤ d
  dne : d ≠ e
  ns : h'.Ns1 d (fun y => if y = "at" then some v2 else if y = "text" then some v1 else none)
theorem txt_made {base : Heap} {s : Shared} (T : TxtT prog K mg C fI) (M0 : L2.Mod K mg base) (kb : ∀ b o, base.get? b = some o → s.heap.get? b = some o) {v1 v2 : Value} (hroom : A.depth + 1 < recursionLimit)
    (hq : ∀ h' tk e d, OwnMade s.heap h' e C d v1 v2 → R (.ok (.ret (.ref e))) { s with heap := h', toks := tk }) :
    codeAny (model prog w) A (.call (.ref C) ⟨[v1, v2], []⟩) R s := by
  obtain ⟨nm, q, N, bs, bm, sn, sub, ab, col, dd, k0, k1, k2, k3, k5, hC, hbm⟩ := T.ox.cls
  obtain ⟨hp, g, dr, tk, os⟩ := s
  have kb : ∀ b o, base.get? b = some o → hp.get? b = some o := kb
  have X : K.In hp := M0.kin.keeps kb
  have k : ∀ b o, hp.get? b = some o → ((hp.push (kdv_tup [v1, v2])).push (excO C hp.objs.size)).get? b = some o := fun b o e => Heap.get?_push_of_some _ (Heap.get?_push_of_some _ e)
  have hget : ((hp.push (kdv_tup [v1, v2])).push (excO C hp.objs.size)).get? (hp.objs.size + 1) = some (excO C hp.objs.size) := by heap_get
  have hnx : K.lookup (hp.objs.size + 1) = none := by
    cases e : K.lookup (hp.objs.size + 1) with
    | none => rfl
    | some o =>
      have z : hp.get? (hp.objs.size + 1) = some o := X _ _ e
      exact absurd (Nat.lt_of_succ_lt (Heap.lt_size z)) (Nat.lt_irrefl _)
  refine call_own F.excBase_ValueError (fun X => refsVE_contains X bm hbm) (X _ _ hC) (looks_findIn X T.iC) (fun self => bind_fn X self T.tI) (two_size _ _) ?_
  refine txt_init (s := ⟨(hp.push (kdv_tup [v1, v2])).push (excO C hp.objs.size), g, dr, tk, os⟩) T M0 (fun b o e => k b o (kb b o e)) hget hnx ?_ fun h' tk' dx t1 ⟨k', hx, dn, dne, hns⟩ => ?_
  · show A.depth + 1 < recursionLimit
    exact hroom
  · have old : ∀ b o, hp.get? b = some o → h'.get? b = some o := fun b o e => k' b o (Nat.ne_of_lt (Nat.lt_succ_of_lt (Heap.lt_size e))) (k b o e)
    have z : hp.objs.size + 1 + 1 ≤ dx := by
      first
        | (simpa only [Heap.size_push] using dn)
        | exact dn
        | (have q := dn; rw [Heap.size_push, Heap.size_push] at q; exact q)
    exact ⟨rfl, hq h' tk' (hp.objs.size + 1) dx ⟨old, Nat.le_succ _, ⟨_, hx⟩, Nat.le_trans (Nat.le_trans (Nat.le_succ _) (Nat.le_succ _)) z, dne, hns⟩⟩
end
end K6X
namespace K6
open PySem PySem.Spec PyProof.Rows L2
section
variable {X : Cx} {C fI : Addr}
/-- the error's own dict -/
def errD (v1 v2 : V) : List (Str × V) := [(("at" : Str), v2), (("text" : Str), v1)]
/-- InvalidText(e1, e2) -/
def tMkT (C : Addr) (ta : TA) : L2.St → Hp → XK → Prop := fun σ H Q => ta σ H fun vs H1 => ∃ v1 v2, vs = [v1, v2] ∧ ∀ d, H1 d = none → Q (.ref C) (some d) (upd H1 d (.xd (errD v1 v2)))
theorem pmk_txt {a b : Expr} {ta : TA} {p pos : Pos} {k : Nat} (T : K6X.TxtT X.prog X.K X.mg C fI) (hr : Room k X.A) (ha : PA X [a, b] ta) (hg : Gl X "InvalidText" := by rfl)
    (he : starEach [a, b] X.env = (false, eval a X.env) :: starEach [b] X.env := by rfl) (hpl : (backTo pos (starEach [b] X.env)).any (·.1) = false := by rfl) :
    L2N.PMk X (.Call (.Name "InvalidText" p) [a, b] [] pos) (tMkT C ta) := by
  intro pins s σ H Q I h
  refine wpAny_Call_Name_kw (ld_glob I hg T.gC ?_)
  refine PySem.W.callWith_K (h₀ := X.base) I.ok.mod.kin T.ox.kC (thn (ha.run pos pins s σ H _ I h) fun us s1 hh => ?_) he hpl
  obtain ⟨vs, H1, I1, r1, v1, v2, ev, q1⟩ := hh
  subst ev
  refine ⟨I1.kIn, ?_⟩
  obtain ⟨u1, u2, rfl, rv1, rv2⟩ := vals2 r1
  show wpAny _ _ (call (.ref C) [u1, u2]) _ _ _
  have M0 := I1.ok.mod
  have kb := I1.bk
  obtain ⟨hp, g, dr, tk, os⟩ := s1
  refine wpAny_call (K6X.txt_made T M0 kb (by have := hr.dp; omega) fun h' tk' e d M => ?_)
  show L2N.MkP X pins σ Q (.ref e) ⟨h', g, dr, tk', os⟩
  obtain ⟨t1, hoe⟩ := M.obj
  have hns := M.ns
  obtain ⟨G', g1, g2⟩ := restrict h' fun b => decide (b ≠ e)
  have gk : ∀ b, b ≠ e → G'.get? b = h'.get? b := fun b hb => g1 b (decide_eq_true hb)
  have ge : G'.get? e = none := g2 e (by simp)
  have old : ∀ b o, hp.get? b = some o → G'.get? b = some o := fun b o q => (gk b (Nat.ne_of_lt (Nat.lt_of_lt_of_le (Heap.lt_size q) M.new))).trans (M.keep b o q)
  have ob : ObjOk X.prog X.w (upd H1 d (.xd (errD v1 v2))) G' d (.xd (errD v1 v2)) :=
    ⟨_, hns.at (fun o q => (gk d M.dne).trans q), relO_put rv2 (relO_put (fs := []) rv1 fun g => True.intro)⟩
  have J : Inv X pins σ (upd H1 d (.xd (errD v1 v2))) ⟨G', g, dr, tk', os⟩ := I1.laid (t' := tk') old M.dbig ob
  refine ⟨e, _, _, ⟨G', g, dr, tk', os⟩, _, .ref C, some d, rfl, J, fun b o q => ?_, ge, hoe, ⟨rfl, rfl, fun vs e => by cases e; rfl⟩, rfl, rfl, ?_, rfl, I1.bare, raises_own T.ox.exC T.ox.tyC, q1 d (I1.hok.fresh M.dbig)⟩
  · by_cases hb : b = e
    · have q' : G'.get? b = some o := q
      rw [hb, ge] at q'; cases q'
    · exact (gk b hb).symm.trans q
  · rw [upd_ne (Ne.symm M.dne)]
    exact I1.hok.fresh M.new
/-- raise InvalidText(e1, e2) -/
def tRaiseT (C : Addr) (W : WX) (ta : TA) : TS := fun _ σ H => tMkT C ta σ H fun cls d H' => W cls d σ H'
theorem ps_raiseT {a b : Expr} {ta : TA} {W : WX} {p pos pos2 : Pos} {k : Nat} (hc : X.calm = true) (T : K6X.TxtT X.prog X.K X.mg C fI) (hr : Room k X.A) (tk : L2N.Takes X W) (ha : PA X [a, b] ta) (hg : Gl X "InvalidText" := by rfl)
    (he : starEach [a, b] X.env = (false, eval a X.env) :: starEach [b] X.env := by rfl) (hpl : (backTo pos (starEach [b] X.env)).any (·.1) = false := by rfl) :
    PS X (.Raise (some (.Call (.Name "InvalidText" p) [a, b] [] pos)) none pos2) (tRaiseT C W ta) := L2N.ps_raise hc tk (pmk_txt T hr ha hg he hpl)
/-- e.f, e the exception that the suite holds (at a; its class cls, its dict d) -/
def tByT (C : Addr) (f : Str) (a : Addr) (cls : Value) (d : Option Addr) (te : TE) : TE := fun σ H Q => te σ H fun x H1 => x = .ref a ∧ cls = .ref C ∧ ∃ (dd : Addr) (v : V) (fs : List (Str × V)), d = some dd ∧ H1 dd = some (.xd fs) ∧ fs.lookup f = some v ∧ Q v H1
theorem pe_byT {P : Program} {mg : Str → Option Value} {f : Str} {a : Addr} {oe : Obj} {cls : Value} {d : Option Addr} {pn : List (Addr × Obj)} {e : Expr} {te : TE} {pos : Pos} (T : K6X.TxtT P X.K mg C fI) (hno : PySem.W.findIn X.K (.ref C) f = some none) (hz : L2N.Zn cls d oe) (hf : ∃ vs, oe.data = .fields vs) (he : PE (X.suite a ((a, oe) :: pn)) e te)
    (hb : attributeBase e f X.env (eval e X.env) = eval e X.env := by rfl) :
    PE (X.suite a ((a, oe) :: pn)) (.Attribute e f pos) (tByT C f a cls d te) := by
  refine ⟨fun pins s σ H Q I h => ?_⟩
  refine attr_of hb (thn (he.run pins s σ H _ I h) fun u s1 hh => ?_)
  obtain ⟨x, H1, I1, rx, ex, ec, dd, v, fs, ed, ea, l, q⟩ := hh
  subst ex
  obtain rfl : u = Value.ref a := rx
  subst ec
  subst ed
  obtain ⟨ha, _⟩ := I1.pin (a, oe) (List.mem_append_left _ List.mem_cons_self)
  obtain ⟨vs, hd⟩ := hf
  have hx : ObjOk X.prog X.w H1 s1.heap dd (.xd fs) := I1.hok dd _ ea
  obtain ⟨mA, hns, hr⟩ := hx
  obtain ⟨od, ho, hl⟩ := lookIn_ns hns
  obtain ⟨u, hu, ru⟩ := RelO.some_of (v := v) (o := mA f) (by rw [← l]; exact hr f)
  have J : PySem.W.InstAt s1.heap a oe C (some od) := ⟨ha, hz.1, by unfold PySem.W.notCls; rw [hd] <;> rfl, by rw [hz.2.1]; exact ho⟩
  exact HandSPX.exc_get I1.kIn J T.ga T.gg T.ox.exC (PySem.W.findObj_own T.hdC hno rfl (by rw [hl, hu])) (handed_of ru) ⟨v, H1, I1.tok _, ru, q⟩
end
end K6

namespace K6
open PySem PySem.Spec PyProof.Rows L2
open TL (tl len_tl ext_tl tl_append)
section
variable {P : Program} {w : World} {K : PySem.W.Frag} {mg : Str → Option Value} {base : Heap}
def sp_integer_told : Sp := fun vs H Q _ => ∃ v : Str, vs = [.str v] ∧ v.length ≤ 1000000 ∧ ∀ H', Same H H' → Q (.int (toldI v)) H'
theorem c_integer_told {k : Nat} (B : Blt mg) (D : DefAt K mg "integer_told" s_integer_told) : Callee P w K mg base CX0 (k + 1) "integer_told" ["word"] sp_integer_told := by
  obtain ⟨f, fd, F, g⟩ := D
  refine ⟨f, fd, g, F.kp, F.binds (fun _ _ _ _ _ _ us hl => match us, hl with | [_], _ => rfl), F.ok sc_integer_told (fun vs H Q E h => ?_) (fun cdv A outer s H vs Q E hr h => ?_)⟩
  · obtain ⟨v, rfl, _⟩ := h
    rfl
  · obtain ⟨v, rfl, hq⟩ := h
    -- slots 0 word, 1 sign
    refine ⟨_, pss_cons (ps_if (PW.pt (pw_or (pt_not (pt_chain op_le op_le (pe_int) (pe_callB call_len_str (by rfl) B.n_len boot_len (pa_cons (pv 0) pa_nil)) (pe_const B.c_MOST_FIGURES (by rfl)))) (pw_or1 (pt_not (pt_val (pe_callB (cr_all rfl) (by rfl) B.n_all boot_all (pa_cons (pe_lc (own := [("sign", 1)]) (g := gName 1) (by rfl) sc_integer_told.nd (pi_str (pv 0)) (blkOk_by (N := n_integer_told) (sc := defScope s_integer_told) (own := [("sign", 1)]) (by decide +kernel)) (fun _ _ _ _ _ => pg_name (i := 1) sc_integer_told.nd rfl (.inl rfl)) (fun _ _ _ _ _ => pts_nil) (fun _ _ _ _ _ => pe_cmpR op_in_sign (pv 1) (pe_str) (by rfl))) pa_nil)))))))
        (pss_one (ps_ret (pe_un un_neg (pe_int))))
        pss_nil)
      (pss_cons (ps_if (PW.pt (pw_and (pt_cmpR op_gt (pe_callB call_len_str (by rfl) B.n_len boot_len (pa_cons (pv 0) pa_nil)) (pe_int) (nomark _)) (pw_and1 (pt_cmpR op_eq (pe_ix ix_str (pv 0) (pe_int) (fun _ _ => rfl)) (pe_str) (nomark _)))))
        (pss_one (ps_ret (pe_un un_neg (pe_int))))
        pss_nil)
      (pss_one (ps_ret (pe_callTy call_int_str (by rfl) B.n_int boot_int (pa_cons (pv 0) pa_nil))))), ?_⟩
    obtain ⟨hl, q⟩ := hq
    have hl2 : v.length ≤ sizeLine := big6 (by omega)
    have bad : toldI v = -1 → ∀ H', Same H H' → Q (.int (-1)) H' := fun e H' sm => e ▸ q H' sm
    refine ⟨_, rfl, v, rfl, hl2, 1, _, rfl, rfl, _, rfl, ite2 (fun h1 => ?_) (fun h1 => ?_)⟩
    · have h1' : 1 ≤ v.length := by have := of_decide_eq_true h1; omega
      refine ⟨_, _, rfl, rfl, _, rfl, ?_⟩
      by_cases h2 : (v.length : Int) ≤ 2
      · refine ite_f (nd_t h2) ?_
        refine ⟨_, rfl, v, rfl, fun Dl nD => ?_⟩
        refine lc_to walk_str (((tl v).map isD).map V.bl) (by simp) (by show v.length ≤ _; omega) nD (fun _ _ => trivial) (fun i x H1 H' y Q1 hi sm yy hy k1 => ?_) (fun H1 sm hD => ?_)
        · obtain ⟨rfl, c, hc, rfl⟩ := yy
          have hc' : (tl v)[i]? = some c := by rw [← hc]; simp
          rw [List.getElem?_map, List.getElem?_map, hc'] at hy
          have ey : V.bl (isD c) = y := Option.some.inj hy
          subst ey
          refine ⟨rfl, _, rfl, c, _, rfl, rfl, ?_⟩
          rw [digits_mem]
          exact k1 _ (Same.refl _)
        · refine ⟨Dl, (tl v).map isD, rfl, .inl (.inl hD), _, rfl, ?_⟩
          by_cases h3 : ((tl v).map isD).all id = true
          · refine ite_f (by rw [h3]; decide) ?_
            have h3' : ∀ c ∈ tl v, isD c = true := fun c hc => List.all_eq_true.mp h3 _ (List.mem_map_of_mem hc)
            -- the second test
            refine ⟨_, rfl, v, rfl, hl2, _, 1, rfl, rfl, _, rfl, ?_⟩
            have done : ¬ (1 < v.length ∧ (tl v)[0]? = some 48) → tRet (tCB (fun xs H Q => ∃ a n, xs = [V.str a] ∧ PySem.intText? a = some n ∧ a.length ≤ 640 ∧ Q (V.int n) H) (tCons (tVar 0) tNil)) { nx := fun x H' => Q V.non H', rt := Q } (L2.start ["word", "sign"] [V.str v]) H1 := fun h0 => by
              have hg := toldI_good ⟨h1', by omega⟩ h3' h0
              exact ⟨_, rfl, v, toldI v, rfl, toldI_int hg, by omega, q H1 sm⟩
            obtain ⟨c, hc⟩ : ∃ c, (tl v)[0]? = some c := ⟨_, List.getElem?_eq_getElem (by rw [← len_tl]; omega)⟩
            by_cases h4 : (1 : Int) < v.length
            · refine ite_t (d_t h4) ?_
              refine ⟨_, rfl, v, 0, c, rfl, rfl, hl2, atI_nat (j := 0) hc, rfl, _, rfl, ?_⟩
              by_cases h5 : c = 48
              · subst h5
                refine ite_t (d_t (by decide +kernel)) ?_
                exact ⟨1, rfl, bad (toldI_bad_zero (by omega) hc) _ sm⟩
              · refine ite_f (d_f fun z => h5 ?_) ?_
                · have z1 : (⟨#[c]⟩ : Str) = Str.ofString "0" := V.str.inj z
                  have z2 : tl (⟨#[c]⟩ : Str) = [48] := by rw [z1, TL.tl_ofString]; decide
                  exact (List.cons.inj z2).1
                · exact done fun z => h5 (Option.some.inj (hc.symm.trans z.2))
            · refine ite_f (d_f h4) ?_
              exact done fun z => h4 (by omega)
          · refine ite_t (by simpa using h3) ?_
            obtain ⟨c, hc, hb⟩ : ∃ c, c ∈ tl v ∧ isD c = false := by
              have h3' : ((tl v).map isD).all id = false := by simpa using h3
              rw [List.all_eq_false] at h3'
              obtain ⟨b, hb, hz⟩ := h3'
              obtain ⟨c, hc, rfl⟩ := List.mem_map.mp hb
              exact ⟨c, hc, by simpa using hz⟩
            exact ⟨1, rfl, bad (toldI_bad_sign hc hb) _ sm⟩
      · refine ite_t (nd_f h2) ?_
        refine ⟨1, rfl, bad (toldI_bad_len (by omega)) _ (Same.refl _)⟩
    · have h1' : ¬ 1 ≤ v.length := fun z => h1 (decide_eq_true (by omega))
      refine ⟨false, rfl, ite_t rfl ?_⟩
      exact ⟨1, rfl, bad (toldI_bad_len (by omega)) _ (Same.refl _)⟩

theorem len_ne_empty {v : Str} (h : ¬ decide (V.str v = V.str (Str.ofString "")) = true) : 1 ≤ v.length := by
  rw [len_tl]
  cases e : tl v with
  | nil => exact absurd (d_t (by rw [mk_of_tl e]; decide +kernel)) h
  | cons c r => simp
theorem empty_bad {v : Str} (h : decide (V.str v = V.str (Str.ofString "")) = true) : toldI v = -1 := by
  have e := V.str.inj (of_decide_eq_true h)
  exact toldI_bad_len (by rw [e]; decide +kernel)
theorem sign_zero {v : Str} {c : Nat} (hc : (tl v)[0]? = some c) : decide (V.str ⟨#[c]⟩ = V.str (Str.ofString "0")) = true ↔ c = 48 := by
  constructor
  · intro z
    have z1 : (⟨#[c]⟩ : Str) = Str.ofString "0" := V.str.inj (of_decide_eq_true z)
    have z2 : tl (⟨#[c]⟩ : Str) = [48] := by rw [z1, TL.tl_ofString]; decide
    exact (List.cons.inj z2).1
  · rintro rfl
    decide +kernel
def sp_l_figures : Sp := fun vs H Q _ => ∃ (v : Str) (a b : Int), vs = [.str v, .int a, .int b] ∧ v.length ≤ 1000000 ∧ 0 ≤ a ∧ Q (.int (figI v a b)) H
theorem c_l_figures {k : Nat} (B : Blt mg) (D : DefAt K mg "_law_figures" s_l_figures) : Callee P w K mg base CX0 (k + 1) "_law_figures" ["_law_word_here", "_law_least", "_law_most"] sp_l_figures := by
  obtain ⟨f, fd, F, g⟩ := D
  refine ⟨f, fd, g, F.kp, F.binds (fun _ _ _ _ _ _ us hl => match us, hl with | [_, _, _], _ => rfl), F.ok sc_l_figures (fun vs H Q E h => ?_) (fun cdv A outer s H vs Q E hr h => ?_)⟩
  · obtain ⟨v, a, b, rfl, _⟩ := h
    rfl
  · obtain ⟨v, a, b, rfl, hq⟩ := h
    -- slots 0 _law_word_here, 1 _law_least, 2 _law_most, 3 _law_sign
    refine ⟨_, pss_cons (ps_if (PW.pt (pw_or (pt_cmpR op_eq (pv 0) (pe_str) (nomark _)) (pw_or (pt_cmpR op_gt (pe_callB call_len_str (by rfl) B.n_len boot_len (pa_cons (pv 0) pa_nil)) (pe_int) (nomark _)) (pw_or1 (PW.pt (pw_and (pt_cmpR op_gt (pe_callB call_len_str (by rfl) B.n_len boot_len (pa_cons (pv 0) pa_nil)) (pe_int) (nomark _)) (pw_and1 (pt_cmpR op_eq (pe_ix ix_str (pv 0) (pe_int) (fun _ _ => rfl)) (pe_str) (nomark _)))))))))
        (pss_one (ps_ret (pe_un un_neg (pe_int))))
        pss_nil)
      (pss_cons (ps_for PassesOwn.never rfl (pi_str (pv 0)) (pg_name (i := 3) sc_l_figures.nd rfl (.inl rfl))
        (pss_one (ps_if (pt_cmpR op_notIn_sign (pv 3) (pe_str) (by rfl))
          (pss_one (ps_ret (pe_un un_neg (pe_int))))
          pss_nil)))
      (pss_cons (ps_if (PW.pt (pw_or (pt_cmpR op_lt (pe_callTy call_int_str (by rfl) B.n_int boot_int (pa_cons (pv 0) pa_nil)) (pv 1) (nomark _)) (pw_or1 (pt_cmpR op_gt (pe_callTy call_int_str (by rfl) B.n_int boot_int (pa_cons (pv 0) pa_nil)) (pv 2) (nomark _)))))
        (pss_one (ps_ret (pe_un un_neg (pe_int))))
        pss_nil)
      (pss_one (ps_ret (pe_callTy call_int_str (by rfl) B.n_int boot_int (pa_cons (pv 0) pa_nil)))))), ?_⟩
    obtain ⟨hl, h0, q⟩ := hq
    have hl2 : v.length ≤ sizeLine := big6 (by omega)
    have out : toldI v = -1 → Q (.int (-1)) H := fun e => by
      have e2 : figI v a b = -1 := by unfold figI; rw [if_neg (by rw [e]; omega)]
      rw [← e2]
      exact q
    refine ⟨_, rfl, rfl, _, rfl, ite2 (fun h1 => ite_t rfl ⟨1, rfl, out (empty_bad h1)⟩) (fun h1 => ?_)⟩
    have h1' := len_ne_empty h1
    refine ⟨_, rfl, v, rfl, hl2, _, 2, rfl, rfl, _, rfl, ite2 (fun h2 => ite_t rfl ⟨1, rfl, out (toldI_bad_len (by have := of_decide_eq_true h2; omega))⟩) (fun h2 => ?_)⟩
    have h2' : v.length ≤ 2 := by
      have := of_decide_eq_false (by simpa using h2 : decide ((2 : Int) < (v.length : Int)) = false)
      omega
    obtain ⟨c, hc⟩ : ∃ c, (tl v)[0]? = some c := ⟨_, List.getElem?_eq_getElem (by rw [← len_tl]; omega)⟩
    refine ⟨_, rfl, v, rfl, hl2, _, 1, rfl, rfl, _, rfl, ?_⟩
    have go : ¬ (1 < v.length ∧ (tl v)[0]? = some 48) → tSeq (tFor (iStr (tVar 0)) (gName 3) (tIfS (tTest (tOp (fun x y H Q => ∃ (c : Nat) (z : Str), x = V.str ⟨#[c]⟩ ∧ y = V.str z ∧ Q (V.bl (!decide (c ∈ z.cps.toList))) H) (tVar 3) (tC (V.str (Str.ofString "0123456789"))))) (tRet (tUn (rU fun i => V.int (-i)) (tC (V.int 1)))) tNext))
        (tSeq (tIfS (tOr (tTest (tOp (rI0 fun i j => V.bl (decide (i < j))) (tCB (fun xs H Q => ∃ a n, xs = [V.str a] ∧ PySem.intText? a = some n ∧ a.length ≤ 640 ∧ Q (V.int n) H) (tCons (tVar 0) tNil)) (tVar 1))) (tTest (tOp (rI0 fun i j => V.bl (decide (j < i))) (tCB (fun xs H Q => ∃ a n, xs = [V.str a] ∧ PySem.intText? a = some n ∧ a.length ≤ 640 ∧ Q (V.int n) H) (tCons (tVar 0) tNil)) (tVar 2)))) (tRet (tUn (rU fun i => V.int (-i)) (tC (V.int 1)))) tNext)
          (tRet (tCB (fun xs H Q => ∃ a n, xs = [V.str a] ∧ PySem.intText? a = some n ∧ a.length ≤ 640 ∧ Q (V.int n) H) (tCons (tVar 0) tNil))))
        { nx := fun x H' => Q V.non H', rt := Q } (L2.start ["_law_word_here", "_law_least", "_law_most", "_law_sign"] [V.str v, V.int a, V.int b]) H := fun hz => by
      refine ⟨_, rfl, v, rfl, for_it walk_str (fun i σ H' => (∃ y, σ = [some (.str v), some (.int a), some (.int b), y]) ∧ H' = H ∧ ∀ (j : Nat) c, j < i → (tl v)[j]? = some c → isD c = true) ⟨⟨none, rfl⟩, rfl, fun j c h => by omega⟩ (fun _ _ _ _ _ => trivial) (fun i x σ H1 H' hi p yy => ?_) (fun σ H1 p => ?_)⟩
      · obtain ⟨⟨y, rfl⟩, rfl, hp⟩ := p
        obtain ⟨rfl, c, hc, rfl⟩ := yy
        have hc' : (tl v)[i]? = some c := by rw [← hc]; simp
        refine ⟨_, rfl, c, _, rfl, rfl, _, rfl, ?_⟩
        by_cases hd : isD c = true
        · refine ite_f (by rw [digits_mem, hd]; decide) ⟨⟨_, rfl⟩, rfl, fun j c2 hj hc2 => ?_⟩
          by_cases e : j = i
          · subst e
            rw [hc'] at hc2
            cases hc2
            exact hd
          · exact hp j c2 (by omega) hc2
        · exact ite_t (by rw [digits_mem]; simpa using hd) ⟨1, rfl, out (toldI_bad_sign (List.mem_of_getElem? hc') (by simpa using hd))⟩
      · obtain ⟨⟨y, rfl⟩, rfl, hp⟩ := p
        have hg : 0 ≤ toldI v := toldI_good ⟨h1', h2'⟩ (fun c hc => by
          obtain ⟨j, hj⟩ := List.getElem?_of_mem hc
          refine hp j c ?_ hj
          have := (List.getElem?_eq_some_iff.mp hj).1
          rw [Array.length_toList] at this
          exact this) hz
        have hi := toldI_int hg
        refine ⟨_, rfl, v, _, rfl, hi, by omega, _, rfl, _, _, rfl, rfl, _, rfl, ite2 (fun h3 => ite_t rfl ⟨1, rfl, ?_⟩) (fun h3 => ?_)⟩
        · have h3' := of_decide_eq_true h3
          have e2 : figI v a b = -1 := by unfold figI; rw [if_neg (by omega)]
          rw [e2] at q
          exact q
        · have h3' : ¬ toldI v < a := by simpa using h3
          refine ⟨_, rfl, v, _, rfl, hi, by omega, _, rfl, _, _, rfl, rfl, _, rfl, ite2 (fun h4 => ⟨1, rfl, ?_⟩) (fun h4 => ⟨_, rfl, v, _, rfl, hi, by omega, ?_⟩)⟩
          · have h4' := of_decide_eq_true h4
            have e2 : figI v a b = -1 := by unfold figI; rw [if_neg (by omega)]
            rw [e2] at q
            exact q
          · have h4' : ¬ b < toldI v := by simpa using h4
            have e2 : figI v a b = toldI v := by unfold figI; rw [if_pos (by omega)]
            rw [e2] at q
            exact q
    by_cases h4 : (1 : Int) < v.length
    · refine ite_t (d_t h4) ?_
      refine ⟨_, rfl, v, 0, c, rfl, rfl, hl2, atI_nat (j := 0) hc, rfl, _, rfl, ?_⟩
      by_cases h5 : c = 48
      · exact ite_t ((sign_zero hc).mpr h5) ⟨1, rfl, out (toldI_bad_zero (by omega) (by rw [hc, h5]))⟩
      · exact ite_f (fun z => h5 ((sign_zero hc).mp z)) (go fun z => h5 (Option.some.inj (hc.symm.trans z.2)))
    · exact ite_f (d_f h4) (go fun z => h4 (by omega))

def sp_lot_told : Sp := fun vs H Q _ => ∃ (v : Str) (m : Int), vs = [.str v, .int m] ∧ v.length ≤ 900000 ∧
  (∀ H', Same H H' → lotM v m = none → Q .non H') ∧ ∀ H' p l, Same H H' → H' p = some (.tup (l.map V.int)) → lotM v m = some l → Q (.ref p) H'
theorem map_int_get {l : List Int} {i : Nat} {x : V} (h : (l.map V.int)[i]? = some x) : ∃ n, l[i]? = some n ∧ x = .int n := by
  rw [List.getElem?_map] at h
  cases e : l[i]? with
  | none => rw [e] at h; cases h
  | some n => rw [e] at h; exact ⟨n, rfl, (Option.some.inj h).symm⟩
theorem map_str_get {l : List Str} {i : Nat} {x : V} (h : (l.map V.str)[i]? = some x) : ∃ n, l[i]? = some n ∧ x = .str n := by
  rw [List.getElem?_map] at h
  cases e : l[i]? with
  | none => rw [e] at h; cases h
  | some n => rw [e] at h; exact ⟨n, rfl, (Option.some.inj h).symm⟩
theorem get_map {α β : Type} {l : List α} {i : Nat} {f : α → β} {y : β} {x : α} (h : (l.map f)[i]? = some y) (hx : l[i]? = some x) : y = f x := by
  rw [List.getElem?_map, hx] at h
  exact (Option.some.inj h).symm
theorem c_lot_told {k : Nat} (B : Blt mg) (D : DefAt K mg "lot_told" s_lot_told) (C_integer_told : Callee P w K mg base CX0 k "integer_told" ["word"] sp_integer_told) : Callee P w K mg base CX0 (k + 1) "lot_told" ["word", "store_count"] sp_lot_told := by
  obtain ⟨f, fd, F, g⟩ := D
  refine ⟨f, fd, g, F.kp, F.binds (fun _ _ _ _ _ _ us hl => match us, hl with | [_, _], _ => rfl), F.ok sc_lot_told (fun vs H Q E h => ?_) (fun cdv A outer s H vs Q E hr h => ?_)⟩
  · obtain ⟨v, m, rfl, _⟩ := h
    rfl
  · obtain ⟨v, m, rfl, hq⟩ := h
    -- slots 0 word, 1 store_count*, 2 lot*, 3 part, 4 store, 5 k
    refine ⟨_, pss_cons (ps_set (i := 2) sc_lot_told.nd rfl (.inr rfl) (pe_lc (own := [("part", 3)]) (g := gName 3) (by rfl) sc_lot_told.nd (pi_list (pe_split (pv 0) (pe_str))) (blkOk_by (N := n_lot_told) (sc := defScope s_lot_told) (own := [("part", 3)]) (by decide +kernel)) (fun _ _ _ _ _ => pg_name (i := 3) sc_lot_told.nd rfl (.inl rfl)) (fun _ _ _ _ _ => pts_nil) (fun _ _ _ _ _ => pe_cal C_integer_told hr (by rfl) (pa_cons (pv 3) pa_nil))))
      (pss_cons (ps_if (pt_not (pt_val (pe_callB (cr_all rfl) (by rfl) B.n_all boot_all (pa_cons (pe_lc (own := [("store", 4)]) (g := gName 4) (by rfl) sc_lot_told.nd (pi_list (pv 2)) (blkOk_by (N := n_lot_told) (sc := defScope s_lot_told) (own := [("store", 4)]) (by decide +kernel)) (fun _ _ _ _ _ => pg_name (i := 4) sc_lot_told.nd rfl (.inl rfl)) (fun _ _ _ _ _ => pts_nil) (fun _ _ _ _ _ => pe_chain op_le op_lt (pe_int) (pv 4) (pv 1))) pa_nil))))
        (pss_one (ps_ret (pe_non)))
        pss_nil)
      (pss_cons (ps_if (pt_not (pt_val (pe_callB (cr_all rfl) (by rfl) B.n_all boot_all (pa_cons (pe_lc (own := [("k", 5)]) (g := gName 5) (by rfl) sc_lot_told.nd (pi_range2 (by rfl) B.n_range (pa_cons (pe_int) (pa_cons (pe_callB call_len_seq (by rfl) B.n_len boot_len (pa_cons (pv 2) pa_nil)) pa_nil))) (blkOk_by (N := n_lot_told) (sc := defScope s_lot_told) (own := [("k", 5)]) (by decide +kernel)) (fun _ _ _ _ _ => pg_name (i := 5) sc_lot_told.nd rfl (.inl rfl)) (fun _ _ _ _ _ => pts_nil) (fun _ _ _ _ _ => pe_cmpR op_lt (pe_ix (ix_listK (K := K)) (pv 2) (pe_op op_sub (pv 5) (pe_int)) (fun _ _ => rfl)) (pe_ix (ix_listK (K := K)) (pv 2) (pv 5) (fun _ _ => rfl)) (nomark _))) pa_nil))))
        (pss_one (ps_ret (pe_non)))
        pss_nil)
      (pss_one (ps_ret (pe_callTy call_tuple_of (by rfl) B.n_tuple boot_tuple (pa_cons (pv 2) pa_nil)))))), ?_⟩
    obtain ⟨hl, qn, qs⟩ := hq
    -- lot = [integer_told(part) for part in word.split(',')]
    refine ⟨_, rfl, ⟨v, rfl⟩, v, _, rfl, rfl, by decide +kernel, big6 (by omega), fun p hp => ⟨p, rfl, ⟨_, .inl (.inl upd_same)⟩, fun D1 n1 => ?_⟩⟩
    have hpl : ∀ x ∈ parts v, x.length ≤ v.length := fun x hx => split_mem sep_comma hx
    have hpn : (parts v).length ≤ v.length + 1 := split_len sep_comma
    refine lc_to (walk_list (K := K) (a := p) (xs := (parts v).map V.str)) (((parts v).map toldI).map V.int) (by simp) (by simp; omega) n1 (fun H' sm => sm.seq (.inl (.inl upd_same))) (fun i x H1 H' y Q1 hi sm yy hy k1 => ?_) (fun H1 sm1 e1 => ?_)
    · obtain ⟨rfl, hx⟩ := yy
      obtain ⟨w1, hw, rfl⟩ := map_str_get hx
      rw [List.map_map] at hy
      have ey := get_map hy hw
      subst ey
      have hmem := List.mem_of_getElem? hw
      exact ⟨rfl, _, rfl, w1, rfl, by have := hpl w1 hmem; omega, fun H4 s4 => k1 H4 s4⟩
    · have s1 : Same H H1 := (same_upd hp).trans sm1
      -- all([0 <= store < store_count for store in lot])
      refine ⟨_, rfl, D1, rfl, ⟨_, .inl (.inl e1)⟩, fun D2 n2 => ?_⟩
      refine lc_to (walk_list (K := K) (a := D1) (xs := ((parts v).map toldI).map V.int)) ((((parts v).map toldI).map fun x => decide (0 ≤ x) && decide (x < m)).map V.bl) (by simp) (by simp; omega) n2 (fun H' sm => sm.seq (.inl (.inl e1))) (fun i x H2 H' y Q1 hi sm yy hy k1 => ?_) (fun H2 sm2 e2 => ?_)
      · obtain ⟨rfl, hx⟩ := yy
        obtain ⟨n, hn, rfl⟩ := map_int_get hx
        rw [List.map_map] at hy
        have ey := get_map hy hn
        subst ey
        refine ⟨rfl, _, rfl, 0, n, rfl, rfl, _, rfl, ?_⟩
        by_cases h0 : 0 ≤ n
        · refine ite_t (d_t h0) ⟨_, rfl, n, m, rfl, rfl, ?_⟩
          have := k1 _ (Same.refl _)
          simpa [h0] using this
        · refine ite_f (d_f h0) ?_
          have := k1 _ (Same.refl _)
          simpa [h0] using this
      · refine ⟨D2, _, rfl, .inl (.inl e2), _, rfl, ?_⟩
        by_cases h3 : (((parts v).map toldI).map fun x => decide (0 ≤ x) && decide (x < m)).all id = true
        · refine ite_f (by rw [h3]; decide) ?_
          have h3' : ∀ x ∈ (parts v).map toldI, 0 ≤ x ∧ x < m := fun x hx => by
            have := List.all_eq_true.mp h3 _ (List.mem_map_of_mem hx)
            simpa using this
          have e1' : H2 D1 = some (.lst (((parts v).map toldI).map V.int)) := sm2 _ _ e1
          generalize hL : (parts v).map toldI = L at *
          have hLl : L.length = (parts v).length := by rw [← hL, List.length_map]
          -- all([lot[k - 1] < lot[k] for k in range(1, len(lot))])
          refine ⟨_, rfl, D1, _, rfl, .inl (.inl (.inl e1')), 1, _, rfl, ⟨by decide, by decide, by rw [List.length_map]; omega, by rw [List.length_map]; omega⟩, fun D3 n3 => ?_⟩
          have hn : ((((L.map V.int).length : Nat) : Int) - 1).toNat = L.length - 1 := by rw [List.length_map]; omega
          rw [hn]
          refine lc_to (walk_range (lo := 1) (n := L.length - 1)) (((List.range (L.length - 1)).map fun i => decide (L.getD i 0 < L.getD (i + 1) 0)).map V.bl) (by simp) (by omega) n3 (fun _ _ => trivial) (fun i x H3 H' y Q1 hi sm yy hy k1 => ?_) (fun H3 sm3 e3 => ?_)
          · obtain ⟨rfl, rfl⟩ := yy
            rw [List.map_map] at hy
            have ey := get_map hy (List.getElem?_range hi)
            subst ey
            have i1 : i < L.length := by omega
            have i2 : i + 1 < L.length := by omega
            have g1 : L[i]? = some L[i] := List.getElem?_eq_getElem i1
            have g2 : L[i + 1]? = some L[i + 1] := List.getElem?_eq_getElem i2
            have f1 : (L.map V.int)[i]? = some (.int L[i]) := by rw [List.getElem?_map, g1]; rfl
            have f2 : (L.map V.int)[i + 1]? = some (.int L[i + 1]) := by rw [List.getElem?_map, g2]; rfl
            refine ⟨rfl, _, rfl, _, rfl, _, 1, rfl, rfl, D1, _, _, _, rfl, rfl, .inl (.inl (sm _ _ e1')), at_of (j := i) (by omega) f1, _, rfl, _, rfl, D1, _, _, _, rfl, rfl, .inl (.inl (sm _ _ e1')), at_of (j := i + 1) (by omega) f2, _, _, rfl, rfl, ?_⟩
            have := k1 _ (Same.refl _)
            simpa [g1, g2, List.getD_eq_getElem?_getD] using this
          · refine ⟨D3, _, rfl, .inl (.inl e3), _, rfl, ?_⟩
            have hr : ((List.range (L.length - 1)).map fun i => decide (L.getD i 0 < L.getD (i + 1) 0)).all id = true ↔ rising L = true := by
              rw [rising_iff, List.all_eq_true]
              constructor
              · intro h k x y h1 h2
                have hk : k + 1 < L.length := (List.getElem?_eq_some_iff.mp h2).1
                have := h _ (List.mem_map_of_mem (List.mem_range.mpr (show k < L.length - 1 by omega)))
                simpa [List.getD_eq_getElem?_getD, h1, h2] using this
              · intro h b hb
                obtain ⟨k, hk, rfl⟩ := List.mem_map.mp hb
                have hk' := List.mem_range.mp hk
                have i1 : k < L.length := by omega
                have i2 : k + 1 < L.length := by omega
                have := h k L[k] L[k + 1] (List.getElem?_eq_getElem i1) (List.getElem?_eq_getElem i2)
                simpa [List.getD_eq_getElem?_getD, i1, i2] using this
            have s3 : Same H H3 := (s1.trans sm2).trans sm3
            by_cases h4 : ((List.range (L.length - 1)).map fun i => decide (L.getD i 0 < L.getD (i + 1) 0)).all id = true
            · refine ite_f (by rw [h4]; decide) ?_
              refine ⟨_, rfl, D1, _, rfl, .inl ⟨.inl (.inl (sm3 _ _ e1')), fun q nq => ?_⟩⟩
              refine qs _ q L (s3.trans (same_upd nq)) upd_same ?_
              rw [← hL] at h3' h4 hr ⊢
              exact lotM_good h3' (hr.mp h4)
            · refine ite_t (by simpa using h4) ?_
              refine qn _ s3 (lotM_bad2 ?_)
              rw [hL]
              have : ¬ rising L = true := fun z => h4 (hr.mpr z)
              simpa using this
        · refine ite_t (by simpa using h3) ?_
          refine qn _ (s1.trans sm2) ?_
          have h3' : (((parts v).map toldI).map fun x => decide (0 ≤ x) && decide (x < m)).all id = false := by simpa using h3
          rw [List.all_eq_false] at h3'
          obtain ⟨b, hb, hz⟩ := h3'
          obtain ⟨x, hx, rfl⟩ := List.mem_map.mp hb
          exact lotM_bad1 hx fun z => hz (by simp [z.1, z.2])

/-- the numbers of a lot, joined -/
def lotT (l : List Int) : Str := Str.join comma (l.map fun n => (toString n : Str))
theorem str_small {n : Int} (h0 : 0 ≤ n) (h1 : n < 100) : n.natAbs.log2 < 1920 ∧ (Str.ofString (toString n)).length ≤ 2 := by
  obtain ⟨k, rfl⟩ : ∃ k : Nat, n = (k : Int) := ⟨n.toNat, by omega⟩
  refine ⟨Nat.lt_of_le_of_lt (Nat.log2_le_self _) (by omega), ?_⟩
  rw [len_tl, TL.tl_num]
  exact TL.numL_len (by decide) (by omega)
def sp_lot_text (K : PySem.W.Frag) : Sp := fun vs H Q _ => ∃ (a : Addr) (l : List Int), vs = [.ref a] ∧ SqT K H a (l.map V.int) ∧ l.length ≤ 900000 ∧ (∀ n ∈ l, 0 ≤ n ∧ n < 100) ∧ ∀ H', Same H H' → Q (.str (lotT l)) H'
theorem c_lot_text {k : Nat} (B : Blt mg) (D : DefAt K mg "lot_text" s_lot_text) : Callee P w K mg base CX0 (k + 1) "lot_text" ["lot"] (sp_lot_text K) := by
  obtain ⟨f, fd, F, g⟩ := D
  refine ⟨f, fd, g, F.kp, F.binds (fun _ _ _ _ _ _ us hl => match us, hl with | [_], _ => rfl), F.ok sc_lot_text (fun vs H Q E h => ?_) (fun cdv A outer s H vs Q E hr h => ?_)⟩
  · obtain ⟨a, l, rfl, _⟩ := h
    rfl
  · obtain ⟨a, l, rfl, hq⟩ := h
    -- slots 0 lot, 1 store
    refine ⟨_, pss_one (ps_ret (pe_join (pe_str) (pe_lc (own := [("store", 1)]) (g := gName 1) (by rfl) sc_lot_text.nd (pi_tup (pv 0)) (blkOk_by (N := n_lot_text) (sc := defScope s_lot_text) (own := [("store", 1)]) (by decide +kernel)) (fun _ _ _ _ _ => pg_name (i := 1) sc_lot_text.nd rfl (.inl rfl)) (fun _ _ _ _ _ => pts_nil) (fun _ _ _ _ _ => pe_callTy call_str_int (by rfl) B.n_str boot_str (pa_cons (pv 1) pa_nil))))), ?_⟩
    obtain ⟨hS, hl, hb, q⟩ := hq
    refine ⟨⟨_, rfl⟩, _, rfl, a, rfl, ⟨_, hS⟩, fun D n1 => ?_⟩
    refine lc_to (walk_tup (K := K) (a := a) (xs := l.map V.int)) ((l.map fun n => (toString n : Str)).map V.str) (by simp) (by simp; omega) n1 (fun H' sm => Same.tup sm hS) (fun i x H1 H' y Q1 hi sm yy hy k1 => ?_) (fun H1 sm1 e1 => ?_)
    · obtain ⟨rfl, hx⟩ := yy
      obtain ⟨n, hn, rfl⟩ := map_int_get hx
      rw [List.map_map] at hy
      have ey := get_map hy hn
      subst ey
      have hb' := hb n (List.mem_of_getElem? hn)
      exact ⟨rfl, _, rfl, n, rfl, (str_small hb'.1 hb'.2).1, k1 _ (Same.refl _)⟩
    · refine ⟨_, D, _, rfl, rfl, .inl (.inl (.inl e1)), ?_⟩
      have ht : tot (l.map fun n => (toString n : Str)) ≤ (l.map fun n => (toString n : Str)).length * 3 := tot_small fun x hx => by
        obtain ⟨n, hn, rfl⟩ := List.mem_map.mp hx
        exact (str_small (hb n hn).1 (hb n hn).2).2
      rw [List.length_map] at ht
      refine ⟨join_fits sep_comma.len (by omega), ?_⟩
      rw [TL.join_eq]
      exact q _ sm1

def sp_begins (K : PySem.W.Frag) : Sp := fun vs H Q _ => ∃ (a : Addr) (ls : List Str), vs = [.ref a] ∧ SqL K H a (ls.map V.str) ∧ tot ls ≤ 1000000 ∧
  ∀ H' p, Same H H' → H p = none → H' p = some (.lst ((List.range ls.length).map fun i => V.int (offs ls i : Nat))) → Q (.ref p) H'
theorem same_keep {H H1 : Hp} {p b : Addr} {o u : HO} (n : H p = none) (e : H b = some u) : (upd H1 p o) b = H1 b := upd_ne (ne_of_none e n)
theorem c_begins {k : Nat} (B : Blt mg) (D : DefAt K mg "begins" s_begins) : Callee P w K mg base CX0 (k + 1) "begins" ["lines"] (sp_begins K) := by
  obtain ⟨f, fd, F, g⟩ := D
  refine ⟨f, fd, g, F.kp, F.binds (fun _ _ _ _ _ _ us hl => match us, hl with | [_], _ => rfl), F.ok sc_begins (fun vs H Q E h => ?_) (fun cdv A outer s H vs Q E hr h => ?_)⟩
  · obtain ⟨a, ls, rfl, _⟩ := h
    rfl
  · obtain ⟨a, ls, rfl, hq⟩ := h
    -- slots 0 lines, 1 found, 2 at, 3 line
    refine ⟨_, pss_cons (ps_set (i := 1) sc_begins.nd rfl (.inl rfl) (pe_lst pa_nil))
      (pss_cons (ps_set (i := 2) sc_begins.nd rfl (.inl rfl) (pe_int))
      (pss_cons (ps_for PassesOwn.never rfl (pi_list (pv 0)) (pg_name (i := 3) sc_begins.nd rfl (.inl rfl))
        (pss_cons (ps_expr (pe_bm PySem.F.plainAttrs_list PySem.F.slot_list_append PySem.F.type_list_append mt_append (pv 1) (pa_cons (pv 2) pa_nil)))
        (pss_one (ps_aug (i := 2) sc_begins.nd rfl (.inl rfl) (pe_op op_add (pe_callB call_len_str (by rfl) B.n_len boot_len (pa_cons (pv 3) pa_nil)) (pe_int)) ip_add))))
      (pss_one (ps_ret (pv 1))))), ?_⟩
    obtain ⟨hS, ht, q⟩ := hq
    have hl : ls.length ≤ 1000000 := Nat.le_trans (len_tot ls) ht
    refine ⟨Nat.zero_le _, fun p np => ?_⟩
    refine ⟨_, rfl, a, rfl, ⟨_, (same_upd np).seq hS⟩, for_it (walk_list (K := K) (a := a) (xs := ls.map V.str)) (fun i σ H' => (∃ y, σ = [some (.ref a), some (.ref p), some (.int (offs ls i : Nat)), y]) ∧ Same H H' ∧ H' p = some (.lst ((List.range i).map fun i => V.int (offs ls i : Nat))))
      ⟨⟨none, rfl⟩, same_upd np, upd_same⟩ (fun i σ H' _ pv => pv.2.1.seq hS) (fun i x σ H1 H' hi pv yy => ?_) (fun σ H1 pv => ?_)⟩
    · obtain ⟨⟨y, rfl⟩, sm, e1⟩ := pv
      obtain ⟨rfl, hx⟩ := yy
      obtain ⟨l, hl', rfl⟩ := map_str_get hx
      have hi' : i < ls.length := by rw [List.length_map] at hi; exact hi
      refine ⟨_, rfl, .inl ⟨rfl, _, .inl (.inl e1)⟩, _, rfl, p, _, _, rfl, rfl, e1, big6' (by simp; omega), ?_⟩
      have hb := mem_tot (List.mem_of_getElem? hl')
      refine ⟨_, rfl, _, rfl, l, rfl, big6 (by omega), _, 1, rfl, rfl, _, _, rfl, rfl, ?_⟩
      refine ⟨⟨some (.str l), ?_⟩, Same.mut sm np, ?_⟩
      · rw [offs_succ hl']
        show [some (V.ref a), some (V.ref p), some (V.int _), some (V.str l)] = _
        congr 3
      · rw [upd_same, List.range_succ, List.map_append]
        rfl
    · obtain ⟨⟨y, rfl⟩, sm, e1⟩ := pv
      rw [List.length_map] at e1
      exact ⟨_, rfl, q _ _ sm np e1⟩

/-- a list of pairs of bounds -/
def BoundsAt (K : PySem.W.Frag) (H : Hp) (b : Addr) (bs : List (Int × Int)) : Prop :=
  ∃ ts : List Addr, SqL K H b (ts.map V.ref) ∧ ts.length = bs.length ∧ ∀ (i : Nat) t q, ts[i]? = some t → bs[i]? = some q → H t = some (.tup [.int q.1, .int q.2])
theorem BoundsAt.same {H H' : Hp} {b : Addr} {bs : List (Int × Int)} (h : BoundsAt K H b bs) (s : Same H H') : BoundsAt K H' b bs :=
  let ⟨ts, a, l, e⟩ := h
  ⟨ts, s.seq a, l, fun i t q h1 h2 => s _ _ (e i t q h1 h2)⟩
theorem map_ref_get {l : List Addr} {i : Nat} {x : V} (h : (l.map V.ref)[i]? = some x) : ∃ n, l[i]? = some n ∧ x = .ref n := by
  rw [List.getElem?_map] at h
  cases e : l[i]? with
  | none => rw [e] at h; cases h
  | some n => rw [e] at h; exact ⟨n, rfl, (Option.some.inj h).symm⟩
theorem cut1 (xs : List V) : cutV xs (some 1) none = xs.drop 1 := by
  unfold cutV
  rw [show HT.sIx xs.length 0 (some 1) = min 1 xs.length from HT.sIx_nat xs.length 0 1, HT.sIx_none]
  cases xs with
  | nil => rfl
  | cons x r =>
    rw [show min 1 (x :: r).length = 1 by
      rw [List.length_cons]
      omega]
    show (List.take ((x :: r).length - 1) r) = r
    rw [List.length_cons, Nat.add_sub_cancel]
    exact List.take_length
theorem words_cons (line : Str) : ∃ w ws, words line = w :: ws := by
  have h := split_ne (x := line) sep_blank.ne sep_blank.small
  match e : words line with
  | [] => exact absurd e h
  | w :: ws => exact ⟨w, ws, rfl⟩
theorem words_mem {line x : Str} (h : x ∈ words line) : x.length ≤ line.length := split_mem sep_blank h
theorem words_len (line : Str) : (words line).length ≤ line.length + 1 := split_len sep_blank
def sp_numbers (K : PySem.W.Frag) : Sp := fun vs H Q _ => ∃ (line first : Str) (b : Addr) (bs : List (Int × Int)), vs = [.str line, .str first, .ref b] ∧ line.length ≤ 900000 ∧ BoundsAt K H b bs ∧ bs.length ≤ 100 ∧
  (∀ H', Same H H' → nums1 line first bs = none → Q .non H') ∧ ∀ H' p ns, Same H H' → H p = none → H' p = some (.lst (ns.map V.int)) → nums1 line first bs = some ns → Q (.ref p) H'
theorem c_numbers {k : Nat} (B : Blt mg) (D : DefAt K mg "_numbers" s_numbers) (C_integer_told : Callee P w K mg base CX0 k "integer_told" ["word"] sp_integer_told) : Callee P w K mg base CX0 (k + 1) "_numbers" ["line", "first", "bounds"] (sp_numbers K) := by
  obtain ⟨f, fd, F, g⟩ := D
  refine ⟨f, fd, g, F.kp, F.binds (fun _ _ _ _ _ _ us hl => match us, hl with | [_, _, _], _ => rfl), F.ok sc_numbers (fun vs H Q E h => ?_) (fun cdv A outer s H vs Q E hr h => ?_)⟩
  · obtain ⟨line, first, b, bs, rfl, _⟩ := h
    rfl
  · obtain ⟨line, first, b, bs, rfl, hq⟩ := h
    -- slots 0 line, 1 first, 2 bounds, 3 words, 4 numbers, 5 number, 6 least, 7 most, 8 word
    refine ⟨_, pss_cons (ps_set (i := 3) sc_numbers.nd rfl (.inl rfl) (pe_split (pv 0) (pe_str)))
      (pss_cons (ps_if (PW.pt (pw_or (pt_cmpR op_ne (pe_ix ix_list (pv 3) (pe_int) (fun _ _ => rfl)) (pv 1) (nomark _)) (pw_or1 (pt_cmpR op_ne (pe_callB call_len_seq (by rfl) B.n_len boot_len (pa_cons (pv 3) pa_nil)) (pe_op op_add (pe_callB call_len_seq (by rfl) B.n_len boot_len (pa_cons (pv 2) pa_nil)) (pe_int)) (nomark _)))))
        (pss_one (ps_ret (pe_non)))
        pss_nil)
      (pss_cons (ps_setLc (i := 4) (own := [("word", 8)]) (g := gName 8) (by rfl) sc_numbers.nd rfl rfl (sw_true rfl rfl rfl (by decide +kernel)) (pi_list (pe_slice sl_list (pv 3) (po_some (pe_int)) po_none)) (blkOk_by (N := n_numbers) (sc := defScope s_numbers) (own := [("word", 8)]) (by decide +kernel)) (fun _ _ _ _ _ => pg_name (i := 8) sc_numbers.nd rfl (.inl rfl)) (fun _ _ _ _ _ => pts_nil) (fun _ _ _ _ _ => pe_cal C_integer_told hr (by rfl) (pa_cons (pv 8) pa_nil)))
      (pss_cons (ps_for PassesOwn.never rfl (pi_zip (by rfl) B.n_zip (pa_cons (pv 4) (pa_cons (pv 2) pa_nil))) (pg_tup rfl (pgs_cons (pg_name (i := 5) sc_numbers.nd rfl (.inl rfl)) (pgs_cons (pg_tup rfl (pgs_cons (pg_name (i := 6) sc_numbers.nd rfl (.inl rfl)) (pgs_cons (pg_name (i := 7) sc_numbers.nd rfl (.inl rfl)) pgs_nil))) pgs_nil)))
        (pss_one (ps_if (pt_not (pt_chain op_le op_le (pv 6) (pv 5) (pv 7)))
          (pss_one (ps_ret (pe_non)))
          pss_nil)))
      (pss_one (ps_ret (pv 4)))))), ?_⟩
    obtain ⟨hl, hb, hbl, qn, qs⟩ := hq
    obtain ⟨w0, ws, ew⟩ := words_cons line
    have hwl := words_len line
    have hmem : ∀ x ∈ words line, x.length ≤ line.length := fun x hx => words_mem hx
    rw [ew] at hmem hwl
    -- words = line.split(' ')
    refine ⟨_, rfl, ⟨line, rfl⟩, line, _, rfl, rfl, by decide +kernel, big6 (by omega), fun p np => ?_⟩
    have ep : (upd H p (.lst ((words line).map V.str))) p = some (.lst ((w0 :: ws).map V.str)) := by rw [upd_same, ew]
    have s1 : Same H (upd H p (.lst ((words line).map V.str))) := same_upd np
    show tSeq _ _ _ _ (upd H p (.lst ((words line).map V.str)))
    generalize upd H p (.lst ((words line).map V.str)) = H1 at ep s1 ⊢
    obtain ⟨ts, tb, tlen, te⟩ := hb.same s1
    refine ⟨_, rfl, p, _, 0, .str w0, rfl, rfl, .inl (.inl ep), atI_nat (j := 0) rfl, _, rfl, rfl, _, rfl, ?_⟩
    by_cases h1 : w0 = first
    · refine ite_f (nd_t (by rw [h1])) ?_
      refine ⟨_, rfl, p, _, rfl, .inl (.inl (.inl ep)), _, rfl, b, _, rfl, .inl tb, _, 1, rfl, rfl, rfl, _, rfl, ?_⟩
      by_cases h2 : ws.length = bs.length
      · refine ite_f (nd_t (by simp; omega)) ?_
        -- numbers = [integer_told(word) for word in words[1:]]
        refine ⟨_, rfl, 1, rfl, p, _, rfl, .inl (.inl ep), fun c nc => ?_⟩
        refine ⟨c, rfl, ⟨_, .inl (.inl upd_same)⟩, fun D nD => ?_⟩
        have ec : cutV ((w0 :: ws).map V.str) (some 1) none = ws.map V.str := by rw [cut1]; rfl
        have s2 : Same H1 (upd H1 c (.lst (cutV ((w0 :: ws).map V.str) (some 1) none))) := same_upd nc
        refine lc_to (walk_list (K := K) (a := c) (xs := ws.map V.str)) ((ws.map toldI).map V.int) (by simp) (by simp; simp at hwl; omega) nD (fun H' sm => sm.seq (.inl (.inl (by rw [upd_same, ec])))) (fun i x H2 H' y Q1 hi sm yy hy k1 => ?_) (fun H2 sm2 e2 => ?_)
        · obtain ⟨rfl, hx⟩ := yy
          obtain ⟨w1, hw, rfl⟩ := map_str_get hx
          rw [List.map_map] at hy
          have ey := get_map hy hw
          subst ey
          have hm := hmem w1 (List.mem_cons_of_mem _ (List.mem_of_getElem? hw))
          exact ⟨rfl, _, rfl, w1, rfl, by omega, fun H4 s4 => k1 H4 s4⟩
        · have sA : Same H1 H2 := s2.trans sm2
          have nD' : H D = none := (s1.trans s2).free nD
          refine ⟨_, rfl, _, rfl, D, b, (ws.map toldI).map V.int, ts.map V.ref, rfl, .inl (.inl e2), sA.seq tb, ?_⟩
          refine for_it (walk_zip (n := ws.length) (by simp; omega)) (fun i σ H' => (∃ y5 y6 y7, σ = [some (.str line), some (.str first), some (.ref b), some (.ref p), some (.ref D), y5, y6, y7, none]) ∧ Same H2 H' ∧ ∀ (j : Nat) x q, j < i → ws[j]? = some x → bs[j]? = some q → okW x q = true)
            ⟨⟨none, none, none, rfl⟩, Same.refl _, fun j x q h => by omega⟩ (fun i σ H' _ pv => ⟨.inl (.inl (pv.2.1 _ _ e2)), (sA.trans pv.2.1).seq tb⟩) (fun i x σ H3 H' hi pv yy => ?_) (fun σ H3 pv => ?_)
          · obtain ⟨⟨y5, y6, y7, rfl⟩, sm, hp⟩ := pv
            obtain ⟨T, x1, x2, rfl, nT, rfl, g1, g2⟩ := yy
            obtain ⟨n, hn, rfl⟩ := map_int_get g1
            obtain ⟨t, ht, rfl⟩ := map_ref_get g2
            have i1 : i < bs.length := by omega
            have gb : bs[i]? = some bs[i] := List.getElem?_eq_getElem i1
            have gw : ws[i]? = some ws[i] := List.getElem?_eq_getElem hi
            have en : n = toldI ws[i] := get_map hn gw
            subst en
            have hT : (upd H3 T (.tup [.int (toldI ws[i]), .ref t])) t = some (.tup [.int bs[i].1, .int bs[i].2]) := by
              rw [same_keep nT (sm _ _ (sA _ _ (te i t _ ht gb)))]
              exact sm _ _ (sA _ _ (te i t _ ht gb))
            refine ⟨T, _, rfl, .inl (.inl upd_same), rfl, _, _, rfl, _, _, rfl, t, _, rfl, .inl (.inl hT), rfl, _, _, rfl, _, _, rfl, rfl, rfl, ?_⟩
            have done : okW ws[i] bs[i] = true → (∃ y5 y6 y7, [some (V.str line), some (.str first), some (.ref b), some (.ref p), some (.ref D), some (.int (toldI ws[i])), some (.int bs[i].1), some (.int bs[i].2), none] = [some (.str line), some (.str first), some (.ref b), some (.ref p), some (.ref D), y5, y6, y7, none]) ∧ Same H2 (upd H3 T (.tup [.int (toldI ws[i]), .ref t])) ∧ ∀ (j : Nat) x q, j < i + 1 → ws[j]? = some x → bs[j]? = some q → okW x q = true := fun ho => by
              refine ⟨⟨_, _, _, rfl⟩, sm.trans (same_upd nT), fun j x q hj hx hq => ?_⟩
              by_cases e : j = i
              · subst e
                rw [gw] at hx; cases hx
                rw [gb] at hq; cases hq
                exact ho
              · exact hp j x q (by omega) hx hq
            have bad : okW ws[i] bs[i] = false → Q .non (upd H3 T (.tup [.int (toldI ws[i]), .ref t])) := fun ho => by
              refine qn _ ((s1.trans sA).trans (sm.trans (same_upd nT))) ?_
              unfold nums1
              rw [ew]
              show (if w0 = first then nums ws bs else none) = none
              rw [if_pos h1]
              exact nums_bad gw gb ho
            refine ⟨_, rfl, _, rfl, _, _, rfl, rfl, _, rfl, ?_⟩
            by_cases a1 : bs[i].1 ≤ toldI ws[i]
            · refine ite_t (d_t a1) ⟨_, rfl, _, _, rfl, rfl, _, rfl, ?_⟩
              by_cases a2 : toldI ws[i] ≤ bs[i].2
              · exact ite_f (nd_t a2) (done (okW_iff.mpr ⟨a1, a2⟩))
              · exact ite_t (nd_f a2) (bad (by simpa using fun z => a2 (okW_iff.mp z).2))
            · refine ite_f (d_f a1) ⟨_, rfl, ite_t rfl (bad (by simpa using fun z => a1 (okW_iff.mp z).1))⟩
          · obtain ⟨⟨y5, y6, y7, rfl⟩, sm, hp⟩ := pv
            refine ⟨_, rfl, qs _ _ _ ((s1.trans sA).trans sm) nD' (sm _ _ e2) ?_⟩
            unfold nums1
            rw [ew]
            show (if w0 = first then nums ws bs else none) = _
            rw [if_pos h1]
            exact nums_good h2 fun i x q hx hq => hp i x q (List.getElem?_eq_some_iff.mp hx).1 hx hq
      · refine ite_t (nd_f (by simp; omega)) (qn _ s1 ?_)
        unfold nums1
        rw [ew]
        show (if w0 = first then nums ws bs else none) = none
        rw [if_pos h1]
        exact nums_len h2
    · refine ite_t (nd_f fun z => h1 (V.str.inj z)) (ite_t rfl (qn _ s1 ?_))
      unfold nums1
      rw [ew]
      exact if_neg h1

theorem figI_ok {v : Str} {q : Int × Int} (h : okW v q = true) : figI v q.1 q.2 = toldI v := if_pos (okW_iff.mp h)
theorem figI_bad {v : Str} {q : Int × Int} (h : okW v q = false) : figI v q.1 q.2 = -1 := if_neg fun z => by
  rw [okW_iff.mpr z] at h
  cases h
def sp_l_numbers (K : PySem.W.Frag) : Sp := fun vs H Q _ => ∃ (a : Addr) (ws : List Str) (b : Addr) (bs : List (Int × Int)), vs = [.ref a, .ref b] ∧ SqL K H a (ws.map V.str) ∧ (∀ x ∈ ws, x.length ≤ 1000000) ∧ BoundsAt K H b bs ∧ bs.length ≤ 100 ∧ (∀ q ∈ bs, 0 ≤ q.1) ∧
  (∀ H', Same H H' → nums ws bs = none → Q .non H') ∧ ∀ H' p ns, Same H H' → H p = none → H' p = some (.lst (ns.map V.int)) → nums ws bs = some ns → Q (.ref p) H'
theorem c_l_numbers {k : Nat} (B : Blt mg) (D : DefAt K mg "_law_numbers" s_l_numbers) (C_l_figures : Callee P w K mg base CX0 k "_law_figures" ["_law_word_here", "_law_least", "_law_most"] sp_l_figures) : Callee P w K mg base CX0 (k + 1) "_law_numbers" ["_law_words", "_law_bounds"] (sp_l_numbers K) := by
  obtain ⟨f, fd, F, g⟩ := D
  refine ⟨f, fd, g, F.kp, F.binds (fun _ _ _ _ _ _ us hl => match us, hl with | [_, _], _ => rfl), F.ok sc_l_numbers (fun vs H Q E h => ?_) (fun cdv A outer s H vs Q E hr h => ?_)⟩
  · obtain ⟨a, ws, b, bs, rfl, _⟩ := h
    rfl
  · obtain ⟨a, ws, b, bs, rfl, hq⟩ := h
    -- slots 0 _law_words, 1 _law_bounds, 2 _law_found, 3 _law_k, 4 _law_number
    refine ⟨_, pss_cons (ps_set (i := 2) sc_l_numbers.nd rfl (.inl rfl) (pe_lst pa_nil))
      (pss_cons (ps_if (pt_cmpR op_ne (pe_callB call_len_seq (by rfl) B.n_len boot_len (pa_cons (pv 0) pa_nil)) (pe_callB call_len_seq (by rfl) B.n_len boot_len (pa_cons (pv 1) pa_nil)) (nomark _))
        (pss_one (ps_ret (pe_non)))
        pss_nil)
      (pss_cons (ps_for PassesOwn.never rfl (pi_range1 (by rfl) B.n_range (pa_cons (pe_callB call_len_seq (by rfl) B.n_len boot_len (pa_cons (pv 0) pa_nil)) pa_nil)) (pg_name (i := 3) sc_l_numbers.nd rfl (.inl rfl))
        (pss_cons (ps_set (i := 4) sc_l_numbers.nd rfl (.inl rfl) (pe_cal C_l_figures hr (by rfl) (pa_cons (pe_ix ix_list (pv 0) (pv 3) (fun _ _ => rfl)) (pa_cons (pe_ix ix_tup (pe_ix ix_list (pv 1) (pv 3) (fun _ _ => rfl)) (pe_int) (fun _ _ => rfl)) (pa_cons (pe_ix ix_tup (pe_ix ix_list (pv 1) (pv 3) (fun _ _ => rfl)) (pe_int) (fun _ _ => rfl)) pa_nil)))))
        (pss_cons (ps_if (pt_cmpR op_lt (pv 4) (pe_int) (nomark _))
          (pss_one (ps_ret (pe_non)))
          pss_nil)
        (pss_one (ps_expr (pe_bm PySem.F.plainAttrs_list PySem.F.slot_list_append PySem.F.type_list_append mt_append (pv 2) (pa_cons (pv 4) pa_nil)))))))
      (pss_one (ps_ret (pv 2))))), ?_⟩
    obtain ⟨hS, hw, hb, hbl, h0, qn, qs⟩ := hq
    refine ⟨Nat.zero_le _, fun p np => ?_⟩
    have s1 : Same H (upd H p (.lst [])) := same_upd np
    obtain ⟨ts, tb, tlen, te⟩ := hb
    refine ⟨_, rfl, a, _, rfl, .inl (s1.seq hS), _, rfl, b, _, rfl, .inl (s1.seq tb), rfl, _, rfl, ?_⟩
    by_cases h2 : ws.length = bs.length
    · refine ite_f (nd_t (by simp; omega)) ?_
      refine ⟨_, rfl, a, _, rfl, .inl (s1.seq hS), _, rfl, by omega, by simp; omega, ?_⟩
      refine for_it walk_range (fun i σ H' => (∃ y3 y4, σ = [some (.ref a), some (.ref b), some (.ref p), y3, y4]) ∧ Same H H' ∧ H' p = some (.lst (((ws.take i).map toldI).map V.int)) ∧ ∀ (j : Nat) x q, j < i → ws[j]? = some x → bs[j]? = some q → okW x q = true)
        ⟨⟨none, none, rfl⟩, s1, upd_same, fun j x q h => by omega⟩ (fun _ _ _ _ _ => trivial) (fun i x σ H3 H' hi pv yy => ?_) (fun σ H3 pv => ?_)
      · obtain ⟨⟨y3, y4, rfl⟩, sm, ep, hp⟩ := pv
        obtain ⟨rfl, rfl⟩ := yy
        have hi' : i < ws.length := by rw [List.length_map] at hi; omega
        have i1 : i < bs.length := by omega
        have gb : bs[i]? = some bs[i] := List.getElem?_eq_getElem i1
        have gw : ws[i]? = some ws[i] := List.getElem?_eq_getElem hi'
        have gt : ts[i]? = some (ts[i]'(by omega)) := List.getElem?_eq_getElem (by omega)
        have ht := sm _ _ (te i _ _ gt gb)
        have f1 : (ws.map V.str)[i]? = some (.str ws[i]) := by rw [List.getElem?_map, gw]; rfl
        have f2 : (ts.map V.ref)[i]? = some (.ref (ts[i]'(by omega))) := by rw [List.getElem?_map, gt]; rfl
        refine ⟨_, rfl, _, rfl, a, _, _, _, rfl, rfl, sm.seq hS, at_of (j := i) (by omega) f1, ?_⟩
        refine ⟨_, rfl, _, rfl, b, _, _, _, rfl, rfl, sm.seq tb, at_of (j := i) (by omega) f2, _, _, 0, _, rfl, rfl, .inl (.inl ht), atI_nat (j := 0) rfl, ?_⟩
        refine ⟨_, rfl, _, rfl, b, _, _, _, rfl, rfl, sm.seq tb, at_of (j := i) (by omega) f2, _, _, 1, _, rfl, rfl, .inl (.inl ht), atI_nat (j := 1) rfl, ?_⟩
        refine ⟨ws[i], bs[i].1, bs[i].2, rfl, hw _ (List.mem_of_getElem? gw), h0 _ (List.mem_of_getElem? gb), ?_⟩
        refine ⟨_, rfl, _, 0, rfl, rfl, _, rfl, ?_⟩
        cases ho : okW ws[i] bs[i] with
        | true =>
          have hlo := h0 _ (List.mem_of_getElem? gb)
          have hok := okW_iff.mp ho
          rw [figI_ok ho]
          refine ite_f (d_f (by omega)) ?_
          refine ⟨_, rfl, .inl ⟨rfl, _, .inl (.inl ep)⟩, _, rfl, p, _, _, rfl, rfl, ep, big6' (by simp; omega), ?_⟩
          refine ⟨⟨_, _, rfl⟩, Same.mut sm np, ?_, fun j x q hj hx hq => ?_⟩
          · rw [upd_same, List.take_add_one, gw, List.map_append, List.map_append]
            rfl
          · by_cases e : j = i
            · subst e
              rw [gw] at hx; cases hx
              rw [gb] at hq; cases hq
              exact ho
            · exact hp j x q (by omega) hx hq
        | false =>
          rw [figI_bad ho]
          exact ite_t (d_t (by decide)) (qn _ sm (nums_bad gw gb ho))
      · obtain ⟨⟨y3, y4, rfl⟩, sm, ep, hp⟩ := pv
        have e : ((((ws.map V.str).length : Nat) : Int)).toNat = ws.length := by simp
        rw [e, List.take_length] at ep
        refine ⟨_, rfl, qs _ p _ sm np ep (nums_good h2 fun i x q hx hq => hp i x q ?_ hx hq)⟩
        have := (List.getElem?_eq_some_iff.mp hx).1
        omega
    · exact ite_t (nd_f fun z => h2 (by have := V.int.inj z; simp at this; omega)) (qn _ s1 (nums_len h2))

theorem last_get {l : List Int} {n : Int} : atI ((l ++ [n]).map V.int) (-1) = some (.int n) := by
  rw [List.map_append]
  exact atI_last _ _
theorem rising_snoc : ∀ {l : List Int} {a n : Int}, rising (l ++ [a, n]) = (rising (l ++ [a]) && decide (a < n))
  | [], a, n => by simp [rising]
  | [b], a, n => by simp [rising]
  | b :: c :: r, a, n => by
    have h := rising_snoc (l := c :: r) (a := a) (n := n)
    simp only [List.cons_append] at h ⊢
    unfold rising
    rw [h, Bool.and_assoc]
theorem rising_cut : ∀ {l m : List Int}, rising (l ++ m) = true → rising l = true
  | [], m, _ => rfl
  | [a], m, _ => rfl
  | a :: b :: r, m, h => by
    have h' : (decide (a < b) && rising (b :: r ++ m)) = true := h
    rw [Bool.and_eq_true] at h'
    show (decide (a < b) && rising (b :: r)) = true
    rw [Bool.and_eq_true]
    exact ⟨h'.1, rising_cut h'.2⟩
def sp_l_read_lot : Sp := fun vs H Q _ => ∃ (v : Str) (m : Int), vs = [.str v, .int m] ∧ v.length ≤ 900000 ∧
  (∀ H', Same H H' → lotM v m = none → Q .non H') ∧ ∀ H' p l, Same H H' → H' p = some (.tup (l.map V.int)) → lotM v m = some l → Q (.ref p) H'
theorem c_l_read_lot {k : Nat} (B : Blt mg) (D : DefAt K mg "_law_read_lot" s_l_read_lot) (C_l_figures : Callee P w K mg base CX0 k "_law_figures" ["_law_word_here", "_law_least", "_law_most"] sp_l_figures) : Callee P w K mg base CX0 (k + 1) "_law_read_lot" ["_law_word_here", "_law_many"] sp_l_read_lot := by
  obtain ⟨f, fd, F, g⟩ := D
  refine ⟨f, fd, g, F.kp, F.binds (fun _ _ _ _ _ _ us hl => match us, hl with | [_, _], _ => rfl), F.ok sc_l_read_lot (fun vs H Q E h => ?_) (fun cdv A outer s H vs Q E hr h => ?_)⟩
  · obtain ⟨v, m, rfl, _⟩ := h
    rfl
  · obtain ⟨v, m, rfl, hq⟩ := h
    -- slots 0 _law_word_here, 1 _law_many, 2 _law_found, 3 _law_part, 4 _law_number
    refine ⟨_, pss_cons (ps_set (i := 2) sc_l_read_lot.nd rfl (.inl rfl) (pe_lst pa_nil))
      (pss_cons (ps_for PassesOwn.never rfl (pi_list (pe_split (pv 0) (pe_str))) (pg_name (i := 3) sc_l_read_lot.nd rfl (.inl rfl))
        (pss_cons (ps_set (i := 4) sc_l_read_lot.nd rfl (.inl rfl) (pe_cal C_l_figures hr (by rfl) (pa_cons (pv 3) (pa_cons (pe_int) (pa_cons (pe_op op_sub (pv 1) (pe_int)) pa_nil)))))
        (pss_cons (ps_if (PW.pt (pw_or (pt_cmpR op_lt (pv 4) (pe_int) (nomark _)) (pw_or1 (PW.pt (pw_and (pt_cmpR op_gt (pe_callB call_len_seq (by rfl) B.n_len boot_len (pa_cons (pv 2) pa_nil)) (pe_int) (nomark _)) (pw_and1 (pt_cmpR op_ge (pe_ix ix_list (pv 2) (pe_un un_neg (pe_int)) (fun _ _ => rfl)) (pv 4) (nomark _))))))))
          (pss_one (ps_ret (pe_non)))
          pss_nil)
        (pss_one (ps_expr (pe_bm PySem.F.plainAttrs_list PySem.F.slot_list_append PySem.F.type_list_append mt_append (pv 2) (pa_cons (pv 4) pa_nil)))))))
      (pss_one (ps_ret (pe_callTy call_tuple_of (by rfl) B.n_tuple boot_tuple (pa_cons (pv 2) pa_nil))))), ?_⟩
    obtain ⟨hl, qn, qs⟩ := hq
    refine ⟨Nat.zero_le _, fun p np => ?_⟩
    have s1 : Same H (upd H p (.lst [])) := same_upd np
    have hpl : ∀ x ∈ parts v, x.length ≤ v.length := fun x hx => split_mem sep_comma hx
    have hpn : (parts v).length ≤ v.length + 1 := split_len sep_comma
    refine ⟨_, rfl, ⟨v, rfl⟩, v, _, rfl, rfl, by decide +kernel, big6 (by omega), fun c nc => ?_⟩
    have ncp : p ≠ c := ne_of_none upd_same nc
    have s2 : Same (upd H p (.lst [])) (upd (upd H p (.lst [])) c (.lst ((parts v).map V.str))) := same_upd nc
    have nc' : H c = none := s1.free nc
    refine ⟨c, rfl, ⟨_, .inl (.inl upd_same)⟩, ?_⟩
    generalize hL : (parts v).map toldI = L at *
    have hLl : L.length = (parts v).length := by rw [← hL, List.length_map]
    refine for_it (walk_list (K := K) (a := c) (xs := (parts v).map V.str)) (fun i σ H' => (∃ y3 y4, σ = [some (.str v), some (.int m), some (.ref p), y3, y4]) ∧ Same H H' ∧ H' c = some (.lst ((parts v).map V.str)) ∧ H' p = some (.lst ((L.take i).map V.int)) ∧ (∀ x ∈ L.take i, 0 ≤ x ∧ x < m) ∧ rising (L.take i) = true)
      ⟨⟨none, none, rfl⟩, s1.trans s2, upd_same, by rw [upd_ne ncp, upd_same]; rfl, fun x hx => by simp at hx, by simp [rising]⟩ (fun i σ H' _ pv => .inl (.inl pv.2.2.1)) (fun i x σ H3 H' hi pv yy => ?_) (fun σ H3 pv => ?_)
    · obtain ⟨⟨y3, y4, rfl⟩, sm, ec, ep, hb, hr⟩ := pv
      obtain ⟨rfl, hx⟩ := yy
      obtain ⟨w1, hw, rfl⟩ := map_str_get hx
      have gL : L[i]? = some (toldI w1) := by rw [← hL, List.getElem?_map, hw]; rfl
      have hm := hpl w1 (List.mem_of_getElem? hw)
      have hi' : i < L.length := by rw [List.length_map] at hi; omega
      refine ⟨_, rfl, _, rfl, _, 1, rfl, rfl, w1, 0, m - 1, rfl, by omega, by omega, ?_⟩
      have mem : toldI w1 ∈ (parts v).map toldI := List.mem_map_of_mem (List.mem_of_getElem? hw)
      refine ⟨_, rfl, _, 0, rfl, rfl, _, rfl, ?_⟩
      by_cases ho : 0 ≤ toldI w1 ∧ toldI w1 < m
      · have ef : figI w1 0 (m - 1) = toldI w1 := if_pos (by omega)
        rw [ef]
        refine ite_f (d_f (by omega)) ?_
        have go : rising (L.take (i + 1)) = true → ∀ y3 y4, (∃ y3' y4', [some (V.str v), some (V.int m), some (V.ref p), y3, y4] = [some (V.str v), some (V.int m), some (V.ref p), y3', y4']) ∧ Same H (upd H' p (.lst ((L.take i).map V.int ++ [V.int (toldI w1)]))) ∧ (upd H' p (.lst ((L.take i).map V.int ++ [V.int (toldI w1)]))) c = some (.lst ((parts v).map V.str)) ∧ (upd H' p (.lst ((L.take i).map V.int ++ [V.int (toldI w1)]))) p = some (.lst ((L.take (i + 1)).map V.int)) ∧ (∀ x ∈ L.take (i + 1), 0 ≤ x ∧ x < m) ∧ rising (L.take (i + 1)) = true := fun hr2 y3 y4 => by
          refine ⟨⟨_, _, rfl⟩, Same.mut sm np, ?_, ?_, fun x hx => ?_, hr2⟩
          · rw [upd_ne (Ne.symm ncp)]
            exact ec
          · rw [upd_same, List.take_add_one, gL, List.map_append]
            rfl
          · rw [List.take_add_one, gL] at hx
            rcases List.mem_append.mp hx with h | h
            · exact hb x h
            · have e : x = toldI w1 := by simpa using h
              rw [e]
              exact ho
        refine ⟨_, rfl, p, _, rfl, .inl (.inl (.inl ep)), _, 0, rfl, rfl, _, rfl, ?_⟩
        cases i with
        | zero =>
          refine ite_f (d_f (by simp)) ?_
          refine ⟨_, rfl, .inl ⟨rfl, _, .inl (.inl ep)⟩, _, rfl, p, _, _, rfl, rfl, ep, big6' (by simp), ?_⟩
          refine go ?_ _ _
          rw [List.take_add_one, gL]
          simp [rising]
        | succ j =>
          obtain ⟨z, gz⟩ : ∃ z, L[j]? = some z := ⟨_, List.getElem?_eq_getElem (by omega)⟩
          have et : L.take (j + 1) = L.take j ++ [z] := by rw [List.take_add_one, gz]; rfl
          have et2 : L.take (j + 1 + 1) = L.take j ++ [z, toldI w1] := by rw [List.take_add_one, gL, et]; simp
          refine ite_t (d_t (by simp; omega)) ?_
          refine ⟨_, rfl, 1, rfl, p, _, _, .int z, rfl, rfl, .inl (.inl ep), by rw [et]; exact last_get, _, rfl, _, _, rfl, rfl, _, rfl, ?_⟩
          by_cases hlt : z < toldI w1
          · refine ite_f (d_f (by omega)) ?_
            refine ⟨_, rfl, .inl ⟨rfl, _, .inl (.inl ep)⟩, _, rfl, p, _, _, rfl, rfl, ep, big6' (by simp; omega), ?_⟩
            refine go ?_ _ _
            rw [et2, rising_snoc, ← et, hr, decide_eq_true hlt]
            rfl
          · refine ite_t (d_t (by omega)) (qn _ sm (lotM_bad2 ?_))
            rw [hL]
            cases hrl : rising L with
            | false => rfl
            | true =>
              have h1 : rising (L.take (j + 1 + 1) ++ L.drop (j + 1 + 1)) = true := by rw [List.take_append_drop]; exact hrl
              have h2 := rising_cut h1
              rw [et2, rising_snoc, Bool.and_eq_true] at h2
              exact absurd (of_decide_eq_true h2.2) hlt
      · have ef : figI w1 0 (m - 1) = -1 := if_neg (by omega)
        rw [ef]
        exact ite_t (d_t (by decide)) (ite_t rfl (qn _ sm (lotM_bad1 mem ho)))
    · obtain ⟨⟨y3, y4, rfl⟩, sm, ec, ep, hb, hr⟩ := pv
      have e : L.take ((parts v).map V.str).length = L := List.take_of_length_le (by rw [List.length_map]; omega)
      rw [e] at ep hb hr
      refine ⟨_, rfl, p, _, rfl, .inl ⟨.inl (.inl ep), fun q nq => ?_⟩⟩
      refine qs _ q L (sm.trans (same_upd nq)) upd_same ?_
      rw [← hL] at hb hr ⊢
      exact lotM_good hb hr

end
end K6

namespace K6
open PySem PySem.Spec PyProof.Rows L2
open TL (tl len_tl ext_tl tl_append)
section
variable {P : Program} {w : World} {K : PySem.W.Frag} {mg : Str → Option Value} {base : Heap}
def sp_piece : Sp := fun vs H Q _ => ∃ (line : Str) (m : Int), vs = [.str line, .int m] ∧ line.length ≤ 900000 ∧
  (∀ H', Same H H' → pieceM line m = none → Q .non H') ∧ ∀ H' p q n l, Same H H' → H' p = some (.tup [.int n, .ref q]) → H' q = some (.tup (l.map V.int)) → pieceM line m = some (n, l) → Q (.ref p) H'
theorem c_piece {k : Nat} (B : Blt mg) (D : DefAt K mg "_piece" s_piece) (C_integer_told : Callee P w K mg base CX0 k "integer_told" ["word"] sp_integer_told) (C_lot_told : Callee P w K mg base CX0 k "lot_told" ["word", "store_count"] sp_lot_told) : Callee P w K mg base CX0 (k + 1) "_piece" ["line", "store_count"] sp_piece := by
  obtain ⟨f, fd, F, g⟩ := D
  refine ⟨f, fd, g, F.kp, F.binds (fun _ _ _ _ _ _ us hl => match us, hl with | [_, _], _ => rfl), F.ok sc_piece (fun vs H Q E h => ?_) (fun cdv A outer s H vs Q E hr h => ?_)⟩
  · obtain ⟨line, m, rfl, _⟩ := h
    rfl
  · obtain ⟨line, m, rfl, hq⟩ := h
    -- slots 0 line, 1 store_count, 2 words, 3 wish, 4 lot
    refine ⟨_, pss_cons (ps_set (i := 2) sc_piece.nd rfl (.inl rfl) (pe_split (pv 0) (pe_str)))
      (pss_cons (ps_if (PW.pt (pw_or (pt_cmpR op_ne (pe_ix ix_list (pv 2) (pe_int) (fun _ _ => rfl)) (pe_str) (nomark _)) (pw_or1 (pt_cmpR op_ne (pe_callB call_len_seq (by rfl) B.n_len boot_len (pa_cons (pv 2) pa_nil)) (pe_int) (nomark _)))))
        (pss_one (ps_ret (pe_non)))
        pss_nil)
      (pss_cons (ps_set (i := 3) sc_piece.nd rfl (.inl rfl) (pe_cal C_integer_told hr (by rfl) (pa_cons (pe_ix ix_list (pv 2) (pe_int) (fun _ _ => rfl)) pa_nil)))
      (pss_cons (ps_set (i := 4) sc_piece.nd rfl (.inl rfl) (pe_cal C_lot_told hr (by rfl) (pa_cons (pe_ix ix_list (pv 2) (pe_int) (fun _ _ => rfl)) (pa_cons (pv 1) pa_nil))))
      (pss_cons (ps_if (PW.pt (pw_or (pt_not (pt_chain op_le op_le (pe_int) (pv 3) (pe_const B.c_MOST_WISH (by rfl)))) (pw_or1 (pt_cmpR op_isN (pv 4) (pe_non) (nomark _)))))
        (pss_one (ps_ret (pe_non)))
        pss_nil)
      (pss_one (ps_ret (pe_tup (pa_cons (pv 3) (pa_cons (pv 4) pa_nil))))))))), ?_⟩
    obtain ⟨hl, qn, qs⟩ := hq
    rw [pieceM_W] at qn qs
    have hmem : ∀ x ∈ words line, x.length ≤ line.length := fun x hx => words_mem hx
    obtain ⟨w0, ws, ew⟩ := words_cons line
    refine ⟨_, rfl, ⟨line, rfl⟩, line, _, rfl, rfl, by decide +kernel, big6 (by omega), fun p np => ?_⟩
    have ep : (upd H p (.lst ((words line).map V.str))) p = some (.lst ((words line).map V.str)) := upd_same
    have s1 : Same H (upd H p (.lst ((words line).map V.str))) := same_upd np
    show tSeq _ _ _ _ (upd H p (.lst ((words line).map V.str)))
    generalize upd H p (.lst ((words line).map V.str)) = H1 at ep s1 ⊢
    refine ⟨_, rfl, p, _, 0, .str w0, rfl, rfl, .inl (.inl ep), atI_nat (j := 0) (by rw [ew]; rfl), rfl, _, rfl, ?_⟩
    by_cases h0 : w0 = Str.ofString "piece"
    · refine ite_f (nd_t (by rw [h0])) ?_
      refine ⟨_, rfl, p, _, rfl, .inl (.inl (.inl ep)), rfl, _, rfl, ?_⟩
      by_cases h3 : (words line).length = 3
      · refine ite_f (nd_t (by rw [List.length_map, h3]; rfl)) ?_
        obtain ⟨a0, a, b, e3⟩ := three h3
        have e0 : a0 = w0 := by rw [e3] at ew; exact (List.cons.inj ew).1
        subst e0
        rw [e3] at ep hmem qn qs
        have ha := hmem a (by simp)
        have hb := hmem b (by simp)
        refine ⟨_, rfl, p, _, 1, .str a, rfl, rfl, .inl (.inl ep), atI_nat (j := 1) rfl, a, rfl, by omega, fun H2 s2 => ?_⟩
        have ep2 := s2 _ _ ep
        refine ⟨_, rfl, p, _, 2, .str b, rfl, rfl, .inl (.inl ep2), atI_nat (j := 2) rfl, _, rfl, b, m, rfl, by omega, fun H3 s3 hm => ?_, fun H3 q l s3 eq hm => ?_⟩
        · have sA := (s1.trans s2).trans s3
          refine ⟨_, rfl, _, _, rfl, rfl, _, rfl, ?_⟩
          by_cases a1 : 1 ≤ toldI a
          · refine ite_t (d_t a1) ⟨_, _, rfl, rfl, _, rfl, ?_⟩
            by_cases a2 : toldI a ≤ 3
            · refine ite_f (nd_t a2) ⟨_, rfl, rfl, _, rfl, ite_t (d_t rfl) (qn _ sA (pieceW_lot hm))⟩
            · exact ite_t (nd_f a2) (ite_t rfl (qn _ sA (pieceW_lot hm)))
          · exact ite_f (d_f a1) ⟨_, rfl, ite_t rfl (ite_t rfl (qn _ sA (pieceW_lot hm)))⟩
        · have sA := (s1.trans s2).trans s3
          refine ⟨_, rfl, _, _, rfl, rfl, _, rfl, ?_⟩
          by_cases a1 : 1 ≤ toldI a
          · refine ite_t (d_t a1) ⟨_, _, rfl, rfl, _, rfl, ?_⟩
            by_cases a2 : toldI a ≤ 3
            · refine ite_f (nd_t a2) ⟨_, rfl, rfl, _, rfl, ite_f (d_f (by simp)) ?_⟩
              refine ⟨_, rfl, _, rfl, (by show 2 ≤ sizeLine; decide), fun t nt => ?_⟩
              exact qs _ t q _ l (sA.trans (same_upd nt)) upd_same (by rw [same_keep nt eq]; exact eq) (pieceW_good h0 ⟨a1, a2⟩ hm)
            · exact ite_t (nd_f a2) (ite_t rfl (qn _ sA (pieceW_wish fun z => a2 z.2)))
          · exact ite_f (d_f a1) ⟨_, rfl, ite_t rfl (ite_t rfl (qn _ sA (pieceW_wish fun z => a1 z.1)))⟩
      · exact ite_t (nd_f fun z => h3 (by have := V.int.inj z; rw [List.length_map] at this; omega)) (qn _ s1 (pieceW_len h3))
    · refine ite_t (nd_f fun z => h0 (V.str.inj z)) (ite_t rfl (qn _ s1 ?_))
      rw [ew]
      exact pieceW_head h0

/-- all but what stands at a is as it was -/
def But (a : Addr) (H H' : Hp) : Prop := ∀ b o, b ≠ a → H b = some o → H' b = some o
theorem But.of_same {a : Addr} {H H' : Hp} (s : Same H H') : But a H H' := fun b o _ e => s b o e
theorem But.upd {a : Addr} {H H' : Hp} {o : HO} (s : But a H H') : But a H (upd H' a o) := fun b u n e => by
  rw [upd_ne n]
  exact s b u n e
theorem But.trans {a : Addr} {H H1 H2 : Hp} (s : But a H H1) (t : But a H1 H2) : But a H H2 := fun b o n e => t b o n (s b o n e)
theorem bounds2 {H : Hp} {t1 t2 b : Addr} {q1 q2 : Int × Int} (n1 : H t1 = none) (n2 : (upd H t1 (.tup [.int q1.1, .int q1.2])) t2 = none) (nb : (upd (upd H t1 (.tup [.int q1.1, .int q1.2])) t2 (.tup [.int q2.1, .int q2.2])) b = none) :
    Same H (upd (upd (upd H t1 (.tup [.int q1.1, .int q1.2])) t2 (.tup [.int q2.1, .int q2.2])) b (.lst [.ref t1, .ref t2])) ∧
    BoundsAt K (upd (upd (upd H t1 (.tup [.int q1.1, .int q1.2])) t2 (.tup [.int q2.1, .int q2.2])) b (.lst [.ref t1, .ref t2])) b [q1, q2] := by
  have s1 := same_upd (o := .tup [.int q1.1, .int q1.2]) n1
  have s2 := same_upd (o := .tup [.int q2.1, .int q2.2]) n2
  have s3 := same_upd (o := .lst [.ref t1, .ref t2]) nb
  refine ⟨(s1.trans s2).trans s3, [t1, t2], .inl (.inl upd_same), rfl, fun i t q h1 h2 => ?_⟩
  match i, h1, h2 with
  | 0, h1, h2 => cases h1; cases h2; exact s3 _ _ (s2 _ _ upd_same)
  | 1, h1, h2 => cases h1; cases h2; exact s3 _ _ upd_same
  | i + 2, h1, h2 => simp at h1
theorem bounds3 {H : Hp} {t1 t2 t3 b : Addr} {q1 q2 q3 : Int × Int} (n1 : H t1 = none) (n2 : (upd H t1 (.tup [.int q1.1, .int q1.2])) t2 = none) (n3 : (upd (upd H t1 (.tup [.int q1.1, .int q1.2])) t2 (.tup [.int q2.1, .int q2.2])) t3 = none)
    (nb : (upd (upd (upd H t1 (.tup [.int q1.1, .int q1.2])) t2 (.tup [.int q2.1, .int q2.2])) t3 (.tup [.int q3.1, .int q3.2])) b = none) :
    Same H (upd (upd (upd (upd H t1 (.tup [.int q1.1, .int q1.2])) t2 (.tup [.int q2.1, .int q2.2])) t3 (.tup [.int q3.1, .int q3.2])) b (.lst [.ref t1, .ref t2, .ref t3])) ∧
    BoundsAt K (upd (upd (upd (upd H t1 (.tup [.int q1.1, .int q1.2])) t2 (.tup [.int q2.1, .int q2.2])) t3 (.tup [.int q3.1, .int q3.2])) b (.lst [.ref t1, .ref t2, .ref t3])) b [q1, q2, q3] := by
  have s1 := same_upd (o := .tup [.int q1.1, .int q1.2]) n1
  have s2 := same_upd (o := .tup [.int q2.1, .int q2.2]) n2
  have s3 := same_upd (o := .tup [.int q3.1, .int q3.2]) n3
  have s4 := same_upd (o := .lst [.ref t1, .ref t2, .ref t3]) nb
  refine ⟨((s1.trans s2).trans s3).trans s4, [t1, t2, t3], .inl (.inl upd_same), rfl, fun i t q h1 h2 => ?_⟩
  match i, h1, h2 with
  | 0, h1, h2 => cases h1; cases h2; exact s4 _ _ (s3 _ _ (s2 _ _ upd_same))
  | 1, h1, h2 => cases h1; cases h2; exact s4 _ _ (s3 _ _ upd_same)
  | 2, h1, h2 => cases h1; cases h2; exact s4 _ _ upd_same
  | i + 3, h1, h2 => simp at h1
theorem cutS1 {w : Str} {ws : List Str} : cutV ((w :: ws).map V.str) (some 1) none = ws.map V.str := by rw [cut1]; rfl
theorem ne_cons {W : List Str} (h : W ≠ []) : ∃ a r, W = a :: r := by
  match W, h with
  | a :: r, _ => exact ⟨a, r, rfl⟩
def storeW (W : List Str) : Option (List Int) := numsW W (Str.ofString "store") storeB
def sp_l_read_line (K : PySem.W.Frag) : Sp := fun vs H Q _ => ∃ (ws hd st pc : Addr) (W : List Str) (S Pn : Nat) (stv pcv : List V), vs = [.ref ws, .ref hd, .ref st, .ref pc] ∧ SqL K H ws (W.map V.str) ∧ W ≠ [] ∧ (∀ x ∈ W, x.length ≤ 900000) ∧
  SqL K H hd [.int S, .int Pn] ∧ H st = some (.lst stv) ∧ H pc = some (.lst pcv) ∧ stv.length ≤ 1000000 ∧ pcv.length ≤ 1000000 ∧
  (stv.length < S → (∀ H', Same H H' → storeW W = none → Q (.bl false) H') ∧
    ∀ H' p ns, But st H H' → H p = none → H' p = some (.lst (ns.map V.int)) → H' st = some (.lst (stv ++ [.ref p])) → storeW W = some ns → Q (.bl true) H') ∧
  (¬ stv.length < S → (∀ H', Same H H' → (pcv.length = Pn ∨ pieceW W (S : Int) = none) → Q (.bl false) H') ∧
    ∀ H' p q n l, But pc H H' → H' p = some (.tup [.int n, .ref q]) → H' q = some (.tup (l.map V.int)) → H' pc = some (.lst (pcv ++ [.ref p])) → pcv.length ≠ Pn → pieceW W (S : Int) = some (n, l) → Q (.bl true) H')
theorem c_l_read_line {k : Nat} (B : Blt mg) (D : DefAt K mg "_law_read_line" s_l_read_line) (C_l_figures : Callee P w K mg base CX0 k "_law_figures" ["_law_word_here", "_law_least", "_law_most"] sp_l_figures) (C_l_read_lot : Callee P w K mg base CX0 k "_law_read_lot" ["_law_word_here", "_law_many"] sp_l_read_lot) (C_l_numbers : Callee P w K mg base CX0 k "_law_numbers" ["_law_words", "_law_bounds"] (sp_l_numbers K)) : Callee P w K mg base CX0 (k + 1) "_law_read_line" ["_law_words", "_law_head", "_law_stores", "_law_pieces"] (sp_l_read_line K) := by
  obtain ⟨f, fd, F, g⟩ := D
  refine ⟨f, fd, g, F.kp, F.binds (fun _ _ _ _ _ _ us hl => match us, hl with | [_, _, _, _], _ => rfl), F.ok sc_l_read_line (fun vs H Q E h => ?_) (fun cdv A outer s H vs Q E hr h => ?_)⟩
  · obtain ⟨ws, hd, st, pc, W, S, Pn, stv, pcv, rfl, _⟩ := h
    rfl
  · obtain ⟨ws, hd, st, pc, W, S, Pn, stv, pcv, rfl, hq⟩ := h
    -- slots 0 _law_words, 1 _law_head, 2 _law_stores, 3 _law_pieces, 4 _law_numbers_here, 5 _law_wish, 6 _law_lot_here
    refine ⟨_, pss_cons (ps_if (pt_cmpR op_lt (pe_callB call_len_seq (by rfl) B.n_len boot_len (pa_cons (pv 2) pa_nil)) (pe_ix ix_list (pv 1) (pe_int) (fun _ _ => rfl)) (nomark _))
        (pss_cons (ps_set (i := 4) sc_l_read_line.nd rfl (.inl rfl) (pe_cal C_l_numbers hr (by rfl) (pa_cons (pe_slice sl_list (pv 0) (po_some (pe_int)) po_none) (pa_cons (pe_lst (pa_cons (pe_tup (pa_cons (pe_int) (pa_cons (pe_int) pa_nil))) (pa_cons (pe_tup (pa_cons (pe_int) (pa_cons (pe_int) pa_nil))) (pa_cons (pe_tup (pa_cons (pe_int) (pa_cons (pe_int) pa_nil))) pa_nil)))) pa_nil))))
        (pss_cons (ps_if (PW.pt (pw_or (pt_cmpR op_ne (pe_ix ix_list (pv 0) (pe_int) (fun _ _ => rfl)) (pe_str) (nomark _)) (pw_or1 (pt_cmpR op_isN (pv 4) (pe_non) (nomark _)))))
          (pss_one (ps_ret (pe_bl)))
          pss_nil)
        (pss_cons (ps_expr (pe_bm PySem.F.plainAttrs_list PySem.F.slot_list_append PySem.F.type_list_append mt_append (pv 2) (pa_cons (pv 4) pa_nil)))
        (pss_one (ps_ret (pe_bl))))))
        pss_nil)
      (pss_cons (ps_if (PW.pt (pw_or (pt_cmpR op_eq (pe_callB call_len_seq (by rfl) B.n_len boot_len (pa_cons (pv 3) pa_nil)) (pe_ix ix_list (pv 1) (pe_int) (fun _ _ => rfl)) (nomark _)) (pw_or (pt_cmpR op_ne (pe_ix ix_list (pv 0) (pe_int) (fun _ _ => rfl)) (pe_str) (nomark _)) (pw_or1 (pt_cmpR op_ne (pe_callB call_len_seq (by rfl) B.n_len boot_len (pa_cons (pv 0) pa_nil)) (pe_int) (nomark _))))))
        (pss_one (ps_ret (pe_bl)))
        pss_nil)
      (pss_cons (ps_set (i := 5) sc_l_read_line.nd rfl (.inl rfl) (pe_cal C_l_figures hr (by rfl) (pa_cons (pe_ix ix_list (pv 0) (pe_int) (fun _ _ => rfl)) (pa_cons (pe_int) (pa_cons (pe_int) pa_nil)))))
      (pss_cons (ps_set (i := 6) sc_l_read_line.nd rfl (.inl rfl) (pe_cal C_l_read_lot hr (by rfl) (pa_cons (pe_ix ix_list (pv 0) (pe_int) (fun _ _ => rfl)) (pa_cons (pe_ix ix_list (pv 1) (pe_int) (fun _ _ => rfl)) pa_nil))))
      (pss_cons (ps_if (PW.pt (pw_or (pt_cmpR op_lt (pv 5) (pe_int) (nomark _)) (pw_or1 (pt_cmpR op_isN (pv 6) (pe_non) (nomark _)))))
        (pss_one (ps_ret (pe_bl)))
        pss_nil)
      (pss_cons (ps_expr (pe_bm PySem.F.plainAttrs_list PySem.F.slot_list_append PySem.F.type_list_append mt_append (pv 3) (pa_cons (pe_tup (pa_cons (pv 5) (pa_cons (pv 6) pa_nil))) pa_nil)))
      (pss_one (ps_ret (pe_bl)))))))), ?_⟩
    obtain ⟨hS, hne, hw, hh, est, epc, l1, l2, qst, qpc⟩ := hq
    obtain ⟨w0, wr, rfl⟩ := ne_cons hne
    refine ⟨_, rfl, st, _, rfl, .inl (.inl (.inl est)), _, rfl, hd, _, 0, _, rfl, rfl, hh, atI_nat (j := 0) rfl, _, _, rfl, rfl, _, rfl, ?_⟩
    by_cases hlt : stv.length < S
    · refine ite_t (d_t (by omega)) ?_
      obtain ⟨qn, qs⟩ := qst hlt
      refine ⟨_, rfl, 1, rfl, ws, _, rfl, hS, fun c nc => ⟨by show 2 ≤ sizeLine; decide, fun t1 n1 => ⟨by show 2 ≤ sizeLine; decide, fun t2 n2 => ⟨by show 2 ≤ sizeLine; decide, fun t3 n3 => ⟨by show 3 ≤ sizeLine; decide, fun b nb => ?_⟩⟩⟩⟩⟩
      have sc : Same H (upd H c (.lst (cutV ((w0 :: wr).map V.str) (some 1) none))) := same_upd nc
      obtain ⟨sb, hb⟩ := bounds3 (K := K) (q1 := (0, 99)) (q2 := (0, 99)) (q3 := (1, 8)) n1 n2 n3 nb
      have ec0 : (upd H c (.lst (cutV ((w0 :: wr).map V.str) (some 1) none))) c = some (.lst (wr.map V.str)) := by rw [upd_same, cutS1]
      have ec := sb _ _ ec0
      have sA := sc.trans sb
      refine ⟨c, wr, b, storeB, rfl, .inl (.inl ec), fun x hx => Nat.le_trans (hw x (List.mem_cons_of_mem _ hx)) (by decide), hb, by decide, by decide, fun H2 s2 hn => ?_, fun H2 p ns s2 np ep hn => ?_⟩
      · have s := sA.trans s2
        refine ⟨_, rfl, ws, _, 0, .str w0, rfl, rfl, s.seq hS, atI_nat (j := 0) rfl, rfl, _, rfl, ?_⟩
        have e : storeW (w0 :: wr) = none := by
          show (if w0 = _ then nums wr storeB else none) = none
          rw [hn]
          simp
        by_cases h0 : w0 = Str.ofString "store"
        · exact ite_f (nd_t (by rw [h0])) ⟨_, rfl, rfl, _, rfl, ite_t (d_t rfl) (qn _ s e)⟩
        · exact ite_t (nd_f fun z => h0 (V.str.inj z)) (ite_t rfl (qn _ s e))
      · have s := sA.trans s2
        refine ⟨_, rfl, ws, _, 0, .str w0, rfl, rfl, s.seq hS, atI_nat (j := 0) rfl, rfl, _, rfl, ?_⟩
        by_cases h0 : w0 = Str.ofString "store"
        · have e : storeW (w0 :: wr) = some ns := by
            show (if w0 = _ then nums wr storeB else none) = some ns
            rw [if_pos h0, hn]
          have est2 := s _ _ est
          have npH : H p = none := sA.free np
          have pst : p ≠ st := fun z => by rw [z, est] at npH; cases npH
          refine ite_f (nd_t (by rw [h0])) ⟨_, rfl, rfl, _, rfl, ite_f (d_f (by simp)) ?_⟩
          refine ⟨_, rfl, .inl ⟨rfl, _, .inl (.inl est2)⟩, _, rfl, st, _, _, rfl, rfl, est2, big6' (by omega), ?_⟩
          exact qs _ p ns (But.of_same s).upd npH (by rw [upd_ne pst]; exact ep) upd_same e
        · refine ite_t (nd_f fun z => h0 (V.str.inj z)) (ite_t rfl (qn _ s ?_))
          exact if_neg h0
    · refine ite_f (d_f (by omega)) ?_
      obtain ⟨qn, qs⟩ := qpc hlt
      refine ⟨_, rfl, pc, _, rfl, .inl (.inl (.inl epc)), _, rfl, hd, _, 1, _, rfl, rfl, hh, atI_nat (j := 1) rfl, rfl, _, rfl, ?_⟩
      by_cases hp : pcv.length = Pn
      · exact ite_t (d_t (by rw [hp])) (ite_t rfl (qn _ (Same.refl _) (.inl hp)))
      · refine ite_f (d_f fun z => hp (by have := V.int.inj z; omega)) ?_
        refine ⟨_, rfl, ws, _, 0, .str w0, rfl, rfl, hS, atI_nat (j := 0) rfl, rfl, _, rfl, ?_⟩
        by_cases h0 : w0 = Str.ofString "piece"
        · refine ite_f (nd_t (by rw [h0])) ?_
          refine ⟨_, rfl, ws, _, rfl, .inl hS, rfl, _, rfl, ?_⟩
          by_cases h3 : (w0 :: wr).length = 3
          · refine ite_f (nd_t (by rw [List.length_map, h3]; rfl)) ?_
            obtain ⟨a0, a, b, e3⟩ := three h3
            have e0 : a0 = w0 := (List.cons.inj e3).1.symm
            subst e0
            have er : wr = [a, b] := (List.cons.inj e3).2
            subst er
            have ha := hw a (by simp)
            have hb := hw b (by simp)
            refine ⟨_, rfl, ws, _, 1, .str a, rfl, rfl, hS, atI_nat (j := 1) rfl, a, 1, 3, rfl, by omega, by decide, ?_⟩
            refine ⟨_, rfl, ws, _, 2, .str b, rfl, rfl, hS, atI_nat (j := 2) rfl, _, rfl, hd, _, 0, _, rfl, rfl, hh, atI_nat (j := 0) rfl, b, (S : Int), rfl, hb, fun H2 s2 hm => ?_, fun H2 q l s2 eq hm => ?_⟩
            · refine ⟨_, rfl, _, 0, rfl, rfl, _, rfl, ite2 (fun z => ite_t rfl (qn _ s2 (.inr (pieceW_lot hm)))) (fun z => ⟨_, rfl, rfl, _, rfl, ite_t (d_t rfl) (qn _ s2 (.inr (pieceW_lot hm)))⟩)⟩
            · refine ⟨_, rfl, _, 0, rfl, rfl, _, rfl, ?_⟩
              by_cases h4 : 1 ≤ toldI a ∧ toldI a ≤ 3
              · have ef : figI a 1 3 = toldI a := if_pos h4
                rw [ef]
                refine ite_f (d_f (by omega)) ⟨_, rfl, rfl, _, rfl, ite_f (d_f (by simp)) ?_⟩
                have epc2 := s2 _ _ epc
                refine ⟨_, rfl, .inl ⟨rfl, _, .inl (.inl epc2)⟩, _, rfl, _, rfl, by show 2 ≤ sizeLine; decide, fun t nt => ?_⟩
                have epc3 := same_upd (o := .tup [.int (toldI a), .ref q]) nt _ _ epc2
                have tpc : t ≠ pc := fun z => by rw [z, epc2] at nt; cases nt
                have qpc' : q ≠ pc := fun z => by rw [z, epc2] at eq; cases eq
                refine ⟨pc, _, _, rfl, rfl, epc3, big6' (by omega), ?_⟩
                refine qs _ t q (toldI a) l (But.of_same (s2.trans (same_upd nt))).upd ?_ ?_ upd_same hp (pieceW_good h0 h4 hm)
                · rw [upd_ne tpc, upd_same]
                · rw [upd_ne qpc', same_keep nt eq]
                  exact eq
              · have ef : figI a 1 3 = -1 := if_neg h4
                rw [ef]
                exact ite_t (d_t (by decide)) (ite_t rfl (qn _ s2 (.inr (pieceW_wish h4))))
          · exact ite_t (nd_f fun z => h3 (by have := V.int.inj z; rw [List.length_map] at this; omega)) (qn _ (Same.refl _) (.inr (pieceW_len h3)))
        · exact ite_t (nd_f fun z => h0 (V.str.inj z)) (ite_t rfl (qn _ (Same.refl _) (.inr (pieceW_head h0))))

end
end K6

namespace K6
open PySem PySem.Spec PyProof.Rows L2
open TL (tl len_tl ext_tl tl_append)
section
variable {P : Program} {w : World} {K : PySem.W.Frag} {mg : Str → Option Value} {base : Heap}
/-! ### how a world lies in the heap -/
def RepC (H : Hp) (c : Addr) (st : List (List Int)) : Prop := ∃ r0 r1 r2 : Addr, H c = some (.tup [.ref r0, .ref r1, .ref r2]) ∧ H r0 = some (.tup (st.map fun s => V.int (s.getD 0 0))) ∧ H r1 = some (.tup (st.map fun s => V.int (s.getD 1 0))) ∧ H r2 = some (.tup (st.map fun s => V.int (s.getD 2 0)))
def RepW (H : Hp) (a : Addr) (ps : List (Int × List Int)) : Prop := H a = some (.tup (ps.map fun p => V.int p.1))
def RepP (H : Hp) (a : Addr) (ps : List (Int × List Int)) : Prop := ∃ qs : List Addr, H a = some (.tup (qs.map V.ref)) ∧ qs.length = ps.length ∧ ∀ (i : Nat) q p, qs[i]? = some q → ps[i]? = some p → H q = some (.tup (p.2.map V.int))
theorem RepC.same {H H' : Hp} {c : Addr} {st : List (List Int)} (h : RepC H c st) (s : Same H H') : RepC H' c st :=
  let ⟨a, b, d, e1, e2, e3, e4⟩ := h
  ⟨a, b, d, s _ _ e1, s _ _ e2, s _ _ e3, s _ _ e4⟩
theorem RepW.same {H H' : Hp} {a : Addr} {ps : List (Int × List Int)} (h : RepW H a ps) (s : Same H H') : RepW H' a ps := s _ _ h
theorem RepP.same {H H' : Hp} {a : Addr} {ps : List (Int × List Int)} (h : RepP H a ps) (s : Same H H') : RepP H' a ps :=
  let ⟨qs, e, l, f⟩ := h
  ⟨qs, s _ _ e, l, fun i q p h1 h2 => s _ _ (f i q p h1 h2)⟩
/-- the stores, the pieces read so far -/
def StRep (H : Hp) (st pc : Addr) (ls : List Str) (n : Nat) (stv : List V) : Prop := ∃ as : List Addr, stv = as.map V.ref ∧ as.length = n ∧ ∀ (m : Nat) a l, as[m]? = some a → ls[m]? = some l → H a = some (.lst ((storeV l).map V.int)) ∧ a ≠ st ∧ a ≠ pc
def PcRep (H : Hp) (S : Nat) (ls : List Str) (n : Nat) (pcv : List V) : Prop := ∃ ts qs : List Addr, pcv = ts.map V.ref ∧ ts.length = n ∧ qs.length = n ∧
  ∀ (m : Nat) t q l, ts[m]? = some t → qs[m]? = some q → ls[S + m]? = some l → H t = some (.tup [.int (pieceV S l).1, .ref q]) ∧ H q = some (.tup ((pieceV S l).2.map V.int))
def But2 (st pc : Addr) (H H' : Hp) : Prop := ∀ b o, b ≠ st → b ≠ pc → H b = some o → H' b = some o
theorem But.two1 {st pc : Addr} {H H' : Hp} (h : But st H H') : But2 st pc H H' := fun b o n _ e => h b o n e
theorem But.two2 {st pc : Addr} {H H' : Hp} (h : But pc H H') : But2 st pc H H' := fun b o _ n e => h b o n e
theorem But2.of {st pc : Addr} {H H' : Hp} (h : Same H H') : But2 st pc H H' := fun b o _ _ e => h b o e
theorem But2.trans {st pc : Addr} {H H1 H2 : Hp} (h : But2 st pc H H1) (g : But2 st pc H1 H2) : But2 st pc H H2 := fun b o n m e => g b o n m (h b o n m e)
theorem But2.out {st pc : Addr} {H H1 H2 : Hp} (s : Same H H1) (h : But2 st pc H1 H2) (n1 : H st = none) (n2 : H pc = none) : Same H H2 := fun b o e => h b o (ne_of_none e n1) (ne_of_none e n2) (s b o e)
theorem StRep.but {H H' : Hp} {st pc : Addr} {ls : List Str} {n : Nat} {stv : List V} (h : StRep H st pc ls n stv) (g : But2 st pc H H') : StRep H' st pc ls n stv :=
  let ⟨as, e, l, f⟩ := h
  ⟨as, e, l, fun m a x h1 h2 => let ⟨q, n1, n2⟩ := f m a x h1 h2; ⟨g _ _ n1 n2 q, n1, n2⟩⟩
theorem tup_ne {H : Hp} {a b : Addr} {xs ys : List V} (h : H a = some (.tup xs)) (g : H b = some (.lst ys)) : a ≠ b := fun e => by
  rw [e, g] at h
  cases h
theorem PcRep.but {H H' : Hp} {st pc : Addr} {S : Nat} {ls : List Str} {n : Nat} {pcv v1 v2 : List V} (h : PcRep H S ls n pcv) (g : But2 st pc H H') (e1 : H st = some (.lst v1)) (e2 : H pc = some (.lst v2)) : PcRep H' S ls n pcv :=
  let ⟨ts, qs, e, l, l2, f⟩ := h
  ⟨ts, qs, e, l, l2, fun m t q x h1 h2 h3 => let ⟨a, b⟩ := f m t q x h1 h2 h3; ⟨g _ _ (tup_ne a e1) (tup_ne a e2) a, g _ _ (tup_ne b e1) (tup_ne b e2) b⟩⟩
theorem snoc_get {α : Type} {l : List α} {a x : α} {m n : Nat} (hl : l.length = n) (h : (l ++ [a])[m]? = some x) : (m < n ∧ l[m]? = some x) ∨ (m = n ∧ x = a) := by
  by_cases c : m < l.length
  · rw [List.getElem?_append_left c] at h
    exact .inl ⟨by omega, h⟩
  · rw [List.getElem?_append_right (by omega)] at h
    cases e : m - l.length with
    | zero =>
      rw [e] at h
      exact .inr ⟨by omega, (Option.some.inj h).symm⟩
    | succ k =>
      rw [e] at h
      simp at h
theorem StRep.snoc {H : Hp} {st pc p : Addr} {ls : List Str} {n : Nat} {stv : List V} {l : Str} (h : StRep H st pc ls n stv) (hl : ls[n]? = some l) (e : H p = some (.lst ((storeV l).map V.int))) (n1 : p ≠ st) (n2 : p ≠ pc) : StRep H st pc ls (n + 1) (stv ++ [.ref p]) := by
  obtain ⟨as, ev, len, f⟩ := h
  refine ⟨as ++ [p], by rw [ev, List.map_append]; rfl, by simp [len], fun m a x h1 h2 => ?_⟩
  rcases snoc_get len h1 with ⟨_, g⟩ | ⟨rfl, rfl⟩
  · exact f m a x g h2
  · rw [hl] at h2
    cases h2
    exact ⟨e, n1, n2⟩
theorem PcRep.snoc {H : Hp} {t q : Addr} {S : Nat} {ls : List Str} {n : Nat} {pcv : List V} {l : Str} (h : PcRep H S ls n pcv) (hl : ls[S + n]? = some l) (e : H t = some (.tup [.int (pieceV S l).1, .ref q])) (e2 : H q = some (.tup ((pieceV S l).2.map V.int))) : PcRep H S ls (n + 1) (pcv ++ [.ref t]) := by
  obtain ⟨ts, qs, ev, len, len2, f⟩ := h
  refine ⟨ts ++ [t], qs ++ [q], by rw [ev, List.map_append]; rfl, by simp [len], by simp [len2], fun m t' q' x h1 h2 h3 => ?_⟩
  rcases snoc_get len h1 with ⟨c, g⟩ | ⟨rfl, rfl⟩
  · rcases snoc_get len2 h2 with ⟨_, g2⟩ | ⟨c2, _⟩
    · exact f m t' q' x g g2 h3
    · omega
  · rcases snoc_get len2 h2 with ⟨c2, _⟩ | ⟨_, rfl⟩
    · omega
    · rw [hl] at h3
      cases h3
      exact ⟨e, e2⟩
/-- behind j lines all as they must be -/
theorem ok_le {S P : Nat} {ls : List Str} {j : Nat} (hj : j ≤ ls.length) (h : ∀ (m : Nat) x, m < j → ls[m]? = some x → lineOk S P (m + 1) x = true) : j ≤ S + P := by
  cases j with
  | zero => omega
  | succ k =>
    by_cases c : k + 1 ≤ S
    · omega
    · have e : ls[k]? = some ls[k] := List.getElem?_eq_getElem (by omega)
      have o := h k _ (Nat.lt_succ_self k) e
      rw [lineOk_piece c, Bool.and_eq_true] at o
      exact of_decide_eq_true o.1
theorem ok_snoc {S P : Nat} {ls : List Str} {j : Nat} {l : Str} (h : ∀ (m : Nat) x, m < j → ls[m]? = some x → lineOk S P (m + 1) x = true) (hl : ls[j]? = some l) (ho : lineOk S P (j + 1) l = true) : ∀ (m : Nat) x, m < j + 1 → ls[m]? = some x → lineOk S P (m + 1) x = true := fun m x hm hx => by
  by_cases e : m = j
  · subst e
    rw [hl] at hx
    cases hx
    exact ho
  · exact h m x (by omega) hx

/-- a store's line told three numbers -/
theorem store3 {S P m : Nat} {l : Str} (hm : m < S) (h : lineOk S P (m + 1) l = true) : ∃ a b c, storeV l = [a, b, c] := by
  rw [lineOk_store (by omega)] at h
  obtain ⟨ns, e⟩ := Option.isSome_iff_exists.mp h
  obtain ⟨a, b, c, w, _, _, e2, _⟩ := storeM_some e
  rw [storeV_of e]
  exact ⟨_, _, _, e2⟩
theorem at3 {a b c : Int} {i : Nat} (h : i < 3) : atI ([a, b, c].map V.int) (0 + (i : Int)) = some (.int ([a, b, c].getD i 0)) := by
  match i, h with
  | 0, _ => exact at_of (j := 0) (by omega) rfl
  | 1, _ => exact at_of (j := 1) (by omega) rfl
  | 2, _ => exact at_of (j := 2) (by omega) rfl
/-- a column of the stores -/
def RelC (cols : Nat → List V) (i : Nat) (y : V) (H : Hp) : Prop := ∃ T : Addr, y = .ref T ∧ H T = some (.tup (cols i))
theorem RelC.stay {cols : Nat → List V} {D : Addr} (i : Nat) (y : V) (H H' : Hp) (acc : List V) (b : ∀ b o, b ≠ D → H b = some o → H' b = some o) (e : H D = some (.lst acc)) (h : RelC cols i y H) : RelC cols i y H' :=
  let ⟨T, e1, e2⟩ := h
  ⟨T, e1, b T _ (tup_ne e2 e) e2⟩
theorem three_of {ys : List V} (h : ys.length = 3) : ∃ a b c, ys = [a, b, c] := by
  match ys, h with
  | [a, b, c], _ => exact ⟨a, b, c, rfl⟩

/-- behind i lines of the law's own reading -/
def LInv (H : Hp) (z l0 : Str) (ls : List Str) (st pc : Addr) : Nat → L2.St → Hp → Prop
  | 0, σ, H' => Same H H' ∧ H' st = some (.lst []) ∧ H' pc = some (.lst []) ∧ ∃ y5 y6, σ = [some (.str z), some (.int 0), some .non, some (.ref st), some (.ref pc), y5, y6, none, none, none, none]
  | j + 1, σ, H' => Same H H' ∧ ∃ (hd : Addr) (S P : Nat) (stv pcv : List V) (y5 y6 : Option V), H' st = some (.lst stv) ∧ H' pc = some (.lst pcv) ∧ headM l0 = some [(S : Int), (P : Int)] ∧ H' hd = some (.lst [.int S, .int P]) ∧ hd ≠ st ∧ hd ≠ pc ∧
      σ = [some (.str z), some (.int (offs (l0 :: ls) (j + 1) : Nat)), some (.ref hd), some (.ref st), some (.ref pc), y5, y6, none, none, none, none] ∧
      StRep H' st pc ls (min j S) stv ∧ PcRep H' S ls (j - S) pcv ∧ (∀ (m : Nat) x, m < j → ls[m]? = some x → lineOk S P (m + 1) x = true) ∧ j ≤ ls.length
theorem nums_headM {l w0 : Str} {wr : List Str} (ew : words l = w0 :: wr) : headM l = if w0 = Str.ofString "cluster" then nums wr headB else none := by
  unfold headM
  rw [nums1_W, ew]
  rfl
theorem storeM_W (l : Str) : storeM l = storeW (words l) := rfl
def sp_l_read : Sp := fun vs H Q _ => ∃ (z : Str), vs = [.str z] ∧ z.length ≤ 800000 ∧
  (∀ H' p k, Same H H' → H' p = some (.lst [.str "bad", .int (k : Nat)]) → readM z = .bad k → Q (.ref p) H') ∧
  ∀ H' p c a b wd, Same H H' → H' p = some (.lst [.str "good", .ref c, .ref a, .ref b]) → RepC H' c wd.stores → RepW H' a wd.pieces → RepP H' b wd.pieces → readM z = .good wd → Q (.ref p) H'
theorem c_l_read {k : Nat} (B : Blt mg) (D : DefAt K mg "_law_read" s_l_read) (C_l_numbers : Callee P w K mg base CX0 k "_law_numbers" ["_law_words", "_law_bounds"] (sp_l_numbers K)) (C_l_read_line : Callee P w K mg base CX0 k "_law_read_line" ["_law_words", "_law_head", "_law_stores", "_law_pieces"] (sp_l_read_line K)) : Callee P w K mg base CX0 (k + 1) "_law_read" ["_law_text"] sp_l_read := by
  obtain ⟨f, fd, F, g⟩ := D
  refine ⟨f, fd, g, F.kp, F.binds (fun _ _ _ _ _ _ us hl => match us, hl with | [_], _ => rfl), F.ok sc_l_read (fun vs H Q E h => ?_) (fun cdv A outer s H vs Q E hr h => ?_)⟩
  · obtain ⟨z, rfl, _⟩ := h
    rfl
  · obtain ⟨z, rfl, hq⟩ := h
    -- slots 0 _law_text, 1 _law_at, 2 _law_head, 3 _law_stores*, 4 _law_pieces, 5 _law_line, 6 _law_words, 7 _law_cluster_here, 8 _law_k, 9 _law_piece, 10 _law_store
    refine ⟨_, pss_cons (ps_set (i := 1) sc_l_read.nd rfl (.inl rfl) (pe_int))
      (pss_cons (ps_set (i := 2) sc_l_read.nd rfl (.inl rfl) (pe_non))
      (pss_cons (ps_set (i := 3) sc_l_read.nd rfl (.inr rfl) (pe_lst pa_nil))
      (pss_cons (ps_set (i := 4) sc_l_read.nd rfl (.inl rfl) (pe_lst pa_nil))
      (pss_cons (ps_for PassesOwn.never rfl (pi_list (pe_split (pv 0) (pe_str))) (pg_name (i := 5) sc_l_read.nd rfl (.inl rfl))
        (pss_cons (ps_set (i := 6) sc_l_read.nd rfl (.inl rfl) (pe_split (pv 5) (pe_str)))
        (pss_cons (ps_if (pt_cmpR op_isN (pv 2) (pe_non) (nomark _))
          (pss_cons (ps_set (i := 2) sc_l_read.nd rfl (.inl rfl) (pe_cal C_l_numbers hr (by rfl) (pa_cons (pe_slice sl_list (pv 6) (po_some (pe_int)) po_none) (pa_cons (pe_lst (pa_cons (pe_tup (pa_cons (pe_int) (pa_cons (pe_int) pa_nil))) (pa_cons (pe_tup (pa_cons (pe_int) (pa_cons (pe_int) pa_nil))) pa_nil))) pa_nil))))
          (pss_one (ps_if (PW.pt (pw_or (pt_cmpR op_ne (pe_ix ix_list (pv 6) (pe_int) (fun _ _ => rfl)) (pe_str) (nomark _)) (pw_or1 (pt_cmpR op_isN (pv 2) (pe_non) (nomark _)))))
            (pss_one (ps_ret (pe_lst (pa_cons (pe_str) (pa_cons (pv 1) pa_nil)))))
            pss_nil)))
          (pss_one (ps_if (pt_not (pt_val (pe_cal C_l_read_line hr (by rfl) (pa_cons (pv 6) (pa_cons (pv 2) (pa_cons (pv 3) (pa_cons (pv 4) pa_nil)))))))
            (pss_one (ps_ret (pe_lst (pa_cons (pe_str) (pa_cons (pv 1) pa_nil)))))
            pss_nil)))
        (pss_one (ps_set (i := 1) sc_l_read.nd rfl (.inl rfl) (pe_op op_add (pe_op op_add (pv 1) (pe_callB call_len_str (by rfl) B.n_len boot_len (pa_cons (pv 5) pa_nil))) (pe_int)))))))
      (pss_cons (ps_if (PW.pt (pw_or (pt_cmpR op_lt (pe_callB call_len_seq (by rfl) B.n_len boot_len (pa_cons (pv 3) pa_nil)) (pe_ix ix_list (pv 2) (pe_int) (fun _ _ => rfl)) (nomark _)) (pw_or1 (pt_cmpR op_lt (pe_callB call_len_seq (by rfl) B.n_len boot_len (pa_cons (pv 4) pa_nil)) (pe_ix ix_list (pv 2) (pe_int) (fun _ _ => rfl)) (nomark _)))))
        (pss_one (ps_ret (pe_lst (pa_cons (pe_str) (pa_cons (pe_callB call_len_str (by rfl) B.n_len boot_len (pa_cons (pv 0) pa_nil)) pa_nil)))))
        pss_nil)
      (pss_cons (ps_set (i := 7) sc_l_read.nd rfl (.inl rfl) (pe_callTy call_tuple_of (by rfl) B.n_tuple boot_tuple (pa_cons (pe_lc (own := [("_law_k", 8)]) (g := gName 8) (by rfl) sc_l_read.nd (pi_range1 (by rfl) B.n_range (pa_cons (pe_int) pa_nil)) (blkOk_by (N := n_l_read) (sc := defScope s_l_read) (own := [("_law_k", 8)]) (by decide +kernel)) (fun _ _ _ _ _ => pg_name (i := 8) sc_l_read.nd rfl (.inr rfl)) (fun _ _ _ _ _ => pts_nil) (fun _ _ _ _ _ => pe_callTy (call_tuple_ofK (K := K)) (by rfl) B.n_tuple boot_tuple (pa_cons (pe_lc (own := [("_law_store", 10)]) (g := gName 10) (by rfl) sc_l_read.nd (pi_listK (K := K) (pv 3)) (blkOk_by (N := n_l_read) (sc := relS _ <| defScope s_l_read) (own := [("_law_store", 10)]) (by decide +kernel)) (fun _ _ _ _ _ => pg_name (i := 10) sc_l_read.nd rfl (.inl rfl)) (fun _ _ _ _ _ => pts_nil) (fun _ _ _ _ _ => pe_ix (ix_listK (K := K)) (pv 10) (pv 8) (fun _ _ => rfl))) pa_nil))) pa_nil)))
      (pss_one (ps_ret (pe_lst (pa_cons (pe_str) (pa_cons (pv 7) (pa_cons (pe_callTy call_tuple_of (by rfl) B.n_tuple boot_tuple (pa_cons (pe_lc (own := [("_law_piece", 9)]) (g := gName 9) (by rfl) sc_l_read.nd (pi_list (pv 4)) (blkOk_by (N := n_l_read) (sc := defScope s_l_read) (own := [("_law_piece", 9)]) (by decide +kernel)) (fun _ _ _ _ _ => pg_name (i := 9) sc_l_read.nd rfl (.inl rfl)) (fun _ _ _ _ _ => pts_nil) (fun _ _ _ _ _ => pe_ix (ix_tupK (K := K)) (pv 9) (pe_int) (fun _ _ => rfl))) pa_nil)) (pa_cons (pe_callTy call_tuple_of (by rfl) B.n_tuple boot_tuple (pa_cons (pe_lc (own := [("_law_piece", 9)]) (g := gName 9) (by rfl) sc_l_read.nd (pi_list (pv 4)) (blkOk_by (N := n_l_read) (sc := defScope s_l_read) (own := [("_law_piece", 9)]) (by decide +kernel)) (fun _ _ _ _ _ => pg_name (i := 9) sc_l_read.nd rfl (.inl rfl)) (fun _ _ _ _ _ => pts_nil) (fun _ _ _ _ _ => pe_ix (ix_tupK (K := K)) (pv 9) (pe_int) (fun _ _ => rfl))) pa_nil)) pa_nil))))))))))))), ?_⟩
    obtain ⟨hl, qb, qg⟩ := hq
    obtain ⟨l0, ls, el⟩ := linesOf_cons z
    have htot := lines_tot z
    rw [el] at htot
    have hlen := len_tot (l0 :: ls)
    have hmem : ∀ x ∈ l0 :: ls, x.length ≤ 800000 := fun x hx => by have := mem_tot hx; omega
    refine ⟨Nat.zero_le _, fun st nst => ⟨Nat.zero_le _, fun pc npc => ?_⟩⟩
    have s1 : Same H (upd H st (.lst [])) := same_upd nst
    have s2 : Same (upd H st (.lst [])) (upd (upd H st (.lst [])) pc (.lst [])) := same_upd npc
    have hne : st ≠ pc := ne_of_none upd_same npc
    have est0 : (upd (upd H st (.lst [])) pc (.lst [])) st = some (.lst []) := s2 _ _ upd_same
    have epc0 : (upd (upd H st (.lst [])) pc (.lst [])) pc = some (.lst []) := upd_same
    have s3 := s1.trans s2
    have npc' : H pc = none := s1.free npc
    show tSeq _ _ _ _ (upd (upd H st (.lst [])) pc (.lst []))
    generalize upd (upd H st (.lst [])) pc (.lst []) = H0 at est0 epc0 s3 ⊢
    refine ⟨_, rfl, ⟨z, rfl⟩, z, _, rfl, rfl, by decide +kernel, big6 (by omega), fun c nc => ?_⟩
    have sc : Same H0 (upd H0 c (.lst ((linesOf z).map V.str))) := same_upd nc
    have ec : (upd H0 c (.lst ((linesOf z).map V.str))) c = some (.lst ((l0 :: ls).map V.str)) := by rw [upd_same, el]
    have estc := sc _ _ est0
    have epcc := sc _ _ epc0
    have nst0 : H0 c = none := nc
    have cst : c ≠ st := fun e => by rw [e, est0] at nc; cases nc
    have cpc : c ≠ pc := fun e => by rw [e, epc0] at nc; cases nc
    refine ⟨c, rfl, ⟨_, .inl (.inl ec)⟩, ?_⟩
    show ∃ W : Nat → Nat → L2.St → Hp → Prop, (∃ m, W 0 m _ (upd H0 c (.lst ((linesOf z).map V.str)))) ∧ _
    have s4 := s3.trans sc
    generalize upd H0 c (.lst ((linesOf z).map V.str)) = H1 at ec estc epcc s4 ⊢
    refine for_it (walk_list (K := K) (a := c) (xs := (l0 :: ls).map V.str)) (fun i σ H' => LInv H z l0 ls st pc i σ H' ∧ H' c = some (.lst ((l0 :: ls).map V.str)))
      ⟨⟨s4, estc, epcc, none, none, rfl⟩, ec⟩ (fun i σ H' _ pv => .inl (.inl pv.2)) (fun i x σ H2 H' hi pv yy => ?_) (fun σ H2 pv => ?_)
    · obtain ⟨rfl, hx⟩ := yy
      obtain ⟨l, hl1, rfl⟩ := map_str_get hx
      obtain ⟨hinv, ec2⟩ := pv
      obtain ⟨w0, wr, ew⟩ := words_cons l
      have hlb := hmem l (List.mem_of_getElem? hl1)
      have hwm : ∀ x ∈ words l, x.length ≤ 800000 := fun x hx => Nat.le_trans (words_mem hx) hlb
      rw [ew] at hwm
      cases i with
      | zero =>
        obtain ⟨sm, est, epc, y5, y6, rfl⟩ := hinv
        have e0 : l0 = l := Option.some.inj hl1
        subst e0
        refine ⟨_, rfl, ⟨l0, rfl⟩, l0, _, rfl, rfl, by decide +kernel, big6 (by omega), fun w nw => ?_⟩
        have sw : Same H' (upd H' w (.lst ((words l0).map V.str))) := same_upd nw
        have ewd : (upd H' w (.lst ((words l0).map V.str))) w = some (.lst ((w0 :: wr).map V.str)) := by rw [upd_same, ew]
        show tSeq _ _ _ _ (upd H' w (.lst ((words l0).map V.str)))
        generalize upd H' w (.lst ((words l0).map V.str)) = H3 at sw ewd ⊢
        refine ⟨_, rfl, rfl, _, rfl, ite_t (d_t rfl) ?_⟩
        refine ⟨_, rfl, 1, rfl, w, _, rfl, .inl (.inl ewd), fun cc ncc => ⟨by show 2 ≤ sizeLine; decide, fun t1 n1 => ⟨by show 2 ≤ sizeLine; decide, fun t2 n2 => ⟨by show 2 ≤ sizeLine; decide, fun b nb => ?_⟩⟩⟩⟩
        have sc2 : Same H3 (upd H3 cc (.lst (cutV ((w0 :: wr).map V.str) (some 1) none))) := same_upd ncc
        obtain ⟨sb, hb⟩ := bounds2 (K := K) (q1 := (1, 8)) (q2 := (0, 40)) n1 n2 nb
        have ec0 : (upd H3 cc (.lst (cutV ((w0 :: wr).map V.str) (some 1) none))) cc = some (.lst (wr.map V.str)) := by rw [upd_same, cutS1]
        have ecc := sb _ _ ec0
        have sA := sc2.trans sb
        have bad : ∀ (v : Option V) H4, Same H H4 → headM l0 = none → tRet (tLst (tCons (tC (V.str (Str.ofString "bad"))) (tCons (tVar 1) tNil))) { nx := fun x H' => Q V.non H', rt := Q } [some (.str z), some (.int 0), v, some (.ref st), some (.ref pc), some (.str l0), some (.ref w), none, none, none, none] H4 := fun v H4 s hn =>
          ⟨_, rfl, by show 2 ≤ sizeLine; decide, fun r nr => qb _ r 0 (s.trans (same_upd nr)) upd_same (readM_none el hn)⟩
        refine ⟨cc, wr, b, headB, rfl, .inl (.inl ecc), fun x hx => Nat.le_trans (hwm x (List.mem_cons_of_mem _ hx)) (by decide), hb, by decide, by decide, fun H4 s4' hn => ?_, fun H4 p ns s4' np ep hn => ?_⟩
        · have s := sA.trans s4'
          have hM : headM l0 = none := by rw [nums_headM ew, hn]; simp
          refine ⟨_, rfl, w, _, 0, .str w0, rfl, rfl, .inl (.inl (s _ _ ewd)), atI_nat (j := 0) rfl, rfl, _, rfl, ?_⟩
          by_cases h0 : w0 = Str.ofString "cluster"
          · exact ite_f (nd_t (by rw [h0])) ⟨_, rfl, rfl, _, rfl, ite_t (d_t rfl) (bad _ _ ((sm.trans sw).trans s) hM)⟩
          · exact ite_t (nd_f fun q => h0 (V.str.inj q)) (ite_t rfl (bad _ _ ((sm.trans sw).trans s) hM))
        · have s := sA.trans s4'
          refine ⟨_, rfl, w, _, 0, .str w0, rfl, rfl, .inl (.inl (s _ _ ewd)), atI_nat (j := 0) rfl, rfl, _, rfl, ?_⟩
          by_cases h0 : w0 = Str.ofString "cluster"
          · have hM : headM l0 = some ns := by rw [nums_headM ew, if_pos h0, hn]
            obtain ⟨S, Pn, ens, _, _, _⟩ := headM_some hM
            subst ens
            refine ite_f (nd_t (by rw [h0])) ⟨_, rfl, rfl, _, rfl, ite_f (d_f (by simp)) ?_⟩
            have sF := (sm.trans sw).trans s
            have sG := sw.trans s
            have npA : H' p = none := (sw.trans sA).free np
            refine ⟨_, rfl, _, rfl, l0, rfl, big6 (by omega), _, _, rfl, rfl, _, 1, rfl, rfl, ⟨sF, p, S, Pn, [], [], some (.str l0), some (.ref w), sG _ _ est, sG _ _ epc, hM, ep, ?_, ?_, ?_, ?_, ?_, ?_, Nat.zero_le _⟩, sG _ _ ec2⟩
            · exact Ne.symm (ne_of_none est npA)
            · exact Ne.symm (ne_of_none epc npA)
            · show [some (V.str z), some (V.int (0 + (l0.length : Int) + 1)), some (V.ref p), some (V.ref st), some (V.ref pc), some (V.str l0), some (V.ref w), none, none, none, none] = _
              rw [offs_succ (ls := l0 :: ls) (i := 0) rfl, offs_zero]
              simp
            · exact ⟨[], rfl, by simp, fun m a x h => by simp at h⟩
            · exact ⟨[], [], rfl, by simp, by simp, fun m a b x h => by simp at h⟩
            · exact fun m x h => absurd h (Nat.not_lt_zero _)
          · have hM : headM l0 = none := by rw [nums_headM ew, if_neg h0]
            exact ite_t (nd_f fun q => h0 (V.str.inj q)) (ite_t rfl (bad _ _ ((sm.trans sw).trans s) hM))
      | succ j =>
        obtain ⟨sm, hd, S, Pn, stv, pcv, y5, y6, est, epc, hM, ehd, hd1, hd2, rfl, rst, rpc, hok, hj⟩ := hinv
        have hlj : ls[j]? = some l := hl1
        have hj' : j < ls.length := (List.getElem?_eq_some_iff.mp hlj).1
        have hle := ok_le hj hok
        obtain ⟨S', P', e', hS1, hS8, hP⟩ := headM_some hM
        have eS : S' = S := by have := (List.cons.inj e').1; omega
        have eP : P' = Pn := by have := (List.cons.inj (List.cons.inj e').2).1; omega
        subst eS
        subst eP
        have lst : stv.length = min j S' := by obtain ⟨as, e, le, _⟩ := rst; rw [e, List.length_map, le]
        have lpc : pcv.length = j - S' := by obtain ⟨ts, qs, e, le, _⟩ := rpc; rw [e, List.length_map, le]
        refine ⟨_, rfl, ⟨l, rfl⟩, l, _, rfl, rfl, by decide +kernel, big6 (by omega), fun w nw => ?_⟩
        have sw : Same H' (upd H' w (.lst ((words l).map V.str))) := same_upd nw
        have ewd : (upd H' w (.lst ((words l).map V.str))) w = some (.lst ((words l).map V.str)) := upd_same
        show tSeq _ _ _ _ (upd H' w (.lst ((words l).map V.str)))
        generalize upd H' w (.lst ((words l).map V.str)) = H3 at sw ewd ⊢
        refine ⟨_, rfl, rfl, _, rfl, ite_f (d_f (by simp)) ?_⟩
        have bad : ∀ H4, Same H H4 → lineOk S' P' (j + 1) l = false → tRet (tLst (tCons (tC (V.str (Str.ofString "bad"))) (tCons (tVar 1) tNil))) { nx := fun x H' => Q V.non H', rt := Q } [some (.str z), some (.int (offs (l0 :: ls) (j + 1) : Nat)), some (.ref hd), some (.ref st), some (.ref pc), some (.str l), some (.ref w), none, none, none, none] H4 := fun H4 s hn =>
          ⟨_, rfl, by show 2 ≤ sizeLine; decide, fun r nr => qb _ r _ (s.trans (same_upd nr)) upd_same (readM_line el hM hok hlj hn)⟩
        have next : ∀ H4 stv' pcv', Same H H4 → But2 st pc H3 H4 → H4 st = some (.lst stv') → H4 pc = some (.lst pcv') → lineOk S' P' (j + 1) l = true → StRep H4 st pc ls (min (j + 1) S') stv' → PcRep H4 S' ls (j + 1 - S') pcv' →
            LInv H z l0 ls st pc (j + 1 + 1) [some (.str z), some (.int ((offs (l0 :: ls) (j + 1) : Nat) + (l.length : Int) + 1)), some (.ref hd), some (.ref st), some (.ref pc), some (.str l), some (.ref w), none, none, none, none] H4 ∧ H4 c = some (.lst ((l0 :: ls).map V.str)) := fun H4 stv' pcv' s b4 e1 e2 ho r1 r2 => by
          refine ⟨⟨s, hd, S', P', stv', pcv', some (.str l), some (.ref w), e1, e2, hM, b4 _ _ hd1 hd2 (sw _ _ ehd), hd1, hd2, ?_, r1, r2, ok_snoc hok hlj ho, hj'⟩, b4 _ _ cst cpc (sw _ _ ec2)⟩
          rw [offs_succ (ls := l0 :: ls) (i := j + 1) hl1]
          simp
        refine ⟨_, rfl, _, rfl, _, rfl, _, rfl, w, hd, st, pc, words l, S', P', stv, pcv, rfl, .inl (.inl ewd), by rw [ew]; simp, fun x hx => Nat.le_trans (words_mem hx) (by omega), .inl (.inl (sw _ _ ehd)), sw _ _ est, sw _ _ epc, by omega, by omega, fun hlt => ⟨fun H4 s4' hn => ?_, fun H4 p ns b4 np ep est4 hn => ?_⟩, fun hlt => ⟨fun H4 s4' hn => ?_, fun H4 p q n l2 b4 ep eq epc4 hp hn => ?_⟩⟩
        · refine ⟨false, rfl, ite_t rfl (bad _ ((sm.trans sw).trans s4') ?_)⟩
          rw [lineOk_store (by omega), storeM_W, hn]
          rfl
        · have b2 : But2 st pc H3 H4 := b4.two1
          have e1 : storeV l = ns := storeV_of (by rw [storeM_W]; exact hn)
          have pst : p ≠ st := fun e => by rw [e, sw _ _ est] at np; cases np
          have ppc : p ≠ pc := fun e => by rw [e, sw _ _ epc] at np; cases np
          have epc4 : H4 pc = some (.lst pcv) := b4 _ _ (Ne.symm hne) (sw _ _ epc)
          refine ⟨true, rfl, ite_f (by decide) ⟨_, rfl, _, rfl, l, rfl, big6 (by omega), _, _, rfl, rfl, _, 1, rfl, rfl, next _ _ _ (But2.out (sm.trans sw) b2 nst npc') b2 est4 epc4 ?_ ?_ ?_⟩⟩
          · rw [lineOk_store (by omega), storeM_W, hn]
            rfl
          · have e2 : min (j + 1) S' = min j S' + 1 := by omega
            rw [e2]
            refine ((rst.but (But2.of sw)).but b2).snoc ?_ (by rw [e1]; exact ep) pst ppc
            rw [show min j S' = j by omega]
            exact hlj
          · have e2 : j + 1 - S' = j - S' := by omega
            rw [e2]
            exact (rpc.but (But2.of sw) est epc).but b2 (sw _ _ est) (sw _ _ epc)
        · refine ⟨false, rfl, ite_t rfl (bad _ ((sm.trans sw).trans s4') ?_)⟩
          rw [lineOk_piece (by omega)]
          rcases hn with hn | hn
          · rw [decide_eq_false (by omega)]
            rfl
          · rw [pieceM_W, hn, Bool.and_comm]
            rfl
        · have b2 : But2 st pc H3 H4 := b4.two2
          have e1 : pieceV S' l = (n, l2) := pieceV_of (by rw [pieceM_W]; exact hn)
          have est4 : H4 st = some (.lst stv) := b4 _ _ hne (sw _ _ est)
          refine ⟨true, rfl, ite_f (by decide) ⟨_, rfl, _, rfl, l, rfl, big6 (by omega), _, _, rfl, rfl, _, 1, rfl, rfl, next _ _ _ (But2.out (sm.trans sw) b2 nst npc') b2 est4 epc4 ?_ ?_ ?_⟩⟩
          · rw [lineOk_piece (by omega), pieceM_W, hn, decide_eq_true (by omega)]
            rfl
          · have e2 : min (j + 1) S' = min j S' := by omega
            rw [e2]
            exact (rst.but (But2.of sw)).but b2
          · have e2 : j + 1 - S' = j - S' + 1 := by omega
            rw [e2]
            refine ((rpc.but (But2.of sw) est epc).but b2 (sw _ _ est) (sw _ _ epc)).snoc ?_ (by rw [e1]; exact ep) (by rw [e1]; exact eq)
            rw [show S' + (j - S') = j by omega]
            exact hlj
    · obtain ⟨hinv, ec2⟩ := pv
      have e : ((l0 :: ls).map V.str).length = ls.length + 1 := by simp
      rw [e] at hinv
      obtain ⟨sm, hd, S, Pn, stv, pcv, y5, y6, est, epc, hM, ehd, hd1, hd2, rfl, rst, rpc, hok, hj⟩ := hinv
      have hok' : ∀ m x, ls[m]? = some x → lineOk S Pn (m + 1) x = true := fun m x hx => hok m x (List.getElem?_eq_some_iff.mp hx).1 hx
      have lst : stv.length = min ls.length S := by obtain ⟨as, e, le, _⟩ := rst; rw [e, List.length_map, le]
      have lpc : pcv.length = ls.length - S := by obtain ⟨ts, qs, e, le, _⟩ := rpc; rw [e, List.length_map, le]
      have short : ls.length < S + Pn → tRet (tLst (tCons (tC (V.str (Str.ofString "bad"))) (tCons (tCB (fun xs H Q => ∃ z, xs = [V.str z] ∧ z.length ≤ sizeLine ∧ Q (V.int z.length) H) (tCons (tVar 0) tNil)) tNil))) { nx := fun x H' => Q V.non H', rt := Q } [some (.str z), some (.int (offs (l0 :: ls) (ls.length + 1) : Nat)), some (.ref hd), some (.ref st), some (.ref pc), y5, y6, none, none, none, none] H2 := fun hs =>
        ⟨_, rfl, z, rfl, big6 (by omega), by show 2 ≤ sizeLine; decide, fun r nr => qb _ r _ (sm.trans (same_upd nr)) upd_same (readM_short el hM hok' hs)⟩
      refine ⟨_, rfl, st, _, rfl, .inl (.inl (.inl est)), _, rfl, hd, _, 0, _, rfl, rfl, .inl (.inl ehd), atI_nat (j := 0) rfl, _, _, rfl, rfl, _, rfl, ?_⟩
      by_cases h1 : stv.length < S
      · exact ite_t (d_t (by omega)) (ite_t rfl (short (by omega)))
      · refine ite_f (d_f (by omega)) ?_
        refine ⟨_, rfl, pc, _, rfl, .inl (.inl (.inl epc)), _, rfl, hd, _, 1, _, rfl, rfl, .inl (.inl ehd), atI_nat (j := 1) rfl, _, _, rfl, rfl, _, rfl, ?_⟩
        by_cases h2 : pcv.length < Pn
        · exact ite_t (d_t (by omega)) (short (by omega))
        · refine ite_f (d_f (by omega)) ?_
          have hlong : ¬ ls.length < S + Pn := by
            have := headM_some hM
            omega
          have hl9 : ls.length ≤ 800001 := by have := hlen; rw [List.length_cons] at this; omega
          obtain ⟨as, eas, las, fas⟩ := rst
          obtain ⟨ts, qs, ets, lts, lqs, fts⟩ := rpc
          have lS : min ls.length S = S := by omega
          rw [lS] at las
          subst eas
          subst ets
          -- the stores' columns
          refine ⟨3, rfl, by decide, by decide, fun D1 n1 => ?_⟩
          refine lc_rel (walk_range (lo := 0) (n := 3)) (RelC fun i => (ls.take S).map fun l => V.int ((storeV l).getD i 0)) (by decide) n1 (RelC.stay) (fun _ _ => trivial) (fun i x H3 H' Q1 hi sm3 yy k1 => ?_) (fun H3 ys sm3 e3 ly hy => ?_)
          · obtain ⟨rfl, rfl⟩ := yy
            refine ⟨rfl, _, rfl, st, rfl, ⟨_, .inl (.inl (sm3 _ _ est))⟩, fun D2 n2 => ?_⟩
            refine lc_to (walk_list (K := K) (a := st) (xs := as.map V.ref)) ((ls.take S).map fun l => V.int ((storeV l).getD i 0)) (by simp; omega) (by rw [List.length_map]; omega) n2 (fun H' s => .inl (.inl (s _ _ (sm3 _ _ est)))) (fun m x H4 H5 y Q2 hm s4 yy hy k2 => ?_) (fun H4 s4 e4 => ?_)
            · obtain ⟨rfl, hx⟩ := yy
              obtain ⟨a, ha, rfl⟩ := map_ref_get hx
              have hm' : m < S := by rw [List.length_map] at hm; omega
              have hl2 : ls[m]? = some (ls[m]'(by omega)) := List.getElem?_eq_getElem (by omega)
              have hl3 : (ls.take S)[m]? = some (ls[m]'(by omega)) := by rw [List.getElem?_take_of_lt hm']; exact hl2
              have ey := get_map hy hl3
              subst ey
              obtain ⟨q1, q2, q3, e5⟩ := store3 hm' (hok' m _ hl2)
              have e6 := s4 _ _ (sm3 _ _ (fas m a _ ha hl2).1)
              rw [e5] at e6 k2
              exact ⟨rfl, _, rfl, _, rfl, a, _, _, _, rfl, rfl, .inl (.inl e6), at3 hi, k2 _ (Same.refl _)⟩
            · exact ⟨D2, _, rfl, .inl ⟨.inl (.inl e4), fun T nT => k1 _ _ (s4.trans (same_upd nT)) ⟨T, rfl, upd_same⟩⟩⟩
          · obtain ⟨y0, y1, y2, rfl⟩ := three_of ly
            obtain ⟨r0, rfl, g0⟩ := hy 0 _ rfl
            obtain ⟨r1, rfl, g1⟩ := hy 1 _ rfl
            obtain ⟨r2, rfl, g2⟩ := hy 2 _ rfl
            refine ⟨D1, _, rfl, .inl ⟨.inl (.inl e3), fun C nC => ?_⟩⟩
            have sC := same_upd (o := .tup [.ref r0, .ref r1, .ref r2]) nC
            have sA := sm3.trans sC
            have epcA := sA _ _ epc
            -- the wishes
            refine ⟨_, rfl, _, rfl, pc, rfl, ⟨_, .inl (.inl epcA)⟩, fun D3 n3 => ?_⟩
            refine lc_to (walk_list (K := K) (a := pc) (xs := ts.map V.ref)) ((ls.drop S).map fun l => V.int (pieceV S l).1) (by simp; omega) (by rw [List.length_map]; omega) n3 (fun H' s => .inl (.inl (s _ _ epcA))) (fun m x H4 H5 y Q2 hm s4 yy hy2 k2 => ?_) (fun H4 s4 e4 => ?_)
            · obtain ⟨rfl, hx⟩ := yy
              obtain ⟨t, ht, rfl⟩ := map_ref_get hx
              have hm' : m < ls.length - S := by rw [List.length_map] at hm; omega
              have hq : qs[m]? = some (qs[m]'(by omega)) := List.getElem?_eq_getElem (by omega)
              have hl2 : ls[S + m]? = some (ls[S + m]'(by omega)) := List.getElem?_eq_getElem (by omega)
              have hl3 : (ls.drop S)[m]? = some (ls[S + m]'(by omega)) := by rw [List.getElem?_drop]; exact hl2
              have ey := get_map hy2 hl3
              subst ey
              have e6 := s4 _ _ (sA _ _ (fts m t _ _ ht hq hl2).1)
              exact ⟨rfl, _, rfl, t, _, 0, _, rfl, rfl, .inl (.inl e6), atI_nat (j := 0) rfl, k2 _ (Same.refl _)⟩
            · refine ⟨D3, _, rfl, .inl ⟨.inl (.inl e4), fun Wa nW => ?_⟩⟩
              have sW := same_upd (o := .tup ((ls.drop S).map fun l => V.int (pieceV S l).1)) nW
              have sB := (sA.trans s4).trans sW
              have epcB := sB _ _ epc
              -- the lots
              refine ⟨_, rfl, pc, rfl, ⟨_, .inl (.inl epcB)⟩, fun D4 n4 => ?_⟩
              refine lc_to (walk_list (K := K) (a := pc) (xs := ts.map V.ref)) (qs.map V.ref) (by simp; omega) (by rw [List.length_map]; omega) n4 (fun H' s => .inl (.inl (s _ _ epcB))) (fun m x H5 H6 y Q2 hm s5 yy hy2 k2 => ?_) (fun H5 s5 e5 => ?_)
              · obtain ⟨rfl, hx⟩ := yy
                obtain ⟨t, ht, rfl⟩ := map_ref_get hx
                have hm' : m < ls.length - S := by rw [List.length_map] at hm; omega
                have hq : qs[m]? = some (qs[m]'(by omega)) := List.getElem?_eq_getElem (by omega)
                have hl2 : ls[S + m]? = some (ls[S + m]'(by omega)) := List.getElem?_eq_getElem (by omega)
                have ey := get_map hy2 hq
                subst ey
                have e6 := s5 _ _ (sB _ _ (fts m t _ _ ht hq hl2).1)
                exact ⟨rfl, _, rfl, t, _, 1, _, rfl, rfl, .inl (.inl e6), atI_nat (j := 1) rfl, k2 _ (Same.refl _)⟩
              · refine ⟨D4, _, rfl, .inl ⟨.inl (.inl e5), fun Pa nP => ?_⟩⟩
                have sP := same_upd (o := .tup (qs.map V.ref)) nP
                refine ⟨by show 4 ≤ sizeLine; decide, fun r nr => ?_⟩
                have sR := same_upd (o := .lst [.str "good", .ref C, .ref Wa, .ref Pa]) nr
                have sC2 := (((s4.trans sW).trans s5).trans sP).trans sR
                refine qg _ r C Wa Pa ⟨(ls.take S).map storeV, (ls.drop S).map (pieceV S)⟩ (sm.trans (sA.trans sC2)) upd_same ?_ ?_ ?_ (readM_good el hM hok' hlong)
                · refine ⟨r0, r1, r2, sC2 _ _ upd_same, ?_, ?_, ?_⟩
                  · rw [List.map_map]
                    exact sC2 _ _ (sC _ _ g0)
                  · rw [List.map_map]
                    exact sC2 _ _ (sC _ _ g1)
                  · rw [List.map_map]
                    exact sC2 _ _ (sC _ _ g2)
                · show _ = some (HO.tup (((ls.drop S).map (pieceV S)).map fun p => V.int p.1))
                  rw [List.map_map]
                  exact sR _ _ (sP _ _ (s5 _ _ upd_same))
                · refine ⟨qs, sR _ _ upd_same, by simp; omega, fun i q p hq hp => ?_⟩
                  have hi : i < ls.length - S := by have := (List.getElem?_eq_some_iff.mp hq).1; omega
                  have ht : ts[i]? = some (ts[i]'(by omega)) := List.getElem?_eq_getElem (by omega)
                  have hl2 : ls[S + i]? = some (ls[S + i]'(by omega)) := List.getElem?_eq_getElem (by omega)
                  have hl3 : (ls.drop S)[i]? = some (ls[S + i]'(by omega)) := by rw [List.getElem?_drop]; exact hl2
                  have ep := get_map hp hl3
                  subst ep
                  exact sR _ _ (sP _ _ (s5 _ _ (sB _ _ (fts i _ q _ ht hq hl2).2)))

def sp_is_from_to : Sp := fun vs H Q _ => ∃ (n a b : Int), vs = [.int n, .int a, .int b] ∧ a ≤ n ∧ n ≤ b ∧ Q (.bl true) H
theorem c_is_from_to {k : Nat} (B : Blt mg) (D : DefAt K mg "is_from_to" s_is_from_to) : Callee P w K mg base CX0 (k + 1) "is_from_to" ["value", "least", "most"] sp_is_from_to := by
  obtain ⟨f, fd, F, g⟩ := D
  refine ⟨f, fd, g, F.kp, F.binds (fun _ _ _ _ _ _ us hl => match us, hl with | [_, _, _], _ => rfl), F.ok sc_is_from_to (fun vs H Q E h => ?_) (fun cdv A outer s H vs Q E hr h => ?_)⟩
  · obtain ⟨n, a, b, rfl, _⟩ := h
    rfl
  · obtain ⟨n, a, b, rfl, hq⟩ := h
    -- slots 0 value, 1 least, 2 most
    refine ⟨_, pss_one (ps_ret (pe_and (pe_callB call_isi (by rfl) B.n_isinstance boot_isinstance (pa_cons (pv 0) (pa_cons (pe_bltn (v := .ty "int") (by rfl) B.n_int boot_int rfl) pa_nil))) (pe_and (pe_not (pe_callB call_isi (by rfl) B.n_isinstance boot_isinstance (pa_cons (pv 0) (pa_cons (pe_bltn (v := .ty "bool") (by rfl) B.n_bool boot_bool rfl) pa_nil)))) (pe_one (pe_chain op_le op_le (pv 1) (pv 0) (pv 2)))))), ?_⟩
    obtain ⟨h1, h2, q⟩ := hq
    refine ⟨_, rfl, .int n, .ty "int", .type "int", _, true, rfl, .ty _, .base (.int n), kit_ty (by decide +kernel), true, rfl, ite_t rfl ?_⟩
    refine ⟨_, rfl, .int n, .ty "bool", .type "int", _, false, rfl, .ty _, .base (.int n), kit_ty (by decide +kernel), false, rfl, true, rfl, ite_t rfl ?_⟩
    refine ⟨_, rfl, _, rfl, _, _, rfl, rfl, _, rfl, ite_t (d_t h1) ⟨_, rfl, _, _, rfl, rfl, ?_⟩⟩
    have q' : Q (.bl (decide (n ≤ b))) H := by rw [decide_eq_true h2]; exact q
    exact q'

/-- what the top has written of the class Cluster -/
structure ClsTxt (K : PySem.W.Frag) (mg : Str → Option Value) (cC fI : Addr) : Prop where
  g : mg "Cluster" = some (.ref cC)
  cl : Cls K cC
  nRacks : NoAttr K cC "racks"
  nRooms : NoAttr K cC "rooms"
  nRates : NoAttr K cC "rates"
  nCount : NoAttr K cC "store_count"
  mak : Mk K cC fI
  ha : PySem.W.findIn K (.ref cC) "__class__" = some (some (.builtin "object.__class__"))
  hn : PySem.W.specialIn K (.builtin "object.__class__") "__get__" = some (some (.builtin "getset_descriptor.__get__"))
  htk : PySem.W.takesIn K (.builtin "object.__class__") = some true
  hm : PySem.W.mroIn K cC (.type "object") = some true
  kit : PySem.W.kitOne K (.ref cC) (.ref cC) = some true
/-- a cluster at x: its fields, each a tuple -/
def ClAt (H : Hp) (cC x : Addr) (r1 r2 r3 : List Int) : Prop := ∃ (dx : Addr) (fs : List (Str × V)) (p q r : Addr), H x = some (.ins cC dx fs) ∧ fs.lookup ("racks" : Str) = some (.ref p) ∧ fs.lookup ("rooms" : Str) = some (.ref q) ∧ fs.lookup ("rates" : Str) = some (.ref r) ∧ fs.lookup ("store_count" : Str) = some (.int (r1.length : Nat)) ∧
  H p = some (.tup (r1.map V.int)) ∧ H q = some (.tup (r2.map V.int)) ∧ H r = some (.tup (r3.map V.int))
theorem ClAt.same {H H' : Hp} {cC x : Addr} {r1 r2 r3 : List Int} (h : ClAt H cC x r1 r2 r3) (s : Same H H') : ClAt H' cC x r1 r2 r3 :=
  let ⟨dx, fs, p, q, r, e, a, b, c, d, e1, e2, e3⟩ := h
  ⟨dx, fs, p, q, r, s _ _ e, a, b, c, d, s _ _ e1, s _ _ e2, s _ _ e3⟩
theorem kit_lt : PySem.W.kitAny K (.type "list") [.type "list", .type "tuple"] = some true := kitAny_cons (b := true) (kit_ty (by decide +kernel)) (fun z => nomatch z) (fun _ => rfl)
def sp_Cluster___init (cC : Addr) : Sp := fun vs H Q _ => ∃ (x a b c dx : Addr) (r1 r2 r3 : List Int), vs = [.ref x, .ref a, .ref b, .ref c] ∧ H x = some (.ins cC dx []) ∧ H a = some (.lst (r1.map V.int)) ∧ H b = some (.lst (r2.map V.int)) ∧ H c = some (.lst (r3.map V.int)) ∧
  1 ≤ r1.length ∧ r1.length ≤ 8 ∧ r2.length = r1.length ∧ r3.length = r1.length ∧ (∀ n ∈ r1, 0 ≤ n ∧ n ≤ 99) ∧ (∀ n ∈ r2, 0 ≤ n ∧ n ≤ 99) ∧ (∀ n ∈ r3, 1 ≤ n ∧ n ≤ 8) ∧
  ∀ H', But x H H' → ClAt H' cC x r1 r2 r3 → Q .non H'
theorem enum_in {l : List Int} {i : Nat} {x : V} (h : (l.map V.int)[i]? = some x) {a b : Int} (hl : ∀ n ∈ l, a ≤ n ∧ n ≤ b) : ∃ n, x = .int n ∧ a ≤ n ∧ n ≤ b := by
  obtain ⟨n, hn, e⟩ := map_int_get h
  exact ⟨n, e, hl n (List.mem_of_getElem? hn)⟩
theorem ok_Cluster_init {k : Nat} {cC fI f : Addr} {fd : FuncData} (B : Blt mg) (T : ClsTxt K mg cC fI) (F : Fun K "__init__" "Cluster.__init__" s_Cluster___init f fd) (C_is_from_to : Callee P w K mg base CX0 k "is_from_to" ["value", "least", "most"] sp_is_from_to) :
    FnOk P w K mg base CX0 (k + 1) f fd ["self", "racks", "rooms", "rates"] (sp_Cluster___init cC) := by
  refine F.ok sc_Cluster___init (fun vs H Q E h => ?_) (fun cdv A outer s H vs Q E hr h => ?_)
  · obtain ⟨_, _, _, _, _, _, _, _, rfl, _⟩ := h
    rfl
  · obtain ⟨x, a, b, c, dx, r1, r2, r3, rfl, ex, ea, eb, ec, h1, h8, l2, l3, b1, b2, b3, q⟩ := h
    refine ⟨_,
-- Cluster.__init__: slots 0 self, 1 racks, 2 rooms, 3 rates, 4 store, 5 rack, 6 room, 7 rate
pss_cons (ps_if (PW.pt (pw_or (pt_not (pt_val (pe_callB call_isiT (by rfl) B.n_isinstance boot_isinstance (pa_cons (pv 1) (pa_cons (pe_tup (pa_cons (pe_bltn (v := .ty "list") (by rfl) B.n_list boot_list rfl) (pa_cons (pe_bltn (v := .ty "tuple") (by rfl) B.n_tuple boot_tuple rfl) pa_nil))) pa_nil))))) (pw_or1 (pt_not (pt_chain op_le op_le (pe_int) (pe_callB call_len_seq (by rfl) B.n_len boot_len (pa_cons (pv 1) pa_nil)) (pe_const B.c_MOST_STORES (by rfl)))))))
    (pss_one (ps_never))
    pss_nil)
  (pss_cons (ps_for PassesOwn.never rfl (pi_enum (by rfl) B.n_enumerate (pa_cons (pv 1) pa_nil)) (pg_tup rfl (pgs_cons (pg_name (i := 4) sc_Cluster___init.nd rfl (.inl rfl)) (pgs_cons (pg_name (i := 5) sc_Cluster___init.nd rfl (.inl rfl)) pgs_nil)))
    (pss_one (ps_if (pt_not (pt_val (pe_cal C_is_from_to hr (by rfl) (pa_cons (pv 5) (pa_cons (pe_int) (pa_cons (pe_const B.c_MOST_NUMBER (by rfl)) pa_nil))))))
      (pss_one (ps_never))
      pss_nil)))
  (pss_cons (ps_if (PW.pt (pw_or (pt_not (pt_val (pe_callB call_isiT (by rfl) B.n_isinstance boot_isinstance (pa_cons (pv 2) (pa_cons (pe_tup (pa_cons (pe_bltn (v := .ty "list") (by rfl) B.n_list boot_list rfl) (pa_cons (pe_bltn (v := .ty "tuple") (by rfl) B.n_tuple boot_tuple rfl) pa_nil))) pa_nil))))) (pw_or1 (pt_cmpR op_ne (pe_callB call_len_seq (by rfl) B.n_len boot_len (pa_cons (pv 2) pa_nil)) (pe_callB call_len_seq (by rfl) B.n_len boot_len (pa_cons (pv 1) pa_nil)) (nomark _)))))
    (pss_one (ps_never))
    pss_nil)
  (pss_cons (ps_for PassesOwn.never rfl (pi_enum (by rfl) B.n_enumerate (pa_cons (pv 2) pa_nil)) (pg_tup rfl (pgs_cons (pg_name (i := 4) sc_Cluster___init.nd rfl (.inl rfl)) (pgs_cons (pg_name (i := 6) sc_Cluster___init.nd rfl (.inl rfl)) pgs_nil)))
    (pss_one (ps_if (pt_not (pt_val (pe_cal C_is_from_to hr (by rfl) (pa_cons (pv 6) (pa_cons (pe_int) (pa_cons (pe_const B.c_MOST_NUMBER (by rfl)) pa_nil))))))
      (pss_one (ps_never))
      pss_nil)))
  (pss_cons (ps_if (PW.pt (pw_or (pt_not (pt_val (pe_callB call_isiT (by rfl) B.n_isinstance boot_isinstance (pa_cons (pv 3) (pa_cons (pe_tup (pa_cons (pe_bltn (v := .ty "list") (by rfl) B.n_list boot_list rfl) (pa_cons (pe_bltn (v := .ty "tuple") (by rfl) B.n_tuple boot_tuple rfl) pa_nil))) pa_nil))))) (pw_or1 (pt_cmpR op_ne (pe_callB call_len_seq (by rfl) B.n_len boot_len (pa_cons (pv 3) pa_nil)) (pe_callB call_len_seq (by rfl) B.n_len boot_len (pa_cons (pv 1) pa_nil)) (nomark _)))))
    (pss_one (ps_never))
    pss_nil)
  (pss_cons (ps_for PassesOwn.never rfl (pi_enum (by rfl) B.n_enumerate (pa_cons (pv 3) pa_nil)) (pg_tup rfl (pgs_cons (pg_name (i := 4) sc_Cluster___init.nd rfl (.inl rfl)) (pgs_cons (pg_name (i := 7) sc_Cluster___init.nd rfl (.inl rfl)) pgs_nil)))
    (pss_one (ps_if (pt_not (pt_val (pe_cal C_is_from_to hr (by rfl) (pa_cons (pv 7) (pa_cons (pe_int) (pa_cons (pe_const B.c_MOST_RATE (by rfl)) pa_nil))))))
      (pss_one (ps_never))
      pss_nil)))
  (pss_cons (ps_fld (pv 0) (pe_callTy call_tuple_of (by rfl) B.n_tuple boot_tuple (pa_cons (pv 1) pa_nil)) rfl)
  (pss_cons (ps_fld (pv 0) (pe_callTy call_tuple_of (by rfl) B.n_tuple boot_tuple (pa_cons (pv 2) pa_nil)) rfl)
  (pss_cons (ps_fld (pv 0) (pe_callTy call_tuple_of (by rfl) B.n_tuple boot_tuple (pa_cons (pv 3) pa_nil)) rfl)
  (pss_one (ps_fld (pv 0) (pe_callB call_len_seq (by rfl) B.n_len boot_len (pa_cons (pv 1) pa_nil)) rfl))))))))))
      , ?_⟩
    have mI : ∀ H', Same H H' → ∀ tp, H' tp = none → True := fun _ _ _ _ => trivial
    -- racks
    refine ⟨_, rfl, by show 2 ≤ sizeLine; decide, fun t1 n1 => ⟨.ref a, t1, [.ty "list", .ty "tuple"], .type "list", [.type "list", .type "tuple"], true, rfl, upd_same, .cons (.ty _) (.cons (.ty _) .nil), .base (.lst (same_upd n1 _ _ ea)), kit_lt, true, rfl, ite_f (by decide) ?_⟩⟩
    have s1 := same_upd (o := .tup [.ty "list", .ty "tuple"]) n1
    refine ⟨_, rfl, a, _, rfl, .inl (.inl (.inl (s1 _ _ ea))), 1, _, rfl, rfl, _, rfl, ite_t (d_t (by rw [List.length_map]; omega)) ⟨_, _, rfl, rfl, _, rfl, ite_f (nd_t (by rw [List.length_map]; omega)) ?_⟩⟩
    refine ⟨_, rfl, a, _, rfl, .inl (.inl (s1 _ _ ea)), for_it walk_enum (fun i σ H' => (∃ y4 y5, σ = [some (.ref x), some (.ref a), some (.ref b), some (.ref c), y4, y5, none, none]) ∧ Same H H') ⟨⟨none, none, rfl⟩, s1⟩ (fun i σ H' _ pv => .inl (.inl (pv.2 _ _ ea))) (fun i y σ H2 H' hi pv yy => ?_) (fun σ H2 pv => ?_)⟩
    · obtain ⟨⟨y4, y5, rfl⟩, sm⟩ := pv
      obtain ⟨T1, x1, x2, rfl, nT, rfl, g1, g2⟩ := yy
      obtain ⟨n, rfl, hn⟩ := enum_in g2 b1
      refine ⟨T1, _, rfl, .inl (.inl upd_same), rfl, _, _, rfl, _, _, rfl, rfl, ?_⟩
      refine ⟨_, rfl, n, 0, 99, rfl, hn.1, hn.2, true, rfl, ite_f (by decide) ⟨⟨_, _, rfl⟩, sm.trans (same_upd nT)⟩⟩
    obtain ⟨⟨y4, y5, rfl⟩, sm⟩ := pv
    -- rooms
    refine ⟨_, rfl, by show 2 ≤ sizeLine; decide, fun t1 n1 => ⟨.ref b, t1, [.ty "list", .ty "tuple"], .type "list", [.type "list", .type "tuple"], true, rfl, upd_same, .cons (.ty _) (.cons (.ty _) .nil), .base (.lst (same_upd n1 _ _ (sm _ _ eb))), kit_lt, true, rfl, ite_f (by decide) ?_⟩⟩
    have s2 := sm.trans (same_upd (o := .tup [.ty "list", .ty "tuple"]) n1)
    refine ⟨_, rfl, b, _, rfl, .inl (.inl (.inl (s2 _ _ eb))), _, rfl, a, _, rfl, .inl (.inl (.inl (s2 _ _ ea))), rfl, _, rfl, ite_f (nd_t (by rw [List.length_map, List.length_map, l2])) ?_⟩
    refine ⟨_, rfl, b, _, rfl, .inl (.inl (s2 _ _ eb)), for_it walk_enum (fun i σ H' => (∃ y4 y5 y6, σ = [some (.ref x), some (.ref a), some (.ref b), some (.ref c), y4, y5, y6, none]) ∧ Same H H') ⟨⟨_, _, none, rfl⟩, s2⟩ (fun i σ H' _ pv => .inl (.inl (pv.2 _ _ eb))) (fun i y σ H2 H' hi pv yy => ?_) (fun σ H2 pv => ?_)⟩
    · obtain ⟨⟨y4, y5, y6, rfl⟩, sm⟩ := pv
      obtain ⟨T1, x1, x2, rfl, nT, rfl, g1, g2⟩ := yy
      obtain ⟨n, rfl, hn⟩ := enum_in g2 b2
      refine ⟨T1, _, rfl, .inl (.inl upd_same), rfl, _, _, rfl, _, _, rfl, rfl, ?_⟩
      refine ⟨_, rfl, n, 0, 99, rfl, hn.1, hn.2, true, rfl, ite_f (by decide) ⟨⟨_, _, _, rfl⟩, sm.trans (same_upd nT)⟩⟩
    obtain ⟨⟨y4, y5, y6, rfl⟩, sm⟩ := pv
    -- rates
    refine ⟨_, rfl, by show 2 ≤ sizeLine; decide, fun t1 n1 => ⟨.ref c, t1, [.ty "list", .ty "tuple"], .type "list", [.type "list", .type "tuple"], true, rfl, upd_same, .cons (.ty _) (.cons (.ty _) .nil), .base (.lst (same_upd n1 _ _ (sm _ _ ec))), kit_lt, true, rfl, ite_f (by decide) ?_⟩⟩
    have s3 := sm.trans (same_upd (o := .tup [.ty "list", .ty "tuple"]) n1)
    refine ⟨_, rfl, c, _, rfl, .inl (.inl (.inl (s3 _ _ ec))), _, rfl, a, _, rfl, .inl (.inl (.inl (s3 _ _ ea))), rfl, _, rfl, ite_f (nd_t (by rw [List.length_map, List.length_map, l3])) ?_⟩
    refine ⟨_, rfl, c, _, rfl, .inl (.inl (s3 _ _ ec)), for_it walk_enum (fun i σ H' => (∃ y4 y5 y6 y7, σ = [some (.ref x), some (.ref a), some (.ref b), some (.ref c), y4, y5, y6, y7]) ∧ Same H H') ⟨⟨_, _, _, none, rfl⟩, s3⟩ (fun i σ H' _ pv => .inl (.inl (pv.2 _ _ ec))) (fun i y σ H2 H' hi pv yy => ?_) (fun σ H2 pv => ?_)⟩
    · obtain ⟨⟨y4, y5, y6, y7, rfl⟩, sm⟩ := pv
      obtain ⟨T1, x1, x2, rfl, nT, rfl, g1, g2⟩ := yy
      obtain ⟨n, rfl, hn⟩ := enum_in g2 b3
      refine ⟨T1, _, rfl, .inl (.inl upd_same), rfl, _, _, rfl, _, _, rfl, rfl, ?_⟩
      refine ⟨_, rfl, n, 1, 8, rfl, hn.1, hn.2, true, rfl, ite_f (by decide) ⟨⟨_, _, _, _, rfl⟩, sm.trans (same_upd nT)⟩⟩
    obtain ⟨⟨y4, y5, y6, y7, rfl⟩, sm⟩ := pv
    have ax : a ≠ x := fun e => by rw [e, ex] at ea; cases ea
    have bx : b ≠ x := fun e => by rw [e, ex] at eb; cases eb
    have cx : c ≠ x := fun e => by rw [e, ex] at ec; cases ec
    -- self.racks = tuple(racks)
    refine ⟨_, rfl, a, _, rfl, .inl ⟨.inl (.inl (sm _ _ ea)), fun p np => ?_⟩⟩
    have sp := sm.trans (same_upd (o := .tup (r1.map V.int)) np)
    have ep : (upd H2 p (.tup (r1.map V.int))) p = some (.tup (r1.map V.int)) := upd_same
    show tVar 0 _ (upd H2 p (.tup (r1.map V.int))) _
    generalize upd H2 p (.tup (r1.map V.int)) = H3 at sp ep ⊢
    have px : p ≠ x := fun e => by rw [e, sp _ _ ex] at ep; cases ep
    refine ⟨_, rfl, x, cC, dx, [], rfl, sp _ _ ex, T.cl, T.nRacks, by decide, ?_⟩
    have k1 : But x H (upd H3 x (.ins cC dx (putF "racks" (.ref p) []))) := (But.of_same sp).upd
    -- self.rooms
    refine ⟨_, rfl, b, _, rfl, .inl ⟨.inl (.inl (k1 _ _ bx eb)), fun q' nq => ?_⟩⟩
    have sq := same_upd (o := .tup (r2.map V.int)) nq
    have eq : (upd (upd H3 x (.ins cC dx (putF "racks" (.ref p) []))) q' (.tup (r2.map V.int))) q' = some (.tup (r2.map V.int)) := upd_same
    have ex2 : (upd H3 x (.ins cC dx (putF "racks" (.ref p) []))) x = some (.ins cC dx (putF "racks" (.ref p) [])) := upd_same
    have ep2 : (upd H3 x (.ins cC dx (putF "racks" (.ref p) []))) p = some (.tup (r1.map V.int)) := by rw [upd_ne px]; exact ep
    have k2 := k1.trans (But.of_same (a := x) sq)
    have ex3 := sq _ _ ex2
    have ep3 := sq _ _ ep2
    show tVar 0 _ (upd (upd H3 x (.ins cC dx (putF "racks" (.ref p) []))) q' (.tup (r2.map V.int))) _
    generalize upd (upd H3 x (.ins cC dx (putF "racks" (.ref p) []))) q' (.tup (r2.map V.int)) = H4 at eq k2 ex3 ep3 ⊢
    have qx : q' ≠ x := fun e => by rw [e, ex3] at eq; cases eq
    refine ⟨_, rfl, x, cC, dx, _, rfl, ex3, T.cl, T.nRooms, Nat.lt_of_le_of_lt (length_putF _ _ _) (by decide), ?_⟩
    have k3 : But x H (upd H4 x (.ins cC dx (putF "rooms" (.ref q') (putF "racks" (.ref p) [])))) := k2.upd
    have ex4 : (upd H4 x (.ins cC dx (putF "rooms" (.ref q') (putF "racks" (.ref p) [])))) x = some (.ins cC dx (putF "rooms" (.ref q') (putF "racks" (.ref p) []))) := upd_same
    have ep4 : (upd H4 x (.ins cC dx (putF "rooms" (.ref q') (putF "racks" (.ref p) [])))) p = some (.tup (r1.map V.int)) := by rw [upd_ne px]; exact ep3
    have eq4 : (upd H4 x (.ins cC dx (putF "rooms" (.ref q') (putF "racks" (.ref p) [])))) q' = some (.tup (r2.map V.int)) := by rw [upd_ne qx]; exact eq
    generalize hfs : putF "rooms" (.ref q') (putF "racks" (.ref p) []) = fs2 at k3 ex4 ep4 eq4 ⊢
    have lf1 : fs2.lookup ("racks" : Str) = some (.ref p) := by rw [← hfs, lookup_putF, if_neg (by decide +kernel), lookup_putF, if_pos rfl]
    have lf2 : fs2.lookup ("rooms" : Str) = some (.ref q') := by rw [← hfs, lookup_putF, if_pos rfl]
    have len2 : fs2.length ≤ 2 := by rw [← hfs]; exact Nat.le_trans (length_putF _ _ _) (Nat.succ_le_succ (length_putF _ _ _))
    -- self.rates
    refine ⟨_, rfl, c, _, rfl, .inl ⟨.inl (.inl (k3 _ _ cx ec)), fun r' nr => ?_⟩⟩
    have sr := same_upd (o := .tup (r3.map V.int)) nr
    have er : (upd (upd H4 x (.ins cC dx fs2)) r' (.tup (r3.map V.int))) r' = some (.tup (r3.map V.int)) := upd_same
    have k4 := k3.trans (But.of_same (a := x) sr)
    have ex5 := sr _ _ ex4
    have ep5 := sr _ _ ep4
    have eq5 := sr _ _ eq4
    show tVar 0 _ (upd (upd H4 x (.ins cC dx fs2)) r' (.tup (r3.map V.int))) _
    generalize upd (upd H4 x (.ins cC dx fs2)) r' (.tup (r3.map V.int)) = H5 at er k4 ex5 ep5 eq5 ⊢
    have rx : r' ≠ x := fun e => by rw [e, ex5] at er; cases er
    refine ⟨_, rfl, x, cC, dx, _, rfl, ex5, T.cl, T.nRates, by omega, ?_⟩
    -- self.store_count
    have k5 : But x H (upd H5 x (.ins cC dx (putF "rates" (.ref r') fs2))) := k4.upd
    refine ⟨_, rfl, a, _, rfl, .inl (.inl (.inl (k5 _ _ ax ea))), _, rfl, x, cC, dx, _, rfl, upd_same, T.cl, T.nCount, by have := length_putF "rates" (.ref r') fs2; omega, ?_⟩
    refine q _ k5.upd ⟨dx, _, p, q', r', upd_same, ?_, ?_, ?_, ?_, ?_, ?_, ?_⟩
    · rw [lookup_putF, if_neg (by decide +kernel), lookup_putF, if_neg (by decide +kernel)]
      exact lf1
    · rw [lookup_putF, if_neg (by decide +kernel), lookup_putF, if_neg (by decide +kernel)]
      exact lf2
    · rw [lookup_putF, if_neg (by decide +kernel), lookup_putF, if_pos rfl]
    · rw [lookup_putF, if_pos rfl, List.length_map]
    · rw [upd_ne px, upd_ne px]
      exact ep5
    · rw [upd_ne qx, upd_ne qx]
      exact eq5
    · rw [upd_ne rx, upd_ne rx]
      exact er

def sN (n : Int) : Str := Str.ofString (toString n)
def clusterL (S P : Int) : Str := Str.ofString "cluster " ++ sN S ++ Str.ofString " " ++ sN P
def storeL (s : List Int) : Str := Str.ofString "store " ++ Str.join blank [sN (s.getD 0 0), sN (s.getD 1 0), sN (s.getD 2 0)]
def pieceL (p : Int × List Int) : Str := Str.ofString "piece " ++ sN p.1 ++ Str.ofString " " ++ lotT p.2
def linesW (st : List (List Int)) (ps : List (Int × List Int)) : List Str := clusterL (st.length : Nat) (ps.length : Nat) :: (st.map storeL ++ ps.map pieceL)
def writeM (st : List (List Int)) (ps : List (Int × List Int)) : Str := Str.join feed (linesW st ps)
/-- a world small enough to be written -/
structure Small (st : List (List Int)) (ps : List (Int × List Int)) : Prop where
  s8 : st.length ≤ 8
  p40 : ps.length ≤ 40
  sv : ∀ s ∈ st, ∀ k, 0 ≤ s.getD k 0 ∧ s.getD k 0 < 100
  pv : ∀ p ∈ ps, 0 ≤ p.1 ∧ p.1 < 100
  lv : ∀ p ∈ ps, p.2.length ≤ 100 ∧ ∀ n ∈ p.2, 0 ≤ n ∧ n < 100
theorem len_cl : (Str.ofString "cluster ").length = 8 := by decide +kernel
theorem len_st : (Str.ofString "store ").length = 6 := by decide +kernel
theorem len_pc : (Str.ofString "piece ").length = 6 := by decide +kernel
theorem len_bl : (Str.ofString " ").length = 1 := by decide +kernel
theorem sN_len {n : Int} (h0 : 0 ≤ n) (h1 : n < 100) : (sN n).length ≤ 2 := (str_small h0 h1).2
theorem three_len {a b c : Str} (ha : a.length ≤ 2) (hb : b.length ≤ 2) (hc : c.length ≤ 2) : tot [a, b, c] ≤ 9 := by
  rw [tot_cons, tot_cons, tot_cons, tot_nil]
  omega
theorem storeL_len {s : List Int} (h : ∀ k, 0 ≤ s.getD k 0 ∧ s.getD k 0 < 100) : (storeL s).length ≤ 15 := by
  unfold storeL
  rw [Str.length_append, len_st]
  have h1 := join_le sep_blank.len [sN (s.getD 0 0), sN (s.getD 1 0), sN (s.getD 2 0)]
  have h2 := three_len (sN_len (h 0).1 (h 0).2) (sN_len (h 1).1 (h 1).2) (sN_len (h 2).1 (h 2).2)
  have h3 : (Str.join blank [sN (s.getD 0 0), sN (s.getD 1 0), sN (s.getD 2 0)]).length ≤ 9 := Nat.le_trans h1 h2
  omega
theorem lotT_len {l : List Int} (h : ∀ n ∈ l, 0 ≤ n ∧ n < 100) : (lotT l).length ≤ l.length * 3 := by
  have h1 := join_le sep_comma.len (l.map fun n => (toString n : Str))
  have ht : tot (l.map fun n => (toString n : Str)) ≤ (l.map fun n => (toString n : Str)).length * 3 := tot_small fun x hx => by
    obtain ⟨n, hn, rfl⟩ := List.mem_map.mp hx
    exact (str_small (h n hn).1 (h n hn).2).2
  rw [List.length_map] at ht
  exact Nat.le_trans h1 ht
theorem pieceL_len {p : Int × List Int} (h0 : 0 ≤ p.1 ∧ p.1 < 100) (h1 : p.2.length ≤ 100) (h2 : ∀ n ∈ p.2, 0 ≤ n ∧ n < 100) : (pieceL p).length ≤ 309 := by
  unfold pieceL
  rw [Str.length_append, Str.length_append, Str.length_append, len_pc, len_bl]
  have a := sN_len h0.1 h0.2
  have b := lotT_len h2
  omega
theorem clusterL_len {S P : Int} (h0 : 0 ≤ S ∧ S < 100) (h1 : 0 ≤ P ∧ P < 100) : (clusterL S P).length ≤ 13 := by
  unfold clusterL
  rw [Str.length_append, Str.length_append, Str.length_append, len_cl, len_bl]
  have a := sN_len h0.1 h0.2
  have b := sN_len h1.1 h1.2
  omega
theorem linesW_tot {st : List (List Int)} {ps : List (Int × List Int)} (h : Small st ps) : tot (linesW st ps) ≤ 20000 := by
  have h1 : ∀ x ∈ linesW st ps, x.length ≤ 309 := fun x hx => by
    unfold linesW at hx
    rcases List.mem_cons.mp hx with e | hx
    · rw [e]
      have := clusterL_len (S := (st.length : Nat)) (P := (ps.length : Nat)) (by have := h.s8; omega) (by have := h.p40; omega)
      omega
    · rcases List.mem_append.mp hx with hx | hx
      · obtain ⟨s, hs, rfl⟩ := List.mem_map.mp hx
        exact Nat.le_trans (storeL_len (h.sv s hs)) (by decide)
      · obtain ⟨p, hp, rfl⟩ := List.mem_map.mp hx
        exact pieceL_len (h.pv p hp) (h.lv p hp).1 (h.lv p hp).2
  have h2 := tot_small h1
  have h3 : (linesW st ps).length ≤ 49 := by
    unfold linesW
    rw [List.length_cons, List.length_append, List.length_map, List.length_map]
    have := h.s8
    have := h.p40
    omega
  have h4 : (linesW st ps).length * (309 + 1) ≤ 49 * (309 + 1) := Nat.mul_le_mul_right _ h3
  omega
def sp_write_world (K : PySem.W.Frag) (cC : Addr) : Sp := fun vs H Q _ => ∃ (c a b : Addr) (st : List (List Int)) (ps : List (Int × List Int)), vs = [.ref c, .ref a, .ref b] ∧
  ClAt H cC c (st.map fun s => s.getD 0 0) (st.map fun s => s.getD 1 0) (st.map fun s => s.getD 2 0) ∧ RepW H a ps ∧ RepP H b ps ∧ Small st ps ∧ ∀ H', Same H H' → Q (.str (writeM st ps)) H'
theorem c_write_world {k : Nat} (B : Blt mg) (D : DefAt K mg "write_world" s_write_world) {cC fI : Addr} (T : ClsTxt K mg cC fI) (C_lot_text : Callee P w K mg base CX0 k "lot_text" ["lot"] (sp_lot_text K)) : Callee P w K mg base CX0 (k + 1) "write_world" ["cluster", "wishes", "placing"] (sp_write_world K cC) := by
  obtain ⟨f, fd, F, g⟩ := D
  refine ⟨f, fd, g, F.kp, F.binds (fun _ _ _ _ _ _ us hl => match us, hl with | [_, _, _], _ => rfl), F.ok sc_write_world (fun vs H Q E h => ?_) (fun cdv A outer s H vs Q E hr h => ?_)⟩
  · obtain ⟨c, a, b, st, ps, rfl, _⟩ := h
    rfl
  · obtain ⟨c, a, b, st, ps, rfl, hq⟩ := h
    -- slots 0 cluster, 1 wishes, 2 placing, 3 lines, 4 store, 5 told, 6 piece, 7 wish, 8 number
    refine ⟨_, pss_cons (ps_set (i := 3) sc_write_world.nd rfl (.inl rfl) (pe_lst (pa_cons (pe_op op_add_str (pe_op op_add_str (pe_op op_add_str (pe_str) (pe_callTy call_str_int (by rfl) B.n_str boot_str (pa_cons (pe_fld (pv 0) rfl) pa_nil))) (pe_str)) (pe_callTy call_str_int (by rfl) B.n_str boot_str (pa_cons (pe_callB call_len_seq (by rfl) B.n_len boot_len (pa_cons (pv 1) pa_nil)) pa_nil))) pa_nil)))
      (pss_cons (ps_for PassesOwn.never rfl (pi_range1 (by rfl) B.n_range (pa_cons (pe_fld (pv 0) rfl) pa_nil)) (pg_name (i := 4) sc_write_world.nd rfl (.inl rfl))
        (pss_cons (ps_set (i := 5) sc_write_world.nd rfl (.inl rfl) (pe_lst (pa_cons (pe_ix ix_tup (pe_fld (pv 0) rfl) (pv 4) (fun _ _ => rfl)) (pa_cons (pe_ix ix_tup (pe_fld (pv 0) rfl) (pv 4) (fun _ _ => rfl)) (pa_cons (pe_ix ix_tup (pe_fld (pv 0) rfl) (pv 4) (fun _ _ => rfl)) pa_nil)))))
        (pss_one (ps_expr (pe_bm PySem.F.plainAttrs_list PySem.F.slot_list_append PySem.F.type_list_append mt_append (pv 3) (pa_cons (pe_op op_add_str (pe_str) (pe_join (pe_str) (pe_lc (own := [("number", 8)]) (g := gName 8) (by rfl) sc_write_world.nd (pi_list (pv 5)) (blkOk_by (N := n_write_world) (sc := defScope s_write_world) (own := [("number", 8)]) (by decide +kernel)) (fun _ _ _ _ _ => pg_name (i := 8) sc_write_world.nd rfl (.inl rfl)) (fun _ _ _ _ _ => pts_nil) (fun _ _ _ _ _ => pe_callTy call_str_int (by rfl) B.n_str boot_str (pa_cons (pv 8) pa_nil))))) pa_nil))))))
      (pss_cons (ps_for PassesOwn.never rfl (pi_enumT (by rfl) B.n_enumerate (pa_cons (pv 1) pa_nil)) (pg_tup rfl (pgs_cons (pg_name (i := 6) sc_write_world.nd rfl (.inl rfl)) (pgs_cons (pg_name (i := 7) sc_write_world.nd rfl (.inl rfl)) pgs_nil)))
        (pss_one (ps_expr (pe_bm PySem.F.plainAttrs_list PySem.F.slot_list_append PySem.F.type_list_append mt_append (pv 3) (pa_cons (pe_op op_add_str (pe_op op_add_str (pe_op op_add_str (pe_str) (pe_callTy call_str_int (by rfl) B.n_str boot_str (pa_cons (pv 7) pa_nil))) (pe_str)) (pe_cal C_lot_text hr (by rfl) (pa_cons (pe_ix ix_tup (pv 2) (pv 6) (fun _ _ => rfl)) pa_nil))) pa_nil)))))
      (pss_one (ps_ret (pe_join (pe_str) (pv 3)))))), ?_⟩
    obtain ⟨hC, hW, hP, sm0, q⟩ := hq
    obtain ⟨dx, fs, r1, r2, r3, ec, lf1, lf2, lf3, lf4, e1, e2, e3⟩ := hC
    have hS8 := sm0.s8
    have hP40 := sm0.p40
    have hS := str_small (n := (st.length : Nat)) (by omega) (by omega)
    have hPn := str_small (n := (ps.length : Nat)) (by omega) (by omega)
    rw [List.length_map] at lf4
    refine ⟨_, rfl, c, cC, dx, fs, _, rfl, ec, T.cl, T.nCount, lf4, _, rfl, hS.1, _, _, rfl, rfl, big6 (by rw [len_cl]; omega), _, _, rfl, rfl, big6 (by rw [Str.length_append, len_cl, len_bl]; omega), _, rfl, a, _, rfl, .inr (.inl (.inl hW)), (ps.length : Nat), by rw [List.length_map], hPn.1, _, _, rfl, rfl, big6 (by rw [Str.length_append, Str.length_append, len_cl, len_bl]; omega), by show 1 ≤ sizeLine; decide, fun p np => ?_⟩
    have ep : (upd H p (.lst [.str (clusterL (st.length : Nat) (ps.length : Nat))])) p = some (.lst [.str (clusterL (st.length : Nat) (ps.length : Nat))]) := upd_same
    have s1 : Same H (upd H p (.lst [.str (clusterL (st.length : Nat) (ps.length : Nat))])) := same_upd np
    show tSeq _ _ _ _ (upd H p (.lst [.str (clusterL (st.length : Nat) (ps.length : Nat))]))
    generalize upd H p (.lst [.str (clusterL (st.length : Nat) (ps.length : Nat))]) = H0 at ep s1 ⊢
    -- the stores
    refine ⟨_, rfl, c, cC, dx, fs, _, rfl, s1 _ _ ec, T.cl, T.nCount, lf4, (st.length : Nat), rfl, by omega, by omega, ?_⟩
    refine for_it walk_range (fun i σ H' => (∃ y4 y5, σ = [some (.ref c), some (.ref a), some (.ref b), some (.ref p), y4, y5, none, none, none]) ∧ Same H H' ∧ H' p = some (.lst ((clusterL (st.length : Nat) (ps.length : Nat) :: (st.take i).map storeL).map V.str)))
      ⟨⟨none, none, rfl⟩, s1, ep⟩ (fun _ _ _ _ _ => trivial) (fun i x σ H1 H' hi pv yy => ?_) (fun σ H1 pv => ?_)
    · obtain ⟨⟨y4, y5, rfl⟩, sm, epi⟩ := pv
      obtain ⟨rfl, rfl⟩ := yy
      have hi' : i < st.length := by omega
      have gs : st[i]? = some st[i] := List.getElem?_eq_getElem hi'
      have hv := sm0.sv _ (List.mem_of_getElem? gs)
      have gc : ∀ k, ((st.map fun s => s.getD k 0).map V.int)[i]? = some (.int (st[i].getD k 0)) := fun k => by
        rw [List.getElem?_map, List.getElem?_map, gs]
        rfl
      refine ⟨_, rfl, c, cC, dx, fs, _, rfl, sm _ _ ec, T.cl, T.nRacks, lf1, _, rfl, r1, _, _, _, rfl, rfl, .inl (.inl (sm _ _ e1)), at_of (j := i) (by omega) (gc 0), ?_⟩
      refine ⟨_, rfl, c, cC, dx, fs, _, rfl, sm _ _ ec, T.cl, T.nRooms, lf2, _, rfl, r2, _, _, _, rfl, rfl, .inl (.inl (sm _ _ e2)), at_of (j := i) (by omega) (gc 1), ?_⟩
      refine ⟨_, rfl, c, cC, dx, fs, _, rfl, sm _ _ ec, T.cl, T.nRates, lf3, _, rfl, r3, _, _, _, rfl, rfl, .inl (.inl (sm _ _ e3)), at_of (j := i) (by omega) (gc 2), by show 3 ≤ sizeLine; decide, fun t nt => ?_⟩
      have st1 := same_upd (o := .lst [.int (st[i].getD 0 0), .int (st[i].getD 1 0), .int (st[i].getD 2 0)]) nt
      have ept := st1 _ _ epi
      have et : (upd H' t (.lst [.int (st[i].getD 0 0), .int (st[i].getD 1 0), .int (st[i].getD 2 0)])) t = some (.lst ([st[i].getD 0 0, st[i].getD 1 0, st[i].getD 2 0].map V.int)) := upd_same
      -- lines.append(..)
      refine ⟨_, rfl, .inl ⟨rfl, _, .inl (.inl ept)⟩, ⟨_, rfl⟩, _, rfl, t, rfl, ⟨_, .inl (.inl et)⟩, fun D nD => ?_⟩
      refine lc_to (walk_list (K := K) (a := t) (xs := [st[i].getD 0 0, st[i].getD 1 0, st[i].getD 2 0].map V.int)) ([sN (st[i].getD 0 0), sN (st[i].getD 1 0), sN (st[i].getD 2 0)].map V.str) rfl (by simp) nD (fun H' s => .inl (.inl (s _ _ et))) (fun m x H4 H5 y Q2 hm s4 yy hy k2 => ?_) (fun H4 s4 e4 => ?_)
      · obtain ⟨rfl, hx⟩ := yy
        obtain ⟨n, hn, rfl⟩ := map_int_get hx
        have hn2 : 0 ≤ n ∧ n < 100 ∧ y = .str (sN n) := by
          match m, hn, hy with
          | 0, hn, hy => cases hn; cases hy; exact ⟨(hv 0).1, (hv 0).2, rfl⟩
          | 1, hn, hy => cases hn; cases hy; exact ⟨(hv 1).1, (hv 1).2, rfl⟩
          | 2, hn, hy => cases hn; cases hy; exact ⟨(hv 2).1, (hv 2).2, rfl⟩
        obtain ⟨n0, n1, rfl⟩ := hn2
        exact ⟨rfl, _, rfl, n, rfl, (str_small n0 n1).1, k2 _ (Same.refl _)⟩
      · have l3 := three_len (sN_len (hv 0).1 (hv 0).2) (sN_len (hv 1).1 (hv 1).2) (sN_len (hv 2).1 (hv 2).2)
        refine ⟨_, D, _, rfl, rfl, .inl (.inl (.inl e4)), join_fits sep_blank.len (by omega), ?_⟩
        rw [TL.join_eq]
        have j3 := join_le sep_blank.len [sN (st[i].getD 0 0), sN (st[i].getD 1 0), sN (st[i].getD 2 0)]
        refine ⟨_, _, rfl, rfl, big6 (by rw [len_st]; omega), ?_⟩
        have ep4 := s4 _ _ ept
        refine ⟨p, _, _, rfl, rfl, ep4, big6' (by simp; omega), ?_⟩
        refine ⟨⟨_, _, rfl⟩, Same.mut ((sm.trans st1).trans s4) np, ?_⟩
        rw [upd_same, List.take_add_one, gs, List.map_append]
        simp [storeL, blank]
    · obtain ⟨⟨y4, y5, rfl⟩, sm, epi⟩ := pv
      have ei : st.take ((st.length : Nat) : Int).toNat = st := List.take_of_length_le (by omega)
      rw [ei] at epi
      obtain ⟨qs, eP, lP, fP⟩ := hP
      -- the pieces
      refine ⟨_, rfl, a, _, rfl, .inl (.inl (sm _ _ hW)), for_it walk_enumT (fun i σ H' => (∃ y6 y7, σ = [some (.ref c), some (.ref a), some (.ref b), some (.ref p), y4, y5, y6, y7, none]) ∧ Same H H' ∧ H' p = some (.lst ((clusterL (st.length : Nat) (ps.length : Nat) :: (st.map storeL ++ (ps.take i).map pieceL)).map V.str)))
        ⟨⟨none, none, rfl⟩, sm, by rw [epi]; simp⟩ (fun i σ H' _ pv => .inl (.inl (pv.2.1 _ _ hW))) (fun i x σ H2 H' hi pv yy => ?_) (fun σ H2 pv => ?_)⟩
      · obtain ⟨⟨y6, y7, rfl⟩, sm2, ep2⟩ := pv
        obtain ⟨T1, x1, x2, rfl, nT, rfl, g1, g2⟩ := yy
        have hi' : i < ps.length := by rw [List.length_map] at hi; exact hi
        have gp : ps[i]? = some ps[i] := List.getElem?_eq_getElem hi'
        have gq : qs[i]? = some (qs[i]'(by omega)) := List.getElem?_eq_getElem (by omega)
        have ex2 : x2 = .int ps[i].1 := get_map (f := fun p : Int × List Int => V.int p.1) g2 gp
        have ex1 : x1 = .int (i : Nat) := (Option.some.inj g1).symm
        subst ex2
        subst ex1
        have hpv := sm0.pv _ (List.mem_of_getElem? gp)
        have hlv := sm0.lv _ (List.mem_of_getElem? gp)
        have sT := same_upd (o := .tup [.int (i : Nat), .int ps[i].1]) nT
        have s3 := sm2.trans sT
        refine ⟨T1, _, rfl, .inl (.inl upd_same), rfl, _, _, rfl, _, _, rfl, rfl, ?_⟩
        have ep3 := sT _ _ ep2
        refine ⟨_, rfl, .inl ⟨rfl, _, .inl (.inl ep3)⟩, _, rfl, _, rfl, (str_small hpv.1 hpv.2).1, _, _, rfl, rfl, big6 (by have := sN_len hpv.1 hpv.2; rw [len_pc]; unfold sN at this; omega), _, _, rfl, rfl, big6 (by have := sN_len hpv.1 hpv.2; rw [Str.length_append, len_pc, len_bl]; unfold sN at this; omega), ?_⟩
        have hl := lotT_len hlv.2
        refine ⟨_, rfl, _, rfl, b, _, _, _, rfl, rfl, .inl (.inl (s3 _ _ eP)), at_of (j := i) rfl (by rw [List.getElem?_map, gq]; rfl), _, ps[i].2, rfl, .inl (.inl (s3 _ _ (fP i _ _ gq gp))), by omega, hlv.2, fun H4 s4 => ?_⟩
        refine ⟨_, _, rfl, rfl, big6 (by have := sN_len hpv.1 hpv.2; rw [Str.length_append, Str.length_append, len_pc, len_bl]; unfold sN at this; omega), ?_⟩
        have ep4 := s4 _ _ ep3
        refine ⟨p, _, _, rfl, rfl, ep4, big6' (by simp; omega), ?_⟩
        refine ⟨⟨_, _, rfl⟩, Same.mut (s3.trans s4) np, ?_⟩
        rw [upd_same, List.take_add_one, gp, List.map_append]
        simp [pieceL, sN]
      · obtain ⟨⟨y6, y7, rfl⟩, sm2, ep2⟩ := pv
        have ei2 : ps.take (ps.map fun p => V.int p.1).length = ps := List.take_of_length_le (by rw [List.length_map]; exact Nat.le_refl _)
        rw [ei2] at ep2
        have ht := linesW_tot sm0
        refine ⟨⟨_, rfl⟩, _, rfl, _, p, linesW st ps, rfl, rfl, .inl (.inl (.inl ep2)), join_fits sep_feed.len (by omega), ?_⟩
        rw [TL.join_eq]
        exact q _ sm2

end
end K6

namespace K6
open PySem PySem.Spec PyProof.Rows L2
open TL (tl len_tl ext_tl tl_append)
section
variable {P : Program} {w : World} {K : PySem.W.Frag} {mg : Str → Option Value} {base : Heap}
/-! ### a text that is read is the one that is written -/
theorem scan_none {S P : Nat} : ∀ (ls : List Str) (i k : Nat), scan S P i k ls = none → ∀ (m : Nat) x, ls[m]? = some x → lineOk S P (i + m) x = true
  | [], i, k, _, m, x, h => by simp at h
  | a :: r, i, k, h, m, x, hx => by
    unfold scan at h
    by_cases c : lineOk S P i a = true
    · rw [if_pos c] at h
      cases m with
      | zero =>
        have e : a = x := Option.some.inj hx
        rw [← e]
        exact c
      | succ n =>
        have := scan_none r (i + 1) _ h n x hx
        rw [show i + (n + 1) = i + 1 + n by omega]
        exact this
    · rw [if_neg c] at h
      cases h
theorem headM_words {l : Str} {ns : List Int} (h : headM l = some ns) : ∃ a b w, words l = [w, a, b] ∧ w = Str.ofString "cluster" ∧ ns = [toldI a, toldI b] ∧ 1 ≤ toldI a ∧ 0 ≤ toldI b := by
  unfold headM at h
  rw [nums1_W] at h
  match e : words l, h with
  | w :: ws, h =>
    have h' : (if w = Str.ofString "cluster" then nums ws headB else none) = some ns := h
    split at h'
    · rename_i hw
      obtain ⟨e1, e2, e3⟩ := nums_some h'
      match ws, e1, e2, e3 with
      | [a, b], e1, _, e3 =>
        exact ⟨a, b, w, rfl, hw, e1, (okW_iff.mp (e3 0 a (1, 8) rfl rfl)).1, (okW_iff.mp (e3 1 b (0, 40) rfl rfl)).1⟩
    · cases h'
theorem readM_inv {z : Str} {wd : Wd} (h : readM z = .good wd) : ∃ l0 ls S P, linesOf z = l0 :: ls ∧ headM l0 = some [((S : Nat) : Int), ((P : Nat) : Int)] ∧ (∀ (m : Nat) x, ls[m]? = some x → lineOk S P (m + 1) x = true) ∧ ¬ ls.length < S + P ∧ wd = ⟨(ls.take S).map storeV, (ls.drop S).map (pieceV S)⟩ := by
  obtain ⟨l0, ls, el⟩ := linesOf_cons z
  cases hh : headM l0 with
  | none =>
    rw [readM_none el hh] at h
    cases h
  | some ns =>
    obtain ⟨S, P, e, _⟩ := headM_some hh
    subst e
    rw [readM_head el hh] at h
    cases hs : scan S P 1 (l0.length + 1) ls with
    | some k =>
      rw [hs] at h
      cases h
    | none =>
      rw [hs] at h
      have h' : (if ls.length < S + P then Res.bad z.length else .good ⟨(ls.take S).map storeV, (ls.drop S).map (pieceV S)⟩) = .good wd := h
      split at h'
      · cases h'
      · rename_i hn
        refine ⟨l0, ls, S, P, el, hh, fun m x hx => ?_, hn, ?_⟩
        · have := scan_none ls 1 _ hs m x hx
          rw [Nat.add_comm]
          exact this
        · cases h'
          rfl
theorem sN_told {w : Str} (h : 0 ≤ toldI w) : sN (toldI w) = w := toldI_str h
theorem line_join (l : Str) : Str.join blank (words l) = l := StrLaws.join_split l blank
theorem clusterL_back {l : Str} {ns : List Int} (h : headM l = some ns) : ∀ S P : Int, ns = [S, P] → clusterL S P = l := by
  intro S P e
  obtain ⟨a, b, w, ew, hw, en, h1, h0⟩ := headM_words h
  rw [e] at en
  have eS : S = toldI a := (List.cons.inj en).1
  have eP : P = toldI b := (List.cons.inj (List.cons.inj en).2).1
  rw [← line_join l, ew, hw, eS, eP]
  unfold clusterL
  rw [sN_told (by omega), sN_told h0]
  show _ = Str.ofString "cluster" ++ blank ++ (a ++ blank ++ b)
  refine ext_tl ?_
  simp only [tl_append]
  have e1 : tl (Str.ofString "cluster ") = tl (Str.ofString "cluster") ++ tl (Str.ofString " ") := by decide +kernel
  rw [e1]
  unfold blank
  simp only [List.append_assoc]
theorem storeL_back {l : Str} {ns : List Int} (h : storeM l = some ns) : storeL (storeV l) = l := by
  rw [storeV_of h]
  obtain ⟨a, b, c, w, ew, hw, en, ha, hb, hc⟩ := storeM_some h
  subst en
  unfold storeL
  show Str.ofString "store " ++ Str.join blank [sN (toldI a), sN (toldI b), sN (toldI c)] = l
  rw [sN_told ha.1, sN_told hb.1, sN_told (by omega)]
  have e := line_join l
  rw [ew, hw] at e
  rw [← e]
  show _ = Str.ofString "store" ++ blank ++ Str.join blank [a, b, c]
  have e1 : Str.ofString "store " = Str.ofString "store" ++ blank := by decide +kernel
  rw [e1]
theorem lotT_back {b : Str} {m : Int} {l : List Int} (h : lotM b m = some l) : lotT l = b := by
  obtain ⟨e, hb, _⟩ := lotM_some h
  unfold lotT
  have e1 : (l.map fun n => (toString n : Str)) = parts b := by
    rw [e, List.map_map]
    refine (List.map_congr_left (g := id) fun p hp => ?_).trans (List.map_id _)
    have hm : toldI p ∈ l := by rw [e]; exact List.mem_map_of_mem hp
    exact sN_told (hb _ hm).1
  rw [e1]
  exact StrLaws.join_split b comma
theorem pieceL_back {l : Str} {S : Nat} {p : Int × List Int} (h : pieceM l (S : Int) = some p) : pieceL (pieceV S l) = l := by
  rw [pieceV_of h]
  obtain ⟨a, b, w, ew, hw, e1, h1, h3, hl⟩ := pieceM_some h
  unfold pieceL
  rw [e1, lotT_back hl, sN_told (by omega)]
  have e := line_join l
  rw [ew, hw] at e
  rw [← e]
  show _ = Str.ofString "piece" ++ blank ++ (a ++ blank ++ b)
  refine ext_tl ?_
  simp only [tl_append]
  have e2 : tl (Str.ofString "piece ") = tl (Str.ofString "piece") ++ tl (Str.ofString " ") := by decide +kernel
  rw [e2]
  unfold blank
  simp only [List.append_assoc]
theorem rising_len : ∀ {l : List Int} {a m : Int}, rising l = true → (∀ x ∈ l, a ≤ x ∧ x < m) → a ≤ m → (l.length : Int) ≤ m - a
  | [], a, m, _, _, h => by simp; omega
  | [x], a, m, _, hb, _ => by
    have := hb x (by simp)
    simp
    omega
  | x :: y :: r, a, m, hr, hb, _ => by
    have h' : (decide (x < y) && rising (y :: r)) = true := hr
    rw [Bool.and_eq_true] at h'
    have hxy := of_decide_eq_true h'.1
    have hx := hb x (by simp)
    have hy := hb y (by simp)
    have hge : ∀ z ∈ y :: r, x + 1 ≤ z ∧ z < m := fun z hz => by
      refine ⟨?_, (hb z (List.mem_cons_of_mem _ hz)).2⟩
      obtain ⟨i, hi⟩ := List.getElem?_of_mem hz
      have key : ∀ (i : Nat) z, (y :: r)[i]? = some z → y ≤ z := by
        intro i
        induction i with
        | zero =>
          intro z hz
          have e : y = z := Option.some.inj hz
          omega
        | succ k ih =>
          intro z hz
          have hk : k < (y :: r).length := by have := (List.getElem?_eq_some_iff.mp hz).1; omega
          have g := List.getElem?_eq_getElem hk
          have := rising_iff.mp h'.2 k _ z g hz
          have := ih _ g
          omega
      have := key i z hi
      omega
    have ih := rising_len (l := y :: r) (a := x + 1) (m := m) h'.2 hge (by omega)
    simp at ih ⊢
    omega
theorem ok_parts {S P : Nat} {ls : List Str} (hok : ∀ (m : Nat) x, ls[m]? = some x → lineOk S P (m + 1) x = true) :
    (∀ l ∈ ls.take S, ∃ ns, storeM l = some ns) ∧ ∀ l ∈ ls.drop S, ∃ p, pieceM l (S : Int) = some p := by
  constructor
  · intro l hl
    obtain ⟨m, hm⟩ := List.getElem?_of_mem hl
    have hmS : m < S := by have := (List.getElem?_eq_some_iff.mp hm).1; rw [List.length_take] at this; omega
    rw [List.getElem?_take_of_lt hmS] at hm
    have := hok m l hm
    rw [lineOk_store (by omega)] at this
    exact Option.isSome_iff_exists.mp this
  · intro l hl
    obtain ⟨m, hm⟩ := List.getElem?_of_mem hl
    rw [List.getElem?_drop] at hm
    have := hok (S + m) l hm
    rw [lineOk_piece (by omega), Bool.and_eq_true] at this
    exact Option.isSome_iff_exists.mp this.2
theorem read_small {z : Str} {wd : Wd} (h : readM z = .good wd) : Small wd.stores wd.pieces ∧ writeM wd.stores wd.pieces = z ∧ 1 ≤ wd.stores.length ∧ (∀ s ∈ wd.stores, s.length = 3 ∧ 0 ≤ s.getD 0 0 ∧ s.getD 0 0 ≤ 99 ∧ 0 ≤ s.getD 1 0 ∧ s.getD 1 0 ≤ 99 ∧ 1 ≤ s.getD 2 0 ∧ s.getD 2 0 ≤ 8) := by
  obtain ⟨l0, ls, S, P, el, hh, hok, hn, rfl⟩ := readM_inv h
  obtain ⟨S', P', e', hS1, hS8, hP⟩ := headM_some hh
  have eS : S' = S := by have := (List.cons.inj e').1; omega
  have eP : P' = P := by have := (List.cons.inj (List.cons.inj e').2).1; omega
  subst eS
  subst eP
  have hle := ok_le (Nat.le_refl ls.length) (fun m x _ hx => hok m x hx)
  have hlen : ls.length = S' + P' := by omega
  obtain ⟨okS, okP⟩ := ok_parts hok
  have lenS : (ls.take S').length = S' := by rw [List.length_take]; omega
  have lenP : (ls.drop S').length = P' := by rw [List.length_drop]; omega
  have st3 : ∀ s ∈ (ls.take S').map storeV, s.length = 3 ∧ (0 ≤ s.getD 0 0 ∧ s.getD 0 0 ≤ 99 ∧ 0 ≤ s.getD 1 0 ∧ s.getD 1 0 ≤ 99 ∧ 1 ≤ s.getD 2 0 ∧ s.getD 2 0 ≤ 8) := fun s hs => by
    obtain ⟨l, hl, rfl⟩ := List.mem_map.mp hs
    obtain ⟨ns, hns⟩ := okS l hl
    rw [storeV_of hns]
    obtain ⟨a, b, c, w, _, _, en, ha, hb, hc⟩ := storeM_some hns
    subst en
    exact ⟨rfl, ha.1, ha.2, hb.1, hb.2, hc.1, hc.2⟩
  refine ⟨⟨?_, ?_, fun s hs k => ?_, fun p hp => ?_, fun p hp => ?_⟩, ?_, ?_, st3⟩
  · rw [List.length_map, lenS]
    exact hS8
  · rw [List.length_map, lenP]
    exact hP
  · obtain ⟨h3, a0, a1, b0, b1, c0, c1⟩ := st3 s hs
    match k with
    | 0 => omega
    | 1 => omega
    | 2 => omega
    | k + 3 =>
      have e : s.getD (k + 3) 0 = 0 := by
        rw [List.getD_eq_getElem?_getD, List.getElem?_eq_none (by omega)]
        rfl
      rw [e]
      decide
  · obtain ⟨l, hl, rfl⟩ := List.mem_map.mp hp
    obtain ⟨q, hq⟩ := okP l hl
    rw [pieceV_of hq]
    obtain ⟨a, b, w, _, _, e1, h1, h3, _⟩ := pieceM_some hq
    omega
  · obtain ⟨l, hl, rfl⟩ := List.mem_map.mp hp
    obtain ⟨q, hq⟩ := okP l hl
    rw [pieceV_of hq]
    obtain ⟨a, b, w, _, _, e1, h1, h3, hlot⟩ := pieceM_some hq
    obtain ⟨el2, hb, hr⟩ := lotM_some hlot
    have := rising_len hr hb (by omega)
    exact ⟨by omega, fun n hn => by have := hb n hn; omega⟩
  · unfold writeM linesW
    rw [List.length_map, List.length_map, lenS, lenP, clusterL_back hh _ _ rfl, List.map_map, List.map_map]
    have e1 : (ls.take S').map (storeL ∘ storeV) = ls.take S' := (List.map_congr_left (g := id) fun l hl => by
      obtain ⟨ns, hns⟩ := okS l hl
      exact storeL_back hns).trans (List.map_id _)
    have e2 : (ls.drop S').map (pieceL ∘ pieceV S') = ls.drop S' := (List.map_congr_left (g := id) fun l hl => by
      obtain ⟨q, hq⟩ := okP l hl
      exact pieceL_back hq).trans (List.map_id _)
    rw [e1, e2, List.take_append_drop, ← el]
    exact StrLaws.join_split z feed
  · rw [List.length_map, lenS]
    exact hS1

/-- as Fun.okX, where an error's context is None -/
theorem okN {x qual : Str} {st : Stmt} {f : Addr} {fd : FuncData} {N ps : List Str} {k : Nat} {sp : Sp} (F : Fun K x qual st f fd) (S : FnScope N ps (defScope st)) (len : ∀ vs H Q E, sp vs H Q E → vs.length = ps.length)
    (hbody : ∀ (cdv : Value) (A : Around) (outer : List Env) (s : Shared) (H : Hp) (vs : List V) (Q : VK) (E : XK), Room k (A.deeper (envOfC qual (defScope st) s.heap.objs.size f cdv)) → sp vs H Q E →
      ∃ t, PSs (cxOf (L2N.CX P w) P w K mg base N qual (defScope st) f cdv A outer s H E) (defBody st) t ∧ t { nx := fun _ H' => Q .non H', rt := Q } (start N vs) H) : FnOk P w K mg base (L2N.CX P w) (k + 1) f fd ps sp := by
  obtain ⟨oc, od, kV, doc, pm, an, cdv, ct, osl, rfl, lk, hcd⟩ := F.ex
  exact fn_of lk hcd S len fun A outer s H vs Q E hr hsp => hbody cdv A outer s H vs Q E hr hsp
/-- all but what stands at ms is as it was -/
def ButL (ms : List Addr) (H H' : Hp) : Prop := ∀ b o, b ∉ ms → H b = some o → H' b = some o
theorem ButL.of {ms : List Addr} {H H' : Hp} (h : Same H H') : ButL ms H H' := fun b o _ e => h b o e
theorem ButL.trans {ms : List Addr} {H H1 H2 : Hp} (h : ButL ms H H1) (g : ButL ms H1 H2) : ButL ms H H2 := fun b o n e => g b o n (h b o n e)
theorem ButL.upd {ms : List Addr} {H : Hp} {a : Addr} {o : HO} (h : a ∈ ms) : ButL ms H (upd H a o) := fun b u n e => by
  rw [upd_ne (fun z => n (by rw [z]; exact h))]
  exact e
theorem ButL.out {ms : List Addr} {H H1 H2 : Hp} (s : Same H H1) (h : ButL ms H1 H2) (n : ∀ b ∈ ms, H b = none) : Same H H2 := fun b o e => h b o (fun hm => by rw [n b hm] at e; cases e) (s b o e)
def SR (H : Hp) (ms : List Addr) (ls : List Str) (n : Nat) (stv : List V) : Prop := ∃ as : List Addr, stv = as.map V.ref ∧ as.length = n ∧ ∀ (m : Nat) a l, as[m]? = some a → ls[m]? = some l → H a = some (.lst ((storeV l).map V.int)) ∧ a ∉ ms
def PR (H : Hp) (S : Nat) (ls : List Str) (n : Nat) (qs : List Addr) : Prop := qs.length = n ∧ ∀ (m : Nat) q l, qs[m]? = some q → ls[S + m]? = some l → H q = some (.tup ((pieceV S l).2.map V.int))
theorem SR.but {H H' : Hp} {ms : List Addr} {ls : List Str} {n : Nat} {stv : List V} (h : SR H ms ls n stv) (g : ButL ms H H') : SR H' ms ls n stv :=
  let ⟨as, e, l, f⟩ := h
  ⟨as, e, l, fun m a x h1 h2 => let ⟨q, n1⟩ := f m a x h1 h2; ⟨g _ _ n1 q, n1⟩⟩
theorem SR.snoc {H : Hp} {ms : List Addr} {p : Addr} {ls : List Str} {n : Nat} {stv : List V} {l : Str} (h : SR H ms ls n stv) (hl : ls[n]? = some l) (e : H p = some (.lst ((storeV l).map V.int))) (n1 : p ∉ ms) : SR H ms ls (n + 1) (stv ++ [.ref p]) := by
  obtain ⟨as, ev, len, f⟩ := h
  refine ⟨as ++ [p], by rw [ev, List.map_append]; rfl, by simp [len], fun m a x h1 h2 => ?_⟩
  rcases snoc_get len h1 with ⟨_, g⟩ | ⟨rfl, rfl⟩
  · exact f m a x g h2
  · rw [hl] at h2
    cases h2
    exact ⟨e, n1⟩
theorem PR.but {H H' : Hp} {ms : List Addr} {S : Nat} {ls : List Str} {n : Nat} {qs : List Addr} (h : PR H S ls n qs) (g : ButL ms H H') (hm : ∀ b ∈ ms, ∃ v, H b = some (.lst v)) : PR H' S ls n qs :=
  ⟨h.1, fun m q x h1 h2 => g _ _ (fun z => by
    obtain ⟨v, e⟩ := hm q z
    exact absurd rfl (tup_ne (h.2 m q x h1 h2) e)) (h.2 m q x h1 h2)⟩
theorem PR.snoc {H : Hp} {q : Addr} {S : Nat} {ls : List Str} {n : Nat} {qs : List Addr} {l : Str} (h : PR H S ls n qs) (hl : ls[S + n]? = some l) (e2 : H q = some (.tup ((pieceV S l).2.map V.int))) : PR H S ls (n + 1) (qs ++ [q]) := by
  refine ⟨by simp [h.1], fun m q' x h1 h2 => ?_⟩
  rcases snoc_get h.1 h1 with ⟨_, g⟩ | ⟨rfl, rfl⟩
  · exact h.2 m q' x g h2
  · rw [hl] at h2
    cases h2
    exact e2
theorem at_cons {l0 : Str} {ls : List Str} {i : Nat} {l : Str} (h : ls[i]? = some l) : ((l0 :: ls).map V.str)[i + 1]? = some (.str l) := by
  rw [List.getElem?_map]
  show Option.map V.str ls[i]? = _
  rw [h]
  rfl
theorem at_offs {ls : List Str} {i : Nat} (h : i < ls.length) : ((List.range ls.length).map fun i => V.int (offs ls i : Nat))[i]? = some (.int (offs ls i : Nat)) := by
  rw [List.getElem?_map, List.getElem?_range h]
  rfl
theorem store_bounds {S P : Nat} {ls : List Str} (hok : ∀ (m : Nat) x, ls[m]? = some x → lineOk S P (m + 1) x = true) : ∀ l ∈ ls.take S, (0 ≤ (storeV l).getD 0 0 ∧ (storeV l).getD 0 0 ≤ 99) ∧ (0 ≤ (storeV l).getD 1 0 ∧ (storeV l).getD 1 0 ≤ 99) ∧ (1 ≤ (storeV l).getD 2 0 ∧ (storeV l).getD 2 0 ≤ 8) := fun l hl => by
  obtain ⟨ns, hns⟩ := (ok_parts hok).1 l hl
  rw [storeV_of hns]
  obtain ⟨a, b, c, w, _, _, en, ha, hb, hc⟩ := storeM_some hns
  subst en
  exact ⟨ha, hb, hc⟩
def sp_read_world (cT cC : Addr) : Sp := fun vs H Q E => ∃ (z : Str), vs = [.str z] ∧ z.length ≤ 800000 ∧
  (∀ k H' d, readM z = .bad k → Same H H' → H' d = some (.xd (errD (.str z) (.int (k : Nat)))) → E (.ref cT) (some d) H') ∧
  ∀ wd H' p c a b, readM z = .good wd → Same H H' → H' p = some (.tup [.ref c, .ref a, .ref b]) →
    ClAt H' cC c (wd.stores.map fun s => s.getD 0 0) (wd.stores.map fun s => s.getD 1 0) (wd.stores.map fun s => s.getD 2 0) → RepW H' a wd.pieces → RepP H' b wd.pieces → Q (.ref p) H'
theorem c_read_world {k k0 : Nat} {cT fT cC fC : Addr} {fdC : FuncData} (B : Blt mg) (D : DefAt K mg "read_world" s_read_world) (TT : K6X.TxtT P K mg cT fT) (TC : ClsTxt K mg cC fC) (FC : FnOk P w K mg base CX0 k0 fC fdC ["self", "racks", "rooms", "rates"] (sp_Cluster___init cC)) (bC : Binds K fdC ["self", "racks", "rooms", "rates"] []) (hk : k0 + 1 ≤ k)
    (C_begins : Callee P w K mg base CX0 k "begins" ["lines"] (sp_begins K)) (C_numbers : Callee P w K mg base CX0 k "_numbers" ["line", "first", "bounds"] (sp_numbers K)) (C_piece : Callee P w K mg base CX0 k "_piece" ["line", "store_count"] sp_piece) :
    Callee P w K mg base (L2N.CX P w) (k + 1) "read_world" ["text"] (sp_read_world cT cC) := by
  obtain ⟨f, fd, F, g⟩ := D
  refine ⟨f, fd, g, F.kp, F.binds (fun _ _ _ _ _ _ us hl => match us, hl with | [_], _ => rfl), okN F sc_read_world (fun vs H Q E h => ?_) (fun cdv A outer s H vs Q E hr h => ?_)⟩
  · obtain ⟨_, rfl, _⟩ := h
    rfl
  · obtain ⟨z, rfl, hl, qb, qg⟩ := h
    refine ⟨_,
-- read_world: slots 0 text, 1 lines, 2 places, 3 sizes, 4 store_count, 5 many, 6 stores, 7 wishes, 8 placing, 9 k, 10 store, 11 piece, 12 cluster, 13 row
pss_cons (ps_set (i := 1) sc_read_world.nd rfl (.inl rfl) (pe_split (pv 0) (pe_str)))
  (pss_cons (ps_set (i := 2) sc_read_world.nd rfl (.inl rfl) (pe_cal C_begins hr (by rfl) (pa_cons (pv 1) pa_nil)))
  (pss_cons (ps_set (i := 3) sc_read_world.nd rfl (.inl rfl) (pe_cal C_numbers hr (by rfl) (pa_cons (pe_ix ix_list (pv 1) (pe_int) (fun _ _ => rfl)) (pa_cons (pe_str) (pa_cons (pe_lst (pa_cons (pe_tup (pa_cons (pe_int) (pa_cons (pe_const B.c_MOST_STORES (by rfl)) pa_nil))) (pa_cons (pe_tup (pa_cons (pe_int) (pa_cons (pe_const B.c_MOST_PIECES (by rfl)) pa_nil))) pa_nil))) pa_nil)))))
  (pss_cons (ps_if (pt_cmpR op_isN (pv 3) (pe_non) (nomark _))
    (pss_one (ps_raiseT rfl TT hr (L2N.takes_of rfl rfl rfl rfl) (pa_cons (pv 0) (pa_cons (pe_int) pa_nil))))
    pss_nil)
  (pss_cons (ps_asg (pv 3) (pg_unl rfl (pgs_cons (pg_name (i := 4) sc_read_world.nd rfl (.inl rfl)) (pgs_cons (pg_name (i := 5) sc_read_world.nd rfl (.inl rfl)) pgs_nil))))
  (pss_cons (ps_set (i := 6) sc_read_world.nd rfl (.inl rfl) (pe_lst pa_nil))
  (pss_cons (ps_set (i := 7) sc_read_world.nd rfl (.inl rfl) (pe_lst pa_nil))
  (pss_cons (ps_set (i := 8) sc_read_world.nd rfl (.inl rfl) (pe_lst pa_nil))
  (pss_cons (ps_for (passes_of rfl) rfl (pi_range2 (by rfl) B.n_range (pa_cons (pe_int) (pa_cons (pe_callB call_len_seq (by rfl) B.n_len boot_len (pa_cons (pv 1) pa_nil)) pa_nil))) (pg_name (i := 9) sc_read_world.nd rfl (.inl rfl))
    (pss_one (ps_if (pt_cmpR op_le (pv 9) (pv 4) (nomark _))
      (pss_cons (ps_set (i := 10) sc_read_world.nd rfl (.inl rfl) (pe_cal C_numbers hr (by rfl) (pa_cons (pe_ix ix_list (pv 1) (pv 9) (fun _ _ => rfl)) (pa_cons (pe_str) (pa_cons (pe_lst (pa_cons (pe_tup (pa_cons (pe_int) (pa_cons (pe_const B.c_MOST_NUMBER (by rfl)) pa_nil))) (pa_cons (pe_tup (pa_cons (pe_int) (pa_cons (pe_const B.c_MOST_NUMBER (by rfl)) pa_nil))) (pa_cons (pe_tup (pa_cons (pe_int) (pa_cons (pe_const B.c_MOST_RATE (by rfl)) pa_nil))) pa_nil)))) pa_nil)))))
      (pss_cons (ps_if (pt_cmpR op_isN (pv 10) (pe_non) (nomark _))
        (pss_one (ps_raiseT rfl TT hr (L2N.takes_of rfl rfl rfl rfl) (pa_cons (pv 0) (pa_cons (pe_ix ix_list (pv 2) (pv 9) (fun _ _ => rfl)) pa_nil))))
        pss_nil)
      (pss_one (ps_expr (pe_bm PySem.F.plainAttrs_list PySem.F.slot_list_append PySem.F.type_list_append mt_append (pv 6) (pa_cons (pv 10) pa_nil))))))
      (pss_cons (ps_set (i := 11) sc_read_world.nd rfl (.inl rfl) (pe_cal C_piece hr (by rfl) (pa_cons (pe_ix ix_list (pv 1) (pv 9) (fun _ _ => rfl)) (pa_cons (pv 4) pa_nil))))
      (pss_cons (ps_if (PW.pt (pw_or (pt_cmpR op_gt (pv 9) (pe_op op_add (pv 4) (pv 5)) (nomark _)) (pw_or1 (pt_cmpR op_isN (pv 11) (pe_non) (nomark _)))))
        (pss_one (ps_raiseT rfl TT hr (L2N.takes_of rfl rfl rfl rfl) (pa_cons (pv 0) (pa_cons (pe_ix ix_list (pv 2) (pv 9) (fun _ _ => rfl)) pa_nil))))
        pss_nil)
      (pss_cons (ps_expr (pe_bm PySem.F.plainAttrs_list PySem.F.slot_list_append PySem.F.type_list_append mt_append (pv 7) (pa_cons (pe_ix ix_tup (pv 11) (pe_int) (fun _ _ => rfl)) pa_nil)))
      (pss_one (ps_expr (pe_bm PySem.F.plainAttrs_list PySem.F.slot_list_append PySem.F.type_list_append mt_append (pv 8) (pa_cons (pe_ix ix_tup (pv 11) (pe_int) (fun _ _ => rfl)) pa_nil))))))))))
  (pss_cons (ps_if (pt_cmpR op_le (pe_callB call_len_seq (by rfl) B.n_len boot_len (pa_cons (pv 1) pa_nil)) (pe_op op_add (pv 4) (pv 5)) (nomark _))
    (pss_one (ps_raiseT rfl TT hr (L2N.takes_of rfl rfl rfl rfl) (pa_cons (pv 0) (pa_cons (pe_callB call_len_str (by rfl) B.n_len boot_len (pa_cons (pv 0) pa_nil)) pa_nil))))
    pss_nil)
  (pss_cons (ps_set (i := 12) sc_read_world.nd rfl (.inl rfl) (pe_make TC.mak FC (hr.mono hk) (by rfl) TC.g bC .nil pass0 (pa_cons (pe_lc (own := [("row", 13)]) (g := gName 13) (by rfl) sc_read_world.nd (pi_list (pv 6)) (blkOk_by (N := n_read_world) (sc := defScope s_read_world) (own := [("row", 13)]) (by decide +kernel)) (fun _ _ _ _ _ => pg_name (i := 13) sc_read_world.nd rfl (.inl rfl)) (fun _ _ _ _ _ => pts_nil) (fun _ _ _ _ _ => pe_ix (ix_listK (K := K)) (pv 13) (pe_int) (fun _ _ => rfl))) (pa_cons (pe_lc (own := [("row", 13)]) (g := gName 13) (by rfl) sc_read_world.nd (pi_list (pv 6)) (blkOk_by (N := n_read_world) (sc := defScope s_read_world) (own := [("row", 13)]) (by decide +kernel)) (fun _ _ _ _ _ => pg_name (i := 13) sc_read_world.nd rfl (.inl rfl)) (fun _ _ _ _ _ => pts_nil) (fun _ _ _ _ _ => pe_ix (ix_listK (K := K)) (pv 13) (pe_int) (fun _ _ => rfl))) (pa_cons (pe_lc (own := [("row", 13)]) (g := gName 13) (by rfl) sc_read_world.nd (pi_list (pv 6)) (blkOk_by (N := n_read_world) (sc := defScope s_read_world) (own := [("row", 13)]) (by decide +kernel)) (fun _ _ _ _ _ => pg_name (i := 13) sc_read_world.nd rfl (.inl rfl)) (fun _ _ _ _ _ => pts_nil) (fun _ _ _ _ _ => pe_ix (ix_listK (K := K)) (pv 13) (pe_int) (fun _ _ => rfl))) pa_nil)))))
  (pss_one (ps_ret (pe_tup (pa_cons (pv 12) (pa_cons (pe_callTy call_tuple_of (by rfl) B.n_tuple boot_tuple (pa_cons (pv 7) pa_nil)) (pa_cons (pe_callTy call_tuple_of (by rfl) B.n_tuple boot_tuple (pa_cons (pv 8) pa_nil)) pa_nil))))))))))))))))
      , ?_⟩
    obtain ⟨l0, ls, el⟩ := linesOf_cons z
    have htot := lines_tot z
    rw [el] at htot
    have hlen := len_tot (l0 :: ls)
    have hl9 : ls.length ≤ 800001 := by have := hlen; rw [List.length_cons] at this; omega
    have hmem : ∀ x ∈ l0 :: ls, x.length ≤ 800000 := fun x hx => by have := mem_tot hx; omega
    -- lines
    refine ⟨_, rfl, ⟨z, rfl⟩, z, _, rfl, rfl, by decide +kernel, big6 (by omega), fun c nc => ?_⟩
    have sc : Same H (upd H c (.lst ((linesOf z).map V.str))) := same_upd nc
    have ec : (upd H c (.lst ((linesOf z).map V.str))) c = some (.lst ((l0 :: ls).map V.str)) := by rw [upd_same, el]
    show tSeq _ _ _ _ (upd H c (.lst ((linesOf z).map V.str)))
    generalize upd H c (.lst ((linesOf z).map V.str)) = H1 at sc ec ⊢
    -- places
    refine ⟨_, rfl, c, l0 :: ls, rfl, .inl (.inl ec), by omega, fun H2 pl s2 npl epl => ?_⟩
    have ec2 := s2 _ _ ec
    -- sizes
    refine ⟨_, rfl, c, _, 0, .str l0, rfl, rfl, .inl (.inl ec2), atI_nat (j := 0) rfl, by show 2 ≤ sizeLine; decide, fun t1 n1 => ⟨by show 2 ≤ sizeLine; decide, fun t2 n2 => ⟨by show 2 ≤ sizeLine; decide, fun b nb => ?_⟩⟩⟩
    obtain ⟨sb, hb⟩ := bounds2 (K := K) (q1 := (1, 8)) (q2 := (0, 40)) n1 n2 nb
    refine ⟨l0, Str.ofString "cluster", b, headB, rfl, by have := hmem l0 (by simp); omega, hb, by decide, fun H3 s3 hn => ?_, fun H3 sz ns s3 nsz esz hn => ?_⟩
    · have s := (sc.trans s2).trans (sb.trans s3)
      refine ⟨_, rfl, rfl, _, rfl, ite_t (d_t rfl) ⟨_, rfl, _, _, rfl, fun d nd => ?_⟩⟩
      exact qb 0 _ d (readM_none el hn) (s.trans (same_upd nd)) upd_same
    · have hM : headM l0 = some ns := hn
      obtain ⟨S, Pn, ens, hS1, hS8, hP⟩ := headM_some hM
      subst ens
      have s := (sc.trans s2).trans (sb.trans s3)
      refine ⟨_, rfl, rfl, _, rfl, ite_f (d_f (by simp)) ?_⟩
      refine ⟨_, rfl, sz, _, rfl, .inl (.inl esz), rfl, _, _, rfl, _, _, rfl, rfl, ?_⟩
      -- stores = [], wishes = [], placing = []
      refine ⟨Nat.zero_le _, fun st nst => ⟨Nat.zero_le _, fun wi nwi => ⟨Nat.zero_le _, fun pg npg => ?_⟩⟩⟩
      have a1 := same_upd (o := .lst []) nst
      have a2 := same_upd (o := .lst []) nwi
      have a3 := same_upd (o := .lst []) npg
      have est0 := a3 _ _ (a2 _ _ (upd_same (H := H3) (a := st) (o := .lst [])))
      have ewi0 := a3 _ _ (upd_same (H := upd H3 st (.lst [])) (a := wi) (o := .lst []))
      have epg0 : (upd (upd (upd H3 st (.lst [])) wi (.lst [])) pg (.lst [])) pg = some (.lst []) := upd_same
      have dsw : st ≠ wi := ne_of_none upd_same nwi
      have dsp : st ≠ pg := ne_of_none (a2 _ _ upd_same) npg
      have dwp : wi ≠ pg := ne_of_none upd_same npg
      have n3w : H3 wi = none := a1.free nwi
      have n3p : H3 pg = none := (a1.trans a2).free npg
      have sA := s.trans ((a1.trans a2).trans a3)
      have ec4 := ((a1.trans a2).trans a3) _ _ (s3 _ _ (sb _ _ ec2))
      have epl4 := ((a1.trans a2).trans a3) _ _ (s3 _ _ (sb _ _ epl))
      have hmsH : ∀ b ∈ [st, wi, pg], H b = none := fun b hb => by
        rcases List.mem_cons.mp hb with e | hb
        · rw [e]; exact s.free nst
        · rcases List.mem_cons.mp hb with e | hb
          · rw [e]; exact s.free n3w
          · rw [List.mem_singleton.mp hb]; exact s.free n3p
      have cms : c ∉ [st, wi, pg] := fun hb => by
        have n := s3 _ _ (sb _ _ ec2)
        rcases List.mem_cons.mp hb with e | hb
        · rw [e, nst] at n; cases n
        · rcases List.mem_cons.mp hb with e | hb
          · rw [e, n3w] at n; cases n
          · rw [List.mem_singleton.mp hb, n3p] at n; cases n
      have pms : pl ∉ [st, wi, pg] := fun hb => by
        have n := s3 _ _ (sb _ _ epl)
        rcases List.mem_cons.mp hb with e | hb
        · rw [e, nst] at n; cases n
        · rcases List.mem_cons.mp hb with e | hb
          · rw [e, n3w] at n; cases n
          · rw [List.mem_singleton.mp hb, n3p] at n; cases n
      show tSeq _ _ _ _ (upd (upd (upd H3 st (.lst [])) wi (.lst [])) pg (.lst []))
      generalize upd (upd (upd H3 st (.lst [])) wi (.lst [])) pg (.lst []) = H4 at est0 ewi0 epg0 sA ec4 epl4 ⊢
      have el1 : (l0 :: ls).length = ls.length + 1 := rfl
      refine ⟨_, rfl, c, _, rfl, .inl (.inl (.inl ec4)), 1, _, rfl, ⟨by decide, by decide, by rw [List.length_map, el1]; omega, by rw [List.length_map, el1]; omega⟩, ?_⟩
      have hn2 : (((((l0 :: ls).map V.str).length : Nat) : Int) - 1).toNat = ls.length := by rw [List.length_map, el1]; omega
      rw [hn2]
      refine for_it walk_range (fun i σ H' => (∃ y9 y10 y11, σ = [some (.str z), some (.ref c), some (.ref pl), some (.ref sz), some (.int S), some (.int Pn), some (.ref st), some (.ref wi), some (.ref pg), y9, y10, y11, none, none]) ∧ Same H H' ∧ H' c = some (.lst ((l0 :: ls).map V.str)) ∧ H' pl = some (.lst ((List.range (l0 :: ls).length).map fun i => V.int (offs (l0 :: ls) i : Nat))) ∧
          ∃ (stv : List V) (qs : List Addr), H' st = some (.lst stv) ∧ H' wi = some (.lst (((ls.drop S).take (i - S)).map fun l => V.int (pieceV S l).1)) ∧ H' pg = some (.lst (qs.map V.ref)) ∧ SR H' [st, wi, pg] ls (min i S) stv ∧ PR H' S ls (i - S) qs ∧ (∀ (m : Nat) x, m < i → ls[m]? = some x → lineOk S Pn (m + 1) x = true))
        ⟨⟨none, none, none, rfl⟩, sA, ec4, epl4, [], [], est0, by rw [ewi0]; simp, epg0, ⟨[], rfl, by simp, fun m a x h => by simp at h⟩, ⟨by simp, fun m a x h => by simp at h⟩, fun m x h => absurd h (Nat.not_lt_zero _)⟩ (fun _ _ _ _ _ => trivial) (fun i x σ H5 H' hi pv yy => ?_) (fun σ H5 pv => ?_)
      · obtain ⟨⟨y9, y10, y11, rfl⟩, sm, ec5, epl5, stv, qs, est, ewi, epg, rst, rpc, hok⟩ := pv
        obtain ⟨rfl, rfl⟩ := yy
        have hli : ls[i]? = some (ls[i]'hi) := List.getElem?_eq_getElem hi
        generalize ls[i]'hi = l at hli
        have hlb := hmem l (List.mem_cons_of_mem _ (List.mem_of_getElem? hli))
        have hle := ok_le (Nat.le_of_lt hi) hok
        have lst : stv.length = min i S := by obtain ⟨as, e, le, _⟩ := rst; rw [e, List.length_map, le]
        have bad : ∀ (y9 y10 y11 : Option V) H6, y9 = some (.int (1 + (i : Int))) → ButL [st, wi, pg] H' H6 → lineOk S Pn (i + 1) l = false → tRaiseT cT (fun cls d _ H => E cls d H) (tCons (tVar 0) (tCons (tOp (rIxL K) (tVar 2) (tVar 9)) tNil)) { nx := fun _ _ => True, rt := fun _ _ => True } [some (.str z), some (.ref c), some (.ref pl), some (.ref sz), some (.int S), some (.int Pn), some (.ref st), some (.ref wi), some (.ref pg), y9, y10, y11, none, none] H6 := fun y9 y10 y11 H6 e9 s6 hn => by
          subst e9
          refine ⟨_, rfl, _, rfl, _, rfl, pl, _, _, _, rfl, rfl, .inl (.inl (s6 _ _ pms epl5)), at_of (j := i + 1) (by omega) (at_offs (by rw [el1]; omega)), _, _, rfl, fun d nd => ?_⟩
          exact qb _ _ d (readM_line el hM hok hli hn) ((ButL.out sm s6 hmsH).trans (same_upd nd)) upd_same
        refine ⟨_, rfl, _, rfl, _, _, rfl, rfl, _, rfl, ?_⟩
        by_cases hkS : i + 1 ≤ S
        · refine ite_t (d_t (by omega)) ?_
          refine ⟨_, rfl, _, rfl, c, _, _, .str l, rfl, rfl, .inl (.inl ec5), at_of (j := i + 1) (by omega) (at_cons hli), by show 2 ≤ sizeLine; decide, fun t1 n1 => ⟨by show 2 ≤ sizeLine; decide, fun t2 n2 => ⟨by show 2 ≤ sizeLine; decide, fun t3 n3 => ⟨by show 3 ≤ sizeLine; decide, fun b nb => ?_⟩⟩⟩⟩
          obtain ⟨sb, hb⟩ := bounds3 (K := K) (q1 := (0, 99)) (q2 := (0, 99)) (q3 := (1, 8)) n1 n2 n3 nb
          refine ⟨l, Str.ofString "store", b, storeB, rfl, by omega, hb, by decide, fun H6 s6 hn => ?_, fun H6 p ns s6 np ep hn => ?_⟩
          · refine ⟨_, rfl, rfl, _, rfl, ite_t (d_t rfl) (bad _ _ _ _ rfl (ButL.of (sb.trans s6)) ?_)⟩
            rw [lineOk_store hkS]
            show (nums1 l _ storeB).isSome = false
            rw [hn]
            rfl
          · have sB := sb.trans s6
            have hns : storeM l = some ns := hn
            have est6 := sB _ _ est
            have npH' : H' p = none := sb.free np
            have pms' : p ∉ [st, wi, pg] := fun hb => by
              rcases List.mem_cons.mp hb with e | hb
              · rw [e, est] at npH'; cases npH'
              · rcases List.mem_cons.mp hb with e | hb
                · rw [e, ewi] at npH'; cases npH'
                · rw [List.mem_singleton.mp hb, epg] at npH'; cases npH'
            have pst : p ≠ st := fun e => pms' (by rw [e]; simp)
            refine ⟨_, rfl, rfl, _, rfl, ite_f (d_f (by simp)) ?_⟩
            refine ⟨_, rfl, .inl ⟨rfl, _, .inl (.inl est6)⟩, _, rfl, st, _, _, rfl, rfl, est6, big6' (by omega), ?_⟩
            have b7 : ButL [st, wi, pg] H6 (upd H6 st (.lst (stv ++ [.ref p]))) := ButL.upd (by simp)
            have bA := (ButL.of sB).trans b7
            refine ⟨⟨_, _, _, rfl⟩, ButL.out sm bA hmsH, bA _ _ cms ec5, bA _ _ pms epl5, stv ++ [.ref p], qs, upd_same, ?_, ?_, ?_, ?_, ok_snoc hok hli ?_⟩
            · rw [upd_ne (Ne.symm dsw), show i + 1 - S = i - S by omega]
              exact sB _ _ ewi
            · rw [upd_ne (Ne.symm dsp)]
              exact sB _ _ epg
            · rw [show min (i + 1) S = min i S + 1 by omega]
              refine SR.snoc (l := l) (rst.but bA) ?_ ?_ pms'
              · rw [show min i S = i by omega]
                exact hli
              · rw [upd_ne pst, storeV_of hns]
                exact ep
            · rw [show i + 1 - S = i - S by omega]
              refine rpc.but bA fun b hb => ?_
              rcases List.mem_cons.mp hb with e | hb
              · rw [e]; exact ⟨_, est⟩
              · rcases List.mem_cons.mp hb with e | hb
                · rw [e]; exact ⟨_, ewi⟩
                · rw [List.mem_singleton.mp hb]; exact ⟨_, epg⟩
            · rw [lineOk_store hkS, hns]
              rfl
        · refine ite_f (d_f (by omega)) ?_
          refine ⟨_, rfl, _, rfl, c, _, _, .str l, rfl, rfl, .inl (.inl ec5), at_of (j := i + 1) (by omega) (at_cons hli), _, rfl, l, (S : Int), rfl, by omega, fun H6 s6 hn => ?_, fun H6 p q n l2 s6 ep eq hn => ?_⟩
          · have hbad : lineOk S Pn (i + 1) l = false := by rw [lineOk_piece hkS, hn, Bool.and_comm]; rfl
            refine ⟨_, rfl, _, rfl, _, rfl, _, _, rfl, rfl, _, _, rfl, rfl, _, rfl, ite2 (fun _ => ite_t rfl (bad _ _ _ _ rfl (ButL.of s6) hbad)) (fun _ => ⟨_, rfl, rfl, _, rfl, ite_t (d_t rfl) (bad _ _ _ _ rfl (ButL.of s6) hbad)⟩)⟩
          · refine ⟨_, rfl, _, rfl, _, rfl, _, _, rfl, rfl, _, _, rfl, rfl, _, rfl, ?_⟩
            by_cases hkP : i + 1 ≤ S + Pn
            · refine ite_f (d_f (by omega)) ⟨_, rfl, rfl, _, rfl, ite_f (d_f (by simp)) ?_⟩
              have hpv : pieceV S l = (n, l2) := pieceV_of hn
              have ewi6 := s6 _ _ ewi
              have epg6 := s6 _ _ epg
              refine ⟨_, rfl, .inl ⟨rfl, _, .inl (.inl ewi6)⟩, _, rfl, p, _, 0, _, rfl, rfl, .inl (.inl ep), atI_nat (j := 0) rfl, wi, _, _, rfl, rfl, ewi6, big6' (by simp; omega), ?_⟩
              have pwi : p ≠ wi := tup_ne ep ewi6
              have ppg : p ≠ pg := tup_ne ep epg6
              have epg7 : (upd H6 wi (.lst (((ls.drop S).take (i - S)).map (fun l => V.int (pieceV S l).1) ++ [.int n]))) pg = some (.lst (qs.map V.ref)) := by rw [upd_ne (Ne.symm dwp)]; exact epg6
              have ep7 : (upd H6 wi (.lst (((ls.drop S).take (i - S)).map (fun l => V.int (pieceV S l).1) ++ [.int n]))) p = some (.tup [.int n, .ref q]) := by rw [upd_ne pwi]; exact ep
              refine ⟨_, rfl, .inl ⟨rfl, _, .inl (.inl epg7)⟩, _, rfl, p, _, 1, _, rfl, rfl, .inl (.inl ep7), atI_nat (j := 1) rfl, pg, _, _, rfl, rfl, epg7, big6' (by simp; have := rpc.1; omega), ?_⟩
              have b7 : ButL [st, wi, pg] H6 (upd H6 wi (.lst (((ls.drop S).take (i - S)).map (fun l => V.int (pieceV S l).1) ++ [.int n]))) := ButL.upd (by simp)
              have b8 : ButL [st, wi, pg] (upd H6 wi (.lst (((ls.drop S).take (i - S)).map (fun l => V.int (pieceV S l).1) ++ [.int n]))) (upd (upd H6 wi (.lst (((ls.drop S).take (i - S)).map (fun l => V.int (pieceV S l).1) ++ [.int n]))) pg (.lst (qs.map V.ref ++ [.ref q]))) := ButL.upd (by simp)
              have bA := ((ButL.of s6).trans b7).trans b8
              have hdl : (ls.drop S)[i - S]? = some l := by rw [List.getElem?_drop, show S + (i - S) = i by omega]; exact hli
              refine ⟨⟨_, _, _, rfl⟩, ButL.out sm bA hmsH, bA _ _ cms ec5, bA _ _ pms epl5, stv, qs ++ [q], ?_, ?_, ?_, ?_, ?_, ok_snoc hok hli ?_⟩
              · rw [upd_ne dsp, upd_ne dsw]
                exact s6 _ _ est
              · rw [upd_ne dwp, upd_same, show i + 1 - S = i - S + 1 by omega, List.take_add_one, hdl, List.map_append]
                simp [hpv]
              · rw [upd_same, List.map_append]
                rfl
              · rw [show min (i + 1) S = min i S by omega]
                exact rst.but bA
              · rw [show i + 1 - S = i - S + 1 by omega]
                refine PR.snoc (l := l) (rpc.but bA fun b hb => ?_) ?_ ?_
                · rcases List.mem_cons.mp hb with e | hb
                  · rw [e]; exact ⟨_, est⟩
                  · rcases List.mem_cons.mp hb with e | hb
                    · rw [e]; exact ⟨_, ewi⟩
                    · rw [List.mem_singleton.mp hb]; exact ⟨_, epg⟩
                · rw [show S + (i - S) = i by omega]
                  exact hli
                · rw [hpv]
                  have qwi : q ≠ wi := tup_ne eq ewi6
                  have qpg : q ≠ pg := tup_ne eq epg6
                  rw [upd_ne qpg, upd_ne qwi]
                  exact eq
              · rw [lineOk_piece hkS, hn, decide_eq_true hkP]
                rfl
            · have hbad : lineOk S Pn (i + 1) l = false := by rw [lineOk_piece hkS, decide_eq_false hkP]; rfl
              exact ite_t (d_t (by omega)) (ite_t rfl (bad _ _ _ _ rfl (ButL.of s6) hbad))
      · obtain ⟨⟨y9, y10, y11, rfl⟩, sm, ec5, epl5, stv, qs, est, ewi, epg, rst, rpc, hok⟩ := pv
        have hok' : ∀ m x, ls[m]? = some x → lineOk S Pn (m + 1) x = true := fun m x hx => hok m x (List.getElem?_eq_some_iff.mp hx).1 hx
        refine ⟨_, rfl, c, _, rfl, .inl (.inl (.inl ec5)), _, rfl, _, rfl, _, _, rfl, rfl, _, _, rfl, rfl, _, rfl, ?_⟩
        by_cases hs : ls.length < S + Pn
        · refine ite_t (d_t (by rw [List.length_map, el1]; omega)) ⟨_, rfl, _, rfl, z, rfl, big6 (by omega), _, _, rfl, fun d nd => ?_⟩
          exact qb _ _ d (readM_short el hM hok' hs) (sm.trans (same_upd nd)) upd_same
        · refine ite_f (d_f (by rw [List.length_map, el1]; omega)) ?_
          have hlong : ¬ ls.length < S + Pn := hs
          obtain ⟨as, eas, las, fas⟩ := rst
          have lS : min ls.length S = S := by omega
          rw [lS] at las
          subst eas
          have bnd := store_bounds (S := S) (P := Pn) (ls := ls) hok'
          have lcol : ∀ k : Nat, ((ls.take S).map fun l => (storeV l).getD k 0).length = S := fun k => by rw [List.length_map, List.length_take]; omega
          have rd : ∀ (m : Nat) x (H4 : Hp), m < (as.map V.ref).length → Same H5 H4 → (as.map V.ref)[m]? = some x → ∃ a l q1 q2 q3, x = .ref a ∧ (ls.take S)[m]? = some l ∧ storeV l = [q1, q2, q3] ∧ H4 a = some (.lst ([q1, q2, q3].map V.int)) := fun m x H4 hm s4 hx => by
            obtain ⟨a, ha, rfl⟩ := map_ref_get hx
            have hm' : m < S := by rw [List.length_map] at hm; omega
            have hl2 : ls[m]? = some (ls[m]'(by omega)) := List.getElem?_eq_getElem (by omega)
            obtain ⟨q1, q2, q3, e5⟩ := store3 hm' (hok' m _ hl2)
            have e6 := s4 _ _ (fas m a _ ha hl2).1
            rw [e5] at e6
            exact ⟨a, _, q1, q2, q3, rfl, by rw [List.getElem?_take_of_lt hm']; exact hl2, e5, e6⟩
          refine ⟨_, rfl, st, rfl, ⟨_, .inl (.inl est)⟩, fun D0 n0 => ?_⟩
          refine lc_to (walk_list (K := K) (a := st) (xs := as.map V.ref)) (((ls.take S).map fun l => (storeV l).getD 0 0).map V.int) (by rw [List.length_map, List.length_map, lcol]; exact las) (by rw [List.length_map]; omega) n0 (fun H' s => .inl (.inl (s _ _ est))) (fun m x H' H'' y Q2 hm s4 yy hy k2 => ?_) (fun H6 s4 e4 => ?_)
          · obtain ⟨rfl, hx⟩ := yy
            obtain ⟨a, l, q1, q2, q3, rfl, hl3, e5, e6⟩ := rd m x _ hm s4 hx
            obtain ⟨ny, hny, ey⟩ := map_int_get hy
            subst ey
            have en := get_map hny hl3
            rw [e5] at en
            subst en
            exact ⟨rfl, _, rfl, a, _, 0, _, rfl, rfl, .inl (.inl e6), at3 (i := 0) (by decide), k2 _ (Same.refl _)⟩
          have z1 := s4
          refine ⟨_, rfl, st, rfl, ⟨_, .inl (.inl (z1 _ _ est))⟩, fun D1 n1 => ?_⟩
          refine lc_to (walk_list (K := K) (a := st) (xs := as.map V.ref)) (((ls.take S).map fun l => (storeV l).getD 1 0).map V.int) (by rw [List.length_map, List.length_map, lcol]; exact las) (by rw [List.length_map]; omega) n1 (fun H' s => .inl (.inl (s _ _ (z1 _ _ est)))) (fun m x H' H'' y Q2 hm s4 yy hy k2 => ?_) (fun H7 s5 e5 => ?_)
          · obtain ⟨rfl, hx⟩ := yy
            obtain ⟨a, l, q1, q2, q3, rfl, hl3, e5, e6⟩ := rd m x _ hm (z1.trans s4) hx
            obtain ⟨ny, hny, ey⟩ := map_int_get hy
            subst ey
            have en := get_map hny hl3
            rw [e5] at en
            subst en
            exact ⟨rfl, _, rfl, a, _, 1, _, rfl, rfl, .inl (.inl e6), at3 (i := 1) (by decide), k2 _ (Same.refl _)⟩
          have z2 := z1.trans s5
          refine ⟨_, rfl, st, rfl, ⟨_, .inl (.inl (z2 _ _ est))⟩, fun D2 n2 => ?_⟩
          refine lc_to (walk_list (K := K) (a := st) (xs := as.map V.ref)) (((ls.take S).map fun l => (storeV l).getD 2 0).map V.int) (by rw [List.length_map, List.length_map, lcol]; exact las) (by rw [List.length_map]; omega) n2 (fun H' s => .inl (.inl (s _ _ (z2 _ _ est)))) (fun m x H' H'' y Q2 hm s4 yy hy k2 => ?_) (fun H8 s6 e6 => ?_)
          · obtain ⟨rfl, hx⟩ := yy
            obtain ⟨a, l, q1, q2, q3, rfl, hl3, e5, e6⟩ := rd m x _ hm (z2.trans s4) hx
            obtain ⟨ny, hny, ey⟩ := map_int_get hy
            subst ey
            have en := get_map hny hl3
            rw [e5] at en
            subst en
            exact ⟨rfl, _, rfl, a, _, 2, _, rfl, rfl, .inl (.inl e6), at3 (i := 2) (by decide), k2 _ (Same.refl _)⟩
          have z3 := z2.trans s6
          intro x dx nx ndx dxx
          have hy : ∀ b o, H8 b = some o → (upd (upd H8 dx (.own x)) x (.ins cC dx [])) b = some o := fun b o e => by
            rw [L2.upd_ne (ne_of_none e nx), L2.upd_ne (ne_of_none e ndx)]
            exact e
          have sx : But x H8 (upd (upd H8 dx (.own x)) x (.ins cC dx [])) := fun b o n e => hy b o e
          refine ⟨x, D0, D1, D2, dx, _, _, _, rfl, upd_same, hy _ _ (s6 _ _ (s5 _ _ e4)), hy _ _ (s6 _ _ e5), hy _ _ e6, by rw [lcol]; exact hS1, by rw [lcol]; exact hS8, by rw [lcol, lcol], by rw [lcol, lcol], fun n hn => ?_, fun n hn => ?_, fun n hn => ?_, fun H9 bt cl => ⟨rfl, ?_⟩⟩
          · obtain ⟨l, hl, rfl⟩ := List.mem_map.mp hn
            exact (bnd l hl).1
          · obtain ⟨l, hl, rfl⟩ := List.mem_map.mp hn
            exact (bnd l hl).2.1
          · obtain ⟨l, hl, rfl⟩ := List.mem_map.mp hn
            exact (bnd l hl).2.2
          · have s9 : Same H5 H9 := fun b o e => (sx.trans bt) b o (ne_of_none (z3 _ _ e) nx) (z3 _ _ e)
            refine ⟨_, rfl, _, rfl, wi, _, rfl, .inl ⟨.inl (.inl (s9 _ _ ewi)), fun Wa nW => ?_⟩⟩
            have sW := same_upd (o := .tup (((ls.drop S).take (ls.length - S)).map fun l => V.int (pieceV S l).1)) nW
            refine ⟨_, rfl, pg, _, rfl, .inl ⟨.inl (.inl (sW _ _ (s9 _ _ epg))), fun Pa nP => ?_⟩⟩
            have sP := same_upd (o := .tup (qs.map V.ref)) nP
            refine ⟨by show 3 ≤ sizeLine; decide, fun r nr => ?_⟩
            have sR := same_upd (o := .tup [.ref x, .ref Wa, .ref Pa]) nr
            have sC := (sW.trans sP).trans sR
            refine qg ⟨(ls.take S).map storeV, (ls.drop S).map (pieceV S)⟩ _ r x Wa Pa (readM_good el hM hok' hlong) ((sm.trans s9).trans sC) upd_same ?_ ?_ ?_
            · refine ClAt.same ?_ sC
              show ClAt H9 cC x (((ls.take S).map storeV).map fun s => s.getD 0 0) (((ls.take S).map storeV).map fun s => s.getD 1 0) (((ls.take S).map storeV).map fun s => s.getD 2 0)
              rw [List.map_map, List.map_map, List.map_map]
              exact cl
            · show _ = some (HO.tup (((ls.drop S).map (pieceV S)).map fun p => V.int p.1))
              rw [List.map_map]
              refine (sR _ _ (sP _ _ upd_same)).trans ?_
              rw [List.take_of_length_le (by rw [List.length_drop]; omega)]
              rfl
            · refine ⟨qs, sR _ _ upd_same, by rw [rpc.1, List.length_map, List.length_drop], fun i q p hq hp => ?_⟩
              have hi : i < ls.length - S := by have := (List.getElem?_eq_some_iff.mp hq).1; rw [rpc.1] at this; exact this
              have hl2 : ls[S + i]? = some (ls[S + i]'(by omega)) := List.getElem?_eq_getElem (by omega)
              have hl3 : (ls.drop S)[i]? = some (ls[S + i]'(by omega)) := by rw [List.getElem?_drop]; exact hl2
              have ep := get_map hp hl3
              subst ep
              exact sC _ _ (s9 _ _ (rpc.2 i q _ hq hl2))

end
end K6

namespace K6
open PySem PySem.Spec PyProof.Rows L2
open TL (tl len_tl ext_tl tl_append)
section
variable {P : Program} {w : World} {K : PySem.W.Frag} {mg : Str → Option Value} {base : Heap}
/-- y is as x, n high: an int or a text, or two tuples, or two lists, of items that are alike -/
def Like : Nat → Hp → V → V → Prop
  | 0, _, _, _ => False
  | n + 1, H, x, y => (∃ i : Int, x = V.int i ∧ y = V.int i) ∨ (∃ z : Str, x = V.str z ∧ y = V.str z) ∨
    ∃ (p q : Addr) (xs ys : List V), x = V.ref p ∧ y = V.ref q ∧ ((H p = some (.tup xs) ∧ H q = some (.tup ys)) ∨ (H p = some (.lst xs) ∧ H q = some (.lst ys))) ∧ xs.length = ys.length ∧ ys.length ≤ 1000 ∧ ∀ (i : Nat) x y, xs[i]? = some x → ys[i]? = some y → Like n H x y
def sp_l_like (n : Nat) : Sp := fun vs H Q _ => ∃ x y : V, vs = [x, y] ∧ Like n H x y ∧ Q (.bl true) H
theorem c_l_like_step {n k : Nat} (B : Blt mg) (D : DefAt K mg "_law_like" s_l_like) (C_l_like : Callee P w K mg base CX0 k "_law_like" ["_law_found", "_law_due"] (sp_l_like n)) : Callee P w K mg base CX0 (k + 1) "_law_like" ["_law_found", "_law_due"] (sp_l_like (n + 1)) := by
  obtain ⟨f, fd, F, g⟩ := D
  refine ⟨f, fd, g, F.kp, F.binds (fun _ _ _ _ _ _ us hl => match us, hl with | [_, _], _ => rfl), F.ok sc_l_like (fun vs H Q E h => ?_) (fun cdv A outer s H vs Q E hr h => ?_)⟩
  · obtain ⟨_, _, rfl, _⟩ := h
    rfl
  · obtain ⟨x, y, rfl, hL, hq⟩ := h
    refine ⟨_,
-- _law_like: slots 0 _law_found, 1 _law_due, 2 _law_at
pss_cons (ps_if (PW.pt (pw_or (pt_val (pe_callB call_isi (by rfl) B.n_isinstance boot_isinstance (pa_cons (pv 1) (pa_cons (pe_bltn (v := .ty "tuple") (by rfl) B.n_tuple boot_tuple rfl) pa_nil)))) (pw_or1 (pt_val (pe_callB call_isi (by rfl) B.n_isinstance boot_isinstance (pa_cons (pv 1) (pa_cons (pe_bltn (v := .ty "list") (by rfl) B.n_list boot_list rfl) pa_nil)))))))
    (pss_cons (ps_if (PW.pt (pw_or (pt_cmpR op_ne (pe_callB call_isi (by rfl) B.n_isinstance boot_isinstance (pa_cons (pv 0) (pa_cons (pe_bltn (v := .ty "tuple") (by rfl) B.n_tuple boot_tuple rfl) pa_nil))) (pe_callB call_isi (by rfl) B.n_isinstance boot_isinstance (pa_cons (pv 1) (pa_cons (pe_bltn (v := .ty "tuple") (by rfl) B.n_tuple boot_tuple rfl) pa_nil))) (nomark _)) (pw_or1 (pt_cmpR op_ne (pe_callB call_isi (by rfl) B.n_isinstance boot_isinstance (pa_cons (pv 0) (pa_cons (pe_bltn (v := .ty "list") (by rfl) B.n_list boot_list rfl) pa_nil))) (pe_callB call_isi (by rfl) B.n_isinstance boot_isinstance (pa_cons (pv 1) (pa_cons (pe_bltn (v := .ty "list") (by rfl) B.n_list boot_list rfl) pa_nil))) (nomark _)))))
      (pss_one (ps_ret (pe_bl)))
      pss_nil)
    (pss_cons (ps_if (pt_cmpR op_ne (pe_callB call_len (by rfl) B.n_len boot_len (pa_cons (pv 0) pa_nil)) (pe_callB call_len (by rfl) B.n_len boot_len (pa_cons (pv 1) pa_nil)) (nomark _))
      (pss_one (ps_ret (pe_bl)))
      pss_nil)
    (pss_cons (ps_for PassesOwn.never rfl (pi_range1 (by rfl) B.n_range (pa_cons (pe_callB call_len (by rfl) B.n_len boot_len (pa_cons (pv 1) pa_nil)) pa_nil)) (pg_name (i := 2) sc_l_like.nd rfl (.inl rfl))
      (pss_one (ps_if (pt_not (pt_val (pe_cal C_l_like hr (by rfl) (pa_cons (pe_ix ix_seq (pv 0) (pv 2) (fun _ _ => rfl)) (pa_cons (pe_ix ix_seq (pv 1) (pv 2) (fun _ _ => rfl)) pa_nil)))))
        (pss_one (ps_ret (pe_bl)))
        pss_nil)))
    (pss_one (ps_ret (pe_bl))))))
    pss_nil)
  (pss_cons (ps_if (pt_cmpR op_isN (pv 1) (pe_non) (nomark _))
    (pss_one (ps_ret (pe_cmpR op_isN (pv 0) (pe_non) (nomark _))))
    pss_nil)
  (pss_cons (ps_if (PW.pt (pw_or (pt_val (pe_callB call_isi (by rfl) B.n_isinstance boot_isinstance (pa_cons (pv 1) (pa_cons (pe_bltn (v := .ty "bool") (by rfl) B.n_bool boot_bool rfl) pa_nil)))) (pw_or1 (pt_val (pe_callB call_isi (by rfl) B.n_isinstance boot_isinstance (pa_cons (pv 0) (pa_cons (pe_bltn (v := .ty "bool") (by rfl) B.n_bool boot_bool rfl) pa_nil)))))))
    (pss_one (ps_ret (pe_and (pe_callB call_isi (by rfl) B.n_isinstance boot_isinstance (pa_cons (pv 1) (pa_cons (pe_bltn (v := .ty "bool") (by rfl) B.n_bool boot_bool rfl) pa_nil))) (pe_and (pe_callB call_isi (by rfl) B.n_isinstance boot_isinstance (pa_cons (pv 0) (pa_cons (pe_bltn (v := .ty "bool") (by rfl) B.n_bool boot_bool rfl) pa_nil))) (pe_one (pe_cmpR op_eq (pv 0) (pv 1) (nomark _)))))))
    pss_nil)
  (pss_cons (ps_if (pt_val (pe_callB call_isi (by rfl) B.n_isinstance boot_isinstance (pa_cons (pv 1) (pa_cons (pe_bltn (v := .ty "str") (by rfl) B.n_str boot_str rfl) pa_nil))))
    (pss_one (ps_ret (pe_and (pe_callB call_isi (by rfl) B.n_isinstance boot_isinstance (pa_cons (pv 0) (pa_cons (pe_bltn (v := .ty "str") (by rfl) B.n_str boot_str rfl) pa_nil))) (pe_one (pe_cmpR op_eq (pv 0) (pv 1) (nomark _))))))
    pss_nil)
  (pss_one (ps_ret (pe_and (pe_callB call_isi (by rfl) B.n_isinstance boot_isinstance (pa_cons (pv 0) (pa_cons (pe_bltn (v := .ty "int") (by rfl) B.n_int boot_int rfl) pa_nil))) (pe_one (pe_cmpR op_eq (pv 0) (pv 1) (nomark _)))))))))
      , ?_⟩
    rcases hL with ⟨i, rfl, rfl⟩ | ⟨z, rfl, rfl⟩ | ⟨p, q, xs, ys, rfl, rfl, ho, hl, hz, hi⟩
    · refine ⟨_, rfl, _, _, _, _, _, rfl, .ty _, .base (.int _), kit_ty (r := false) (by decide +kernel), _, rfl, ite_f (by decide) ⟨_, rfl, _, _, _, _, _, rfl, .ty _, .base (.int _), kit_ty (r := false) (by decide +kernel), _, rfl, ite_f (by decide) ?_⟩⟩
      refine ⟨_, rfl, rfl, _, rfl, ite_f (by simp) ?_⟩
      refine ⟨_, rfl, _, _, _, _, _, rfl, .ty _, .base (.int _), kit_ty (r := false) (by decide +kernel), _, rfl, ite_f (by decide) ⟨_, rfl, _, _, _, _, _, rfl, .ty _, .base (.int _), kit_ty (r := false) (by decide +kernel), _, rfl, ite_f (by decide) ?_⟩⟩
      refine ⟨_, rfl, _, _, _, _, _, rfl, .ty _, .base (.int _), kit_ty (r := false) (by decide +kernel), _, rfl, ite_f (by decide) ?_⟩
      refine ⟨_, rfl, _, _, _, _, _, rfl, .ty _, .base (.int _), kit_ty (r := true) (by decide +kernel), ?_⟩
      refine ⟨_, rfl, ite_t rfl ?_⟩
      refine ⟨_, rfl, _, rfl, rfl, ?_⟩
      rw [decide_eq_true rfl]
      exact hq
    · refine ⟨_, rfl, _, _, _, _, _, rfl, .ty _, .base (.str _), kit_ty (r := false) (by decide +kernel), _, rfl, ite_f (by decide) ⟨_, rfl, _, _, _, _, _, rfl, .ty _, .base (.str _), kit_ty (r := false) (by decide +kernel), _, rfl, ite_f (by decide) ?_⟩⟩
      refine ⟨_, rfl, rfl, _, rfl, ite_f (by simp) ?_⟩
      refine ⟨_, rfl, _, _, _, _, _, rfl, .ty _, .base (.str _), kit_ty (r := false) (by decide +kernel), _, rfl, ite_f (by decide) ⟨_, rfl, _, _, _, _, _, rfl, .ty _, .base (.str _), kit_ty (r := false) (by decide +kernel), _, rfl, ite_f (by decide) ?_⟩⟩
      refine ⟨_, rfl, _, _, _, _, _, rfl, .ty _, .base (.str _), kit_ty (r := true) (by decide +kernel), _, rfl, ite_t rfl ?_⟩
      refine ⟨_, rfl, _, _, _, _, _, rfl, .ty _, .base (.str _), kit_ty (r := true) (by decide +kernel), ?_⟩
      refine ⟨_, rfl, ite_t rfl ?_⟩
      refine ⟨_, rfl, _, rfl, rfl, ?_⟩
      rw [decide_eq_true rfl]
      exact hq
    · rcases ho with ⟨ep, eq⟩ | ⟨ep, eq⟩
      · refine ⟨_, rfl, _, _, _, _, _, rfl, .ty _, .base (.tup eq), kit_ty (r := true) (by decide +kernel), _, rfl, ite_t rfl ?_⟩
        refine ⟨_, rfl, _, _, _, _, _, rfl, .ty _, .base (.tup ep), kit_ty (r := true) (by decide +kernel), _, rfl, _, _, _, _, _, rfl, .ty _, .base (.tup eq), kit_ty (r := true) (by decide +kernel), rfl, _, rfl, ite_f (by decide) ⟨_, rfl, _, _, _, _, _, rfl, .ty _, .base (.tup ep), kit_ty (r := false) (by decide +kernel), _, rfl, _, _, _, _, _, rfl, .ty _, .base (.tup eq), kit_ty (r := false) (by decide +kernel), rfl, _, rfl, ite_f (by decide) ?_⟩⟩
        refine ⟨_, rfl, _, _, rfl, .inr ⟨_, .inl (.inl ep), rfl⟩, _, rfl, _, _, rfl, .inr ⟨_, .inl (.inl eq), rfl⟩, rfl, _, rfl, ite_f (by simp [hl]) ?_⟩
        refine ⟨_, rfl, _, _, rfl, .inr ⟨_, .inl (.inl eq), rfl⟩, _, rfl, by omega, by omega, ?_⟩
        refine for_it walk_range (fun _ σ H' => (∃ y, σ = [some (.ref p), some (.ref q), y]) ∧ H' = H) ⟨⟨none, rfl⟩, rfl⟩ (fun _ _ _ _ _ => trivial) (fun i x σ H1 H2 hi1 pv yy => ?_) (fun σ H1 pv => ?_)
        · obtain ⟨⟨y, rfl⟩, rfl⟩ := pv
          obtain ⟨rfl, rfl⟩ := yy
          have hi2 : i < ys.length := by omega
          have ex : xs[i]? = some (xs[i]'(by omega)) := List.getElem?_eq_getElem (by omega)
          have ey : ys[i]? = some (ys[i]'hi2) := List.getElem?_eq_getElem hi2
          refine ⟨_, rfl, _, rfl, .inr (.inl ⟨p, _, _, _, rfl, rfl, .inl (.inl ep), at_of (j := i) (by omega) ex, _, rfl, _, rfl, .inr (.inl ⟨q, _, _, _, rfl, rfl, .inl (.inl eq), at_of (j := i) (by omega) ey, _, _, rfl, hi i _ _ ex ey, _, rfl, ite_f (by decide) ?_⟩)⟩)⟩
          exact ⟨⟨_, rfl⟩, rfl⟩
        · obtain ⟨⟨y, rfl⟩, rfl⟩ := pv
          exact hq
      · refine ⟨_, rfl, _, _, _, _, _, rfl, .ty _, .base (.lst eq), kit_ty (r := false) (by decide +kernel), _, rfl, ite_f (by decide) ⟨_, rfl, _, _, _, _, _, rfl, .ty _, .base (.lst eq), kit_ty (r := true) (by decide +kernel), _, rfl, ite_t rfl ?_⟩⟩
        refine ⟨_, rfl, _, _, _, _, _, rfl, .ty _, .base (.lst ep), kit_ty (r := false) (by decide +kernel), _, rfl, _, _, _, _, _, rfl, .ty _, .base (.lst eq), kit_ty (r := false) (by decide +kernel), rfl, _, rfl, ite_f (by decide) ⟨_, rfl, _, _, _, _, _, rfl, .ty _, .base (.lst ep), kit_ty (r := true) (by decide +kernel), _, rfl, _, _, _, _, _, rfl, .ty _, .base (.lst eq), kit_ty (r := true) (by decide +kernel), rfl, _, rfl, ite_f (by decide) ?_⟩⟩
        refine ⟨_, rfl, _, _, rfl, .inl ⟨_, .inl (.inl ep), rfl⟩, _, rfl, _, _, rfl, .inl ⟨_, .inl (.inl eq), rfl⟩, rfl, _, rfl, ite_f (by simp [hl]) ?_⟩
        refine ⟨_, rfl, _, _, rfl, .inl ⟨_, .inl (.inl eq), rfl⟩, _, rfl, by omega, by omega, ?_⟩
        refine for_it walk_range (fun _ σ H' => (∃ y, σ = [some (.ref p), some (.ref q), y]) ∧ H' = H) ⟨⟨none, rfl⟩, rfl⟩ (fun _ _ _ _ _ => trivial) (fun i x σ H1 H2 hi1 pv yy => ?_) (fun σ H1 pv => ?_)
        · obtain ⟨⟨y, rfl⟩, rfl⟩ := pv
          obtain ⟨rfl, rfl⟩ := yy
          have hi2 : i < ys.length := by omega
          have ex : xs[i]? = some (xs[i]'(by omega)) := List.getElem?_eq_getElem (by omega)
          have ey : ys[i]? = some (ys[i]'hi2) := List.getElem?_eq_getElem hi2
          refine ⟨_, rfl, _, rfl, .inl ⟨p, _, _, _, rfl, rfl, .inl (.inl ep), at_of (j := i) (by omega) ex, _, rfl, _, rfl, .inl ⟨q, _, _, _, rfl, rfl, .inl (.inl eq), at_of (j := i) (by omega) ey, _, _, rfl, hi i _ _ ex ey, _, rfl, ite_f (by decide) ?_⟩⟩⟩
          exact ⟨⟨_, rfl⟩, rfl⟩
        · obtain ⟨⟨y, rfl⟩, rfl⟩ := pv
          exact hq
theorem c_l_like {k : Nat} (B : Blt mg) (D : DefAt K mg "_law_like" s_l_like) : ∀ n : Nat, Callee P w K mg base CX0 (k + n) "_law_like" ["_law_found", "_law_due"] (sp_l_like n)
  | 0 => by
    obtain ⟨f, fd, F, g⟩ := D
    exact ⟨f, fd, g, F.kp, F.binds (fun _ _ _ _ _ _ us hl => match us, hl with | [_, _], _ => rfl), ⟨fun vs H Q E h => by
      obtain ⟨_, _, rfl, h, _⟩ := h
      exact h.elim, fun A outer s H args us vs Q E hr e hb r h => by
      obtain ⟨_, _, rfl, h, _⟩ := h
      exact h.elim⟩⟩
  | n + 1 => c_l_like_step B D (c_l_like B D n)
/-- a def of the top that keeps its promise while an exception is handled -/
def CalleeH (P : Program) (w : World) (K : PySem.W.Frag) (mg : Str → Option Value) (base : Heap) (k : Nat) (x : Str) (ps : List Str) (sp : Sp) : Prop :=
  ∃ (f : Addr) (fd : FuncData), mg x = some (.ref f) ∧ PySem.W.keepIn K (.ref f) = true ∧ Binds K fd ps [] ∧ L2H.FnH P w K mg base CX0 k f fd ps sp
section
variable {X : Cx} {k : Nat} {x : Str} {ps : List Str} {sp : Sp} {p pos : Pos} {e : Expr} {es : List Expr} {t : TA}
theorem pe_calH (c : CalleeH X.prog X.w X.K X.mg X.base k x ps sp) (hr : L2H.RoomH k X.A) (hc : L2H.HotC X) (hg : Gl X x) (ha : PA X (e :: es) t) (hdb : (x == ("__debug__" : Str)) = false := by decide)
    (he : starEach (e :: es) X.env = (false, eval e X.env) :: starEach es X.env := by rfl) (hpl : (backTo pos (starEach es X.env)).any (·.1) = false := by rfl) :
    PE X (.Call (.Name x p) (e :: es) [] pos) (tCall sp [] E0 t) := by
  obtain ⟨f, fd, g, kp, b, G⟩ := c
  have h := L2H.pe_callH (E := fun _ => E0) G hr hc hg g kp b (fun _ _ _ _ _ _ _ h => h.elim) ha hdb (pos := pos) (q := p) he hpl
  refine ⟨fun pins s σ H Q I y => h.run pins s σ H Q I ?_⟩
  have e : (fun vs H1 => sp (vs ++ []) H1 Q E0) = fun vs H1 => sp vs H1 Q E0 := by
    funext vs H1
    rw [List.append_nil]
  have y2 : t σ H (fun vs H1 => sp (vs ++ []) H1 Q E0) := y
  rw [e] at y2
  exact y2
end
theorem h_l_like_step {n k : Nat} (B : Blt mg) (D : DefAt K mg "_law_like" s_l_like) (C_l_like : CalleeH P w K mg base k "_law_like" ["_law_found", "_law_due"] (sp_l_like n)) : CalleeH P w K mg base (k + 1) "_law_like" ["_law_found", "_law_due"] (sp_l_like (n + 1)) := by
  obtain ⟨f, fd, F, g⟩ := D
  refine ⟨f, fd, g, F.kp, F.binds (fun _ _ _ _ _ _ us hl => match us, hl with | [_, _], _ => rfl), ?_⟩
  obtain ⟨oc, od, kV, doc, pm, an, cdv, ct, osl, rfl, lk, hcd⟩ := F.ex
  refine L2H.fn_ofH lk hcd sc_l_like (fun vs H Q E h => ?_) (fun A outer s H vs Q E p0 hot hr h => ?_)
  · obtain ⟨_, _, rfl, _⟩ := h
    rfl
  · obtain ⟨x, y, rfl, hL, hq⟩ := h
    have hc : L2H.HotC (L2H.cxH CX0 P w K mg base ["_law_found", "_law_due", "_law_at"] "_law_like" (defScope s_l_like) f cdv A outer s H E p0) := ⟨p0, hot, List.mem_singleton.mpr rfl⟩
    refine ⟨_,
-- _law_like: slots 0 _law_found, 1 _law_due, 2 _law_at
pss_cons (ps_if (PW.pt (pw_or (pt_val (pe_callB call_isi (by rfl) B.n_isinstance boot_isinstance (pa_cons (pv 1) (pa_cons (pe_bltn (v := .ty "tuple") (by rfl) B.n_tuple boot_tuple rfl) pa_nil)))) (pw_or1 (pt_val (pe_callB call_isi (by rfl) B.n_isinstance boot_isinstance (pa_cons (pv 1) (pa_cons (pe_bltn (v := .ty "list") (by rfl) B.n_list boot_list rfl) pa_nil)))))))
    (pss_cons (ps_if (PW.pt (pw_or (pt_cmpR op_ne (pe_callB call_isi (by rfl) B.n_isinstance boot_isinstance (pa_cons (pv 0) (pa_cons (pe_bltn (v := .ty "tuple") (by rfl) B.n_tuple boot_tuple rfl) pa_nil))) (pe_callB call_isi (by rfl) B.n_isinstance boot_isinstance (pa_cons (pv 1) (pa_cons (pe_bltn (v := .ty "tuple") (by rfl) B.n_tuple boot_tuple rfl) pa_nil))) (nomark _)) (pw_or1 (pt_cmpR op_ne (pe_callB call_isi (by rfl) B.n_isinstance boot_isinstance (pa_cons (pv 0) (pa_cons (pe_bltn (v := .ty "list") (by rfl) B.n_list boot_list rfl) pa_nil))) (pe_callB call_isi (by rfl) B.n_isinstance boot_isinstance (pa_cons (pv 1) (pa_cons (pe_bltn (v := .ty "list") (by rfl) B.n_list boot_list rfl) pa_nil))) (nomark _)))))
      (pss_one (ps_ret (pe_bl)))
      pss_nil)
    (pss_cons (ps_if (pt_cmpR op_ne (pe_callB call_len (by rfl) B.n_len boot_len (pa_cons (pv 0) pa_nil)) (pe_callB call_len (by rfl) B.n_len boot_len (pa_cons (pv 1) pa_nil)) (nomark _))
      (pss_one (ps_ret (pe_bl)))
      pss_nil)
    (pss_cons (L2H.ps_forH (passes_of rfl) hc (L2H.pi_range1H (by rfl) B.n_range (pa_cons (pe_callB call_len (by rfl) B.n_len boot_len (pa_cons (pv 1) pa_nil)) pa_nil)) (pg_name (i := 2) sc_l_like.nd rfl (.inl rfl))
      (pss_one (ps_if (pt_not (pt_val (pe_calH C_l_like hr hc (by rfl) (pa_cons (pe_ix ix_seq (pv 0) (pv 2) (fun _ _ => rfl)) (pa_cons (pe_ix ix_seq (pv 1) (pv 2) (fun _ _ => rfl)) pa_nil)))))
        (pss_one (ps_ret (pe_bl)))
        pss_nil)))
    (pss_one (ps_ret (pe_bl))))))
    pss_nil)
  (pss_cons (ps_if (pt_cmpR op_isN (pv 1) (pe_non) (nomark _))
    (pss_one (ps_ret (pe_cmpR op_isN (pv 0) (pe_non) (nomark _))))
    pss_nil)
  (pss_cons (ps_if (PW.pt (pw_or (pt_val (pe_callB call_isi (by rfl) B.n_isinstance boot_isinstance (pa_cons (pv 1) (pa_cons (pe_bltn (v := .ty "bool") (by rfl) B.n_bool boot_bool rfl) pa_nil)))) (pw_or1 (pt_val (pe_callB call_isi (by rfl) B.n_isinstance boot_isinstance (pa_cons (pv 0) (pa_cons (pe_bltn (v := .ty "bool") (by rfl) B.n_bool boot_bool rfl) pa_nil)))))))
    (pss_one (ps_ret (pe_and (pe_callB call_isi (by rfl) B.n_isinstance boot_isinstance (pa_cons (pv 1) (pa_cons (pe_bltn (v := .ty "bool") (by rfl) B.n_bool boot_bool rfl) pa_nil))) (pe_and (pe_callB call_isi (by rfl) B.n_isinstance boot_isinstance (pa_cons (pv 0) (pa_cons (pe_bltn (v := .ty "bool") (by rfl) B.n_bool boot_bool rfl) pa_nil))) (pe_one (pe_cmpR op_eq (pv 0) (pv 1) (nomark _)))))))
    pss_nil)
  (pss_cons (ps_if (pt_val (pe_callB call_isi (by rfl) B.n_isinstance boot_isinstance (pa_cons (pv 1) (pa_cons (pe_bltn (v := .ty "str") (by rfl) B.n_str boot_str rfl) pa_nil))))
    (pss_one (ps_ret (pe_and (pe_callB call_isi (by rfl) B.n_isinstance boot_isinstance (pa_cons (pv 0) (pa_cons (pe_bltn (v := .ty "str") (by rfl) B.n_str boot_str rfl) pa_nil))) (pe_one (pe_cmpR op_eq (pv 0) (pv 1) (nomark _))))))
    pss_nil)
  (pss_one (ps_ret (pe_and (pe_callB call_isi (by rfl) B.n_isinstance boot_isinstance (pa_cons (pv 0) (pa_cons (pe_bltn (v := .ty "int") (by rfl) B.n_int boot_int rfl) pa_nil))) (pe_one (pe_cmpR op_eq (pv 0) (pv 1) (nomark _)))))))))
      , ?_⟩
    rcases hL with ⟨i, rfl, rfl⟩ | ⟨z, rfl, rfl⟩ | ⟨p, q, xs, ys, rfl, rfl, ho, hl, hz, hi⟩
    · refine ⟨_, rfl, _, _, _, _, _, rfl, .ty _, .base (.int _), kit_ty (r := false) (by decide +kernel), _, rfl, ite_f (by decide) ⟨_, rfl, _, _, _, _, _, rfl, .ty _, .base (.int _), kit_ty (r := false) (by decide +kernel), _, rfl, ite_f (by decide) ?_⟩⟩
      refine ⟨_, rfl, rfl, _, rfl, ite_f (by simp) ?_⟩
      refine ⟨_, rfl, _, _, _, _, _, rfl, .ty _, .base (.int _), kit_ty (r := false) (by decide +kernel), _, rfl, ite_f (by decide) ⟨_, rfl, _, _, _, _, _, rfl, .ty _, .base (.int _), kit_ty (r := false) (by decide +kernel), _, rfl, ite_f (by decide) ?_⟩⟩
      refine ⟨_, rfl, _, _, _, _, _, rfl, .ty _, .base (.int _), kit_ty (r := false) (by decide +kernel), _, rfl, ite_f (by decide) ?_⟩
      refine ⟨_, rfl, _, _, _, _, _, rfl, .ty _, .base (.int _), kit_ty (r := true) (by decide +kernel), ?_⟩
      refine ⟨_, rfl, ite_t rfl ?_⟩
      refine ⟨_, rfl, _, rfl, rfl, ?_⟩
      rw [decide_eq_true rfl]
      exact hq
    · refine ⟨_, rfl, _, _, _, _, _, rfl, .ty _, .base (.str _), kit_ty (r := false) (by decide +kernel), _, rfl, ite_f (by decide) ⟨_, rfl, _, _, _, _, _, rfl, .ty _, .base (.str _), kit_ty (r := false) (by decide +kernel), _, rfl, ite_f (by decide) ?_⟩⟩
      refine ⟨_, rfl, rfl, _, rfl, ite_f (by simp) ?_⟩
      refine ⟨_, rfl, _, _, _, _, _, rfl, .ty _, .base (.str _), kit_ty (r := false) (by decide +kernel), _, rfl, ite_f (by decide) ⟨_, rfl, _, _, _, _, _, rfl, .ty _, .base (.str _), kit_ty (r := false) (by decide +kernel), _, rfl, ite_f (by decide) ?_⟩⟩
      refine ⟨_, rfl, _, _, _, _, _, rfl, .ty _, .base (.str _), kit_ty (r := true) (by decide +kernel), _, rfl, ite_t rfl ?_⟩
      refine ⟨_, rfl, _, _, _, _, _, rfl, .ty _, .base (.str _), kit_ty (r := true) (by decide +kernel), ?_⟩
      refine ⟨_, rfl, ite_t rfl ?_⟩
      refine ⟨_, rfl, _, rfl, rfl, ?_⟩
      rw [decide_eq_true rfl]
      exact hq
    · rcases ho with ⟨ep, eq⟩ | ⟨ep, eq⟩
      · refine ⟨_, rfl, _, _, _, _, _, rfl, .ty _, .base (.tup eq), kit_ty (r := true) (by decide +kernel), _, rfl, ite_t rfl ?_⟩
        refine ⟨_, rfl, _, _, _, _, _, rfl, .ty _, .base (.tup ep), kit_ty (r := true) (by decide +kernel), _, rfl, _, _, _, _, _, rfl, .ty _, .base (.tup eq), kit_ty (r := true) (by decide +kernel), rfl, _, rfl, ite_f (by decide) ⟨_, rfl, _, _, _, _, _, rfl, .ty _, .base (.tup ep), kit_ty (r := false) (by decide +kernel), _, rfl, _, _, _, _, _, rfl, .ty _, .base (.tup eq), kit_ty (r := false) (by decide +kernel), rfl, _, rfl, ite_f (by decide) ?_⟩⟩
        refine ⟨_, rfl, _, _, rfl, .inr ⟨_, .inl (.inl ep), rfl⟩, _, rfl, _, _, rfl, .inr ⟨_, .inl (.inl eq), rfl⟩, rfl, _, rfl, ite_f (by simp [hl]) ?_⟩
        refine ⟨_, rfl, _, _, rfl, .inr ⟨_, .inl (.inl eq), rfl⟩, _, rfl, by omega, by omega, ?_⟩
        refine for_it walk_range (fun _ σ H' => (∃ y, σ = [some (.ref p), some (.ref q), y]) ∧ H' = H) ⟨⟨none, rfl⟩, rfl⟩ (fun _ _ _ _ _ => trivial) (fun i x σ H1 H2 hi1 pv yy => ?_) (fun σ H1 pv => ?_)
        · obtain ⟨⟨y, rfl⟩, rfl⟩ := pv
          obtain ⟨rfl, rfl⟩ := yy
          have hi2 : i < ys.length := by omega
          have ex : xs[i]? = some (xs[i]'(by omega)) := List.getElem?_eq_getElem (by omega)
          have ey : ys[i]? = some (ys[i]'hi2) := List.getElem?_eq_getElem hi2
          refine ⟨_, rfl, _, rfl, .inr (.inl ⟨p, _, _, _, rfl, rfl, .inl (.inl ep), at_of (j := i) (by omega) ex, _, rfl, _, rfl, .inr (.inl ⟨q, _, _, _, rfl, rfl, .inl (.inl eq), at_of (j := i) (by omega) ey, _, _, rfl, hi i _ _ ex ey, _, rfl, ite_f (by decide) ?_⟩)⟩)⟩
          exact ⟨⟨_, rfl⟩, rfl⟩
        · obtain ⟨⟨y, rfl⟩, rfl⟩ := pv
          exact hq
      · refine ⟨_, rfl, _, _, _, _, _, rfl, .ty _, .base (.lst eq), kit_ty (r := false) (by decide +kernel), _, rfl, ite_f (by decide) ⟨_, rfl, _, _, _, _, _, rfl, .ty _, .base (.lst eq), kit_ty (r := true) (by decide +kernel), _, rfl, ite_t rfl ?_⟩⟩
        refine ⟨_, rfl, _, _, _, _, _, rfl, .ty _, .base (.lst ep), kit_ty (r := false) (by decide +kernel), _, rfl, _, _, _, _, _, rfl, .ty _, .base (.lst eq), kit_ty (r := false) (by decide +kernel), rfl, _, rfl, ite_f (by decide) ⟨_, rfl, _, _, _, _, _, rfl, .ty _, .base (.lst ep), kit_ty (r := true) (by decide +kernel), _, rfl, _, _, _, _, _, rfl, .ty _, .base (.lst eq), kit_ty (r := true) (by decide +kernel), rfl, _, rfl, ite_f (by decide) ?_⟩⟩
        refine ⟨_, rfl, _, _, rfl, .inl ⟨_, .inl (.inl ep), rfl⟩, _, rfl, _, _, rfl, .inl ⟨_, .inl (.inl eq), rfl⟩, rfl, _, rfl, ite_f (by simp [hl]) ?_⟩
        refine ⟨_, rfl, _, _, rfl, .inl ⟨_, .inl (.inl eq), rfl⟩, _, rfl, by omega, by omega, ?_⟩
        refine for_it walk_range (fun _ σ H' => (∃ y, σ = [some (.ref p), some (.ref q), y]) ∧ H' = H) ⟨⟨none, rfl⟩, rfl⟩ (fun _ _ _ _ _ => trivial) (fun i x σ H1 H2 hi1 pv yy => ?_) (fun σ H1 pv => ?_)
        · obtain ⟨⟨y, rfl⟩, rfl⟩ := pv
          obtain ⟨rfl, rfl⟩ := yy
          have hi2 : i < ys.length := by omega
          have ex : xs[i]? = some (xs[i]'(by omega)) := List.getElem?_eq_getElem (by omega)
          have ey : ys[i]? = some (ys[i]'hi2) := List.getElem?_eq_getElem hi2
          refine ⟨_, rfl, _, rfl, .inl ⟨p, _, _, _, rfl, rfl, .inl (.inl ep), at_of (j := i) (by omega) ex, _, rfl, _, rfl, .inl ⟨q, _, _, _, rfl, rfl, .inl (.inl eq), at_of (j := i) (by omega) ey, _, _, rfl, hi i _ _ ex ey, _, rfl, ite_f (by decide) ?_⟩⟩⟩
          exact ⟨⟨_, rfl⟩, rfl⟩
        · obtain ⟨⟨y, rfl⟩, rfl⟩ := pv
          exact hq
theorem h_l_like {k : Nat} (B : Blt mg) (D : DefAt K mg "_law_like" s_l_like) : ∀ n : Nat, CalleeH P w K mg base (k + n) "_law_like" ["_law_found", "_law_due"] (sp_l_like n)
  | 0 => by
    obtain ⟨f, fd, F, g⟩ := D
    exact ⟨f, fd, g, F.kp, F.binds (fun _ _ _ _ _ _ us hl => match us, hl with | [_, _], _ => rfl), ⟨fun vs H Q E h => by
      obtain ⟨_, _, rfl, h, _⟩ := h
      exact h.elim, fun A outer s H args us vs Q E p0 hr _ _ e hb r h => by
      obtain ⟨_, _, rfl, h, _⟩ := h
      exact h.elim⟩⟩
  | n + 1 => h_l_like_step B D (h_l_like B D n)

theorem Like.ints {H : Hp} {p q : Addr} {l : List Int} (hp : H p = some (.tup (l.map V.int))) (hq : H q = some (.tup (l.map V.int))) (hl : l.length ≤ 1000) : Like 2 H (.ref p) (.ref q) :=
  .inr (.inr ⟨p, q, _, _, rfl, rfl, .inl ⟨hp, hq⟩, rfl, by rw [List.length_map]; exact hl, fun i x y hx hy => by
    rw [hx] at hy
    cases hy
    obtain ⟨n, _, e⟩ := map_int_get hx
    exact .inl ⟨n, e, e⟩⟩)
theorem Like.up : ∀ {n : Nat} {H : Hp} {x y : V}, Like n H x y → Like (n + 1) H x y
  | 0, _, _, _, h => h.elim
  | n + 1, _, _, _, h => by
    rcases h with h | h | ⟨p, q, xs, ys, e1, e2, e3, e4, e5, f⟩
    · exact .inl h
    · exact .inr (.inl h)
    · exact .inr (.inr ⟨p, q, xs, ys, e1, e2, e3, e4, e5, fun i x y hx hy => (f i x y hx hy).up⟩)
def sp_l_world_is (K : PySem.W.Frag) (cC : Addr) : Sp := fun vs H Q _ => ∃ (p cl wa pa c a b : Addr) (st : List (List Int)) (ps : List (Int × List Int)), vs = [.ref p, .ref cl, .ref wa, .ref pa] ∧ st.length ≤ 1000 ∧ ps.length ≤ 1000 ∧ (∀ p ∈ ps, p.2.length ≤ 1000) ∧ H p = some (.tup [.ref c, .ref a, .ref b]) ∧
  ClAt H cC c (st.map fun s => s.getD 0 0) (st.map fun s => s.getD 1 0) (st.map fun s => s.getD 2 0) ∧ RepW H a ps ∧ RepP H b ps ∧ RepC H cl st ∧ RepW H wa ps ∧ RepP H pa ps ∧ ∀ H', Same H H' → Q (.bl true) H'
theorem c_l_world_is {k : Nat} (B : Blt mg) (D : DefAt K mg "_law_world_is" s_l_world_is) {cC fI : Addr} (TC : ClsTxt K mg cC fI) (C_l_like : Callee P w K mg base CX0 k "_law_like" ["_law_found", "_law_due"] (sp_l_like 4)) : Callee P w K mg base CX0 (k + 1) "_law_world_is" ["_law_found", "_law_cluster_here", "_law_wishes_here", "_law_placing_here"] (sp_l_world_is K cC) := by
  obtain ⟨f, fd, F, g⟩ := D
  refine ⟨f, fd, g, F.kp, F.binds (fun _ _ _ _ _ _ us hl => match us, hl with | [_, _, _, _], _ => rfl), F.ok sc_l_world_is (fun vs H Q E h => ?_) (fun cdv A outer s H vs Q E hr h => ?_)⟩
  · obtain ⟨p, cl, wa, pa, c, a, b, st, ps, rfl, _⟩ := h
    rfl
  · obtain ⟨p, cl, wa, pa, c, a, b, st, ps, rfl, hq⟩ := h
    -- slots 0 _law_found, 1 _law_cluster_here, 2 _law_wishes_here, 3 _law_placing_here
    refine ⟨_, pss_cons (ps_if (PW.pt (pw_or (pt_not (pt_val (pe_callB call_isi (by rfl) B.n_isinstance boot_isinstance (pa_cons (pv 0) (pa_cons (pe_bltn (v := .ty "tuple") (by rfl) B.n_tuple boot_tuple rfl) pa_nil))))) (pw_or (pt_cmpR op_ne (pe_callB call_len_seq (by rfl) B.n_len boot_len (pa_cons (pv 0) pa_nil)) (pe_int) (nomark _)) (pw_or1 (pt_not (pt_val (pe_callB call_isi (by rfl) B.n_isinstance boot_isinstance (pa_cons (pe_ix ix_tup (pv 0) (pe_int) (fun _ _ => rfl)) (pa_cons (pe_glob (v := .ref cC) (by rfl) TC.g rfl) pa_nil)))))))))
        (pss_one (ps_ret (pe_bl)))
        pss_nil)
      (pss_cons (ps_if (pt_not (pt_val (pe_cal C_l_like hr (by rfl) (pa_cons (pe_tup (pa_cons (pe_fld (pe_ix ix_tup (pv 0) (pe_int) (fun _ _ => rfl)) rfl) (pa_cons (pe_fld (pe_ix ix_tup (pv 0) (pe_int) (fun _ _ => rfl)) rfl) (pa_cons (pe_fld (pe_ix ix_tup (pv 0) (pe_int) (fun _ _ => rfl)) rfl) pa_nil)))) (pa_cons (pv 1) pa_nil)))))
        (pss_one (ps_ret (pe_bl)))
        pss_nil)
      (pss_one (ps_ret (pe_cal C_l_like hr (by rfl) (pa_cons (pe_slice sl_tup (pv 0) (po_some (pe_int)) po_none) (pa_cons (pe_tup (pa_cons (pv 2) (pa_cons (pv 3) pa_nil))) pa_nil)))))), ?_⟩
    obtain ⟨hst, hps, hp2, ep, hcl, ha, hb, hrc, hwa, hpa, q⟩ := hq
    refine ⟨_, rfl, _, _, _, _, _, rfl, .ty _, .base (.tup ep), kit_ty (r := true) (by decide +kernel), _, rfl, ite_f (by decide) ?_⟩
    obtain ⟨dx, fs, p1, p2, p3, ec, lf1, lf2, lf3, _, g1, g2, g3⟩ := hcl
    obtain ⟨r0, r1, r2, ecl, k0, k1, k2⟩ := hrc
    obtain ⟨qs, eb, lqs, fqs⟩ := hb
    obtain ⟨ts, epa, lts, fts⟩ := hpa
    refine ⟨_, rfl, p, _, rfl, .inr (.inl (.inl ep)), rfl, _, rfl, ite_f (by simp) ?_⟩
    refine ⟨_, rfl, p, _, 0, _, rfl, rfl, .inl (.inl ep), atI_nat (j := 0) rfl, _, _, _, _, _, rfl, .own _, .base (TyOf.ins ec TC.cl TC.ha TC.hn TC.htk TC.hm), TC.kit, _, rfl, ite_f (by decide) ?_⟩
    refine ⟨_, rfl, p, _, 0, _, rfl, rfl, .inl (.inl ep), atI_nat (j := 0) rfl, c, _, _, _, _, rfl, ec, TC.cl, TC.nRacks, lf1, _, rfl, p, _, 0, _, rfl, rfl, .inl (.inl ep), atI_nat (j := 0) rfl, c, _, _, _, _, rfl, ec, TC.cl, TC.nRooms, lf2,
      _, rfl, p, _, 0, _, rfl, rfl, .inl (.inl ep), atI_nat (j := 0) rfl, c, _, _, _, _, rfl, ec, TC.cl, TC.nRates, lf3, by show 3 ≤ sizeLine; decide, fun t1 n1 => ?_⟩
    have s1 := same_upd (o := .tup [.ref p1, .ref p2, .ref p3]) n1
    have lz : ∀ k : Nat, (st.map fun s => s.getD k 0).length ≤ 1000 := fun k => by rw [List.length_map]; exact hst
    have cm : ∀ k : Nat, ((st.map fun s => s.getD k 0).map V.int) = st.map fun s => V.int (s.getD k 0) := fun k => by rw [List.map_map]; rfl
    rw [← cm] at k0 k1 k2
    refine ⟨_, rfl, _, _, rfl, .inr (.inr ⟨t1, cl, _, _, rfl, rfl, .inl ⟨upd_same, s1 _ _ ecl⟩, rfl, by show 3 ≤ 1000; decide, fun i x y hx hy => ?_⟩), _, rfl, ite_f (by decide) ?_⟩
    · match i, hx, hy with
      | 0, hx, hy => cases hx; cases hy; exact (Like.ints (s1 _ _ g1) (s1 _ _ k0) (lz 0)).up
      | 1, hx, hy => cases hx; cases hy; exact (Like.ints (s1 _ _ g2) (s1 _ _ k1) (lz 1)).up
      | 2, hx, hy => cases hx; cases hy; exact (Like.ints (s1 _ _ g3) (s1 _ _ k2) (lz 2)).up
    · refine ⟨_, rfl, 1, rfl, p, [.ref c, .ref a, .ref b], rfl, .inl (.inl (s1 _ _ ep)), by show ¬ (HT.sIx 3 0 (some 1) = 0 ∧ HT.sIx 3 3 none = 3); decide, fun t2 n2 => ?_⟩
      have s2 := same_upd (o := .tup (cutV [.ref c, .ref a, .ref b] (some 1) none)) n2
      have e2 : (upd (upd H t1 (.tup [.ref p1, .ref p2, .ref p3])) t2 (.tup (cutV [.ref c, .ref a, .ref b] (some 1) none))) t2 = some (.tup [.ref a, .ref b]) := upd_same
      refine ⟨_, rfl, _, rfl, by show 2 ≤ sizeLine; decide, fun t3 n3 => ?_⟩
      have s3 := same_upd (o := .tup [.ref wa, .ref pa]) n3
      have sA := (s1.trans s2).trans s3
      refine ⟨_, _, rfl, .inr (.inr ⟨t2, t3, _, _, rfl, rfl, .inl ⟨s3 _ _ e2, upd_same⟩, rfl, by show 2 ≤ 1000; decide, fun i x y hx hy => ?_⟩), q _ sA⟩
      have cw : (ps.map fun p => V.int p.1) = (ps.map fun p => p.1).map V.int := by rw [List.map_map]; rfl
      have ha' := sA _ _ ha
      have hwa' := sA _ _ hwa
      rw [cw] at ha' hwa'
      match i, hx, hy with
      | 0, hx, hy => cases hx; cases hy; exact (Like.ints ha' hwa' (by rw [List.length_map]; exact hps)).up
      | 1, hx, hy =>
        cases hx; cases hy
        refine .inr (.inr ⟨b, pa, _, _, rfl, rfl, .inl ⟨sA _ _ eb, sA _ _ epa⟩, by rw [List.length_map, List.length_map]; omega, by rw [List.length_map]; omega, fun i x y hx hy => ?_⟩)
        obtain ⟨u, hu, rfl⟩ := map_ref_get hx
        obtain ⟨v, hv, rfl⟩ := map_ref_get hy
        have hp : ps[i]? = some (ps[i]'(by have := (List.getElem?_eq_some_iff.mp hu).1; omega)) := List.getElem?_eq_getElem _
        exact Like.ints (sA _ _ (fqs i u _ hu hp)) (sA _ _ (fts i v _ hv hp)) (hp2 _ (List.mem_of_getElem? hp))

theorem errD_text {v1 v2 : V} : (errD v1 v2).lookup ("text" : Str) = some v1 := by
  unfold errD
  simp only [List.lookup, show (("text" : Str) == ("at" : Str)) = false from by decide +kernel, show (("text" : Str) == ("text" : Str)) = true from by decide +kernel]
theorem errD_at {v1 v2 : V} : (errD v1 v2).lookup ("at" : Str) = some v2 := by
  unfold errD
  simp only [List.lookup, show (("at" : Str) == ("at" : Str)) = true from by decide +kernel]
theorem takes0 {X : Cx} : L2N.Takes X (fun _ _ _ _ => False) := fun u s' x => by
  obtain ⟨_, _, _, _, _, _, _, _, _, _, _, _, _, _, _, _, h⟩ := x
  exact h.elim
theorem like_bad {H : Hp} {p q : Addr} {z : Str} {k : Int} (hp : H p = some (.lst [.str z, .int k])) (hq : H q = some (.lst [.str z, .int k])) : Like 2 H (.ref p) (.ref q) :=
  .inr (.inr ⟨p, q, _, _, rfl, rfl, .inr ⟨hp, hq⟩, rfl, by show 2 ≤ 1000; decide, fun i x y hx hy => by
    rw [hx] at hy
    cases hy
    match i, hx with
    | 0, hx => cases hx; exact .inr (.inl ⟨z, rfl, rfl⟩)
    | 1, hx => cases hx; exact .inl ⟨k, rfl, rfl⟩⟩)
def sp_l_is_right : Sp := fun vs H Q _ => ∃ (z : Str), vs = [.str z] ∧ z.length ≤ 800000 ∧ ∀ H', Same H H' → Q (.bl true) H'
theorem c_l_is_right {k : Nat} {cT fT cC fC : Addr} (B : Blt mg) (D : DefAt K mg "_law_is_right" s_l_is_right) (TT : K6X.TxtT P K mg cT fT) (TC : ClsTxt K mg cC fC)
    (C_l_read : Callee P w K mg base CX0 k "_law_read" ["_law_text"] sp_l_read) (C_read_world : Callee P w K mg base (L2N.CX P w) k "read_world" ["text"] (sp_read_world cT cC))
    (C_l_like : CalleeH P w K mg base k "_law_like" ["_law_found", "_law_due"] (sp_l_like 2)) (C_l_world_is : Callee P w K mg base CX0 k "_law_world_is" ["_law_found", "_law_cluster_here", "_law_wishes_here", "_law_placing_here"] (sp_l_world_is K cC))
    (C_write_world : Callee P w K mg base CX0 k "write_world" ["cluster", "wishes", "placing"] (sp_write_world K cC)) :
    Callee P w K mg base CX0 (k + 1) "_law_is_right" ["_law_text"] sp_l_is_right := by
  obtain ⟨f, fd, F, g⟩ := D
  obtain ⟨fr, fdr, gr, kr, br, Gr⟩ := C_read_world
  refine ⟨f, fd, g, F.kp, F.binds (fun _ _ _ _ _ _ us hl => match us, hl with | [_], _ => rfl), F.ok sc_l_is_right (fun vs H Q E h => ?_) (fun cdv A outer s H vs Q E hr h => ?_)⟩
  · obtain ⟨z, rfl, _⟩ := h
    rfl
  · obtain ⟨z, rfl, hz, hq⟩ := h
    -- slots 0 _law_text, 1 _law_due, 2 _law_found, 3 e
    refine ⟨_, pss_cons (ps_set (i := 1) sc_l_is_right.nd rfl (.inl rfl) (pe_cal C_l_read hr (by rfl) (pa_cons (pv 0) pa_nil)))
      (pss_cons (L2N.ps_try_as (i := 3) (tb := fun W => tAsg (tCallS (sp_read_world cT cC) (WE W) (tCons (tVar 0) tNil)) (gName 2))
        (ts := fun a cls d => tRet (tAndV (tOp rEq (tOp (rIxL K) (tVar 1) (tC (.int 0))) (tC (.str "bad"))) (tCall (sp_l_like 2) [] E0 (tCons (tLst (tCons (tByT cT "text" a cls d (tVar 3)) (tCons (tByT cT "at" a cls d (tVar 3)) tNil))) (tCons (tLst (tCons (tVar 0) (tCons (tOp (rIxL K) (tVar 1) (tC (.int 1))) tNil))) tNil)))))
        (Wout := fun _ _ _ _ => False) rfl rfl sc_l_is_right.nd rfl rfl ⟨rfl, by decide, .inl TT.gC⟩ takes0
        (fun W pn xe tk _ => pss_one (ps_set (i := 2) sc_l_is_right.nd rfl (.inl rfl) (by exact (pe_callS Gr hr rfl gr kr br (fun σ => L2N.passAt tk σ) (by exact (pa_cons (pv 0) pa_nil))))))
        (fun a oe cls d pn hzn hf => pss_one (ps_ret (pe_and (pe_cmpR op_eq (pe_ix (ix_listK (K := K)) (pv 1) (pe_int) (fun _ _ => rfl)) (pe_str) (nomark _)) (pe_one (pe_calH C_l_like ⟨hr.dp, hr.un⟩ (let ⟨vs, e⟩ := hf; ⟨(a, oe), ⟨rfl, vs, e, hzn.2.2 vs e⟩, List.mem_cons_self⟩) (by rfl) (pa_cons (pe_lst (pa_cons (pe_byT TT TT.nT hzn hf (pv 3)) (pa_cons (pe_byT TT TT.nA hzn hf (pv 3)) pa_nil))) (pa_cons (pe_lst (pa_cons (pv 0) (pa_cons (pe_ix (ix_listK (K := K)) (pv 1) (pe_int) (fun _ _ => rfl)) pa_nil))) pa_nil))))))))
      (pss_cons (ps_if (PW.pt (pw_or (pt_cmpR op_eq (pe_ix ix_list (pv 1) (pe_int) (fun _ _ => rfl)) (pe_str) (nomark _)) (pw_or1 (pt_not (pt_val (pe_cal C_l_world_is hr (by rfl) (pa_cons (pv 2) (pa_cons (pe_ix ix_list (pv 1) (pe_int) (fun _ _ => rfl)) (pa_cons (pe_ix ix_list (pv 1) (pe_int) (fun _ _ => rfl)) (pa_cons (pe_ix ix_list (pv 1) (pe_int) (fun _ _ => rfl)) pa_nil))))))))))
        (pss_one (ps_ret (pe_bl)))
        pss_nil)
      (pss_one (ps_ret (pe_cmpR op_eq (pe_cal C_write_world hr (by rfl) (pa_cons (pe_ix ix_tup (pv 2) (pe_int) (fun _ _ => rfl)) (pa_cons (pe_ix ix_tup (pv 2) (pe_int) (fun _ _ => rfl)) (pa_cons (pe_ix ix_tup (pv 2) (pe_int) (fun _ _ => rfl)) pa_nil)))) (pv 0) (nomark _)))))), ?_⟩
    refine ⟨_, rfl, z, rfl, hz, fun H1 r k s1 er hM => ?_, fun H1 r c a b wd s1 er hc ha hb hM => ?_⟩
    · refine ⟨_, rfl, z, rfl, hz, fun k' H2 d hM2 s2 ed => ?_, fun wd H2 p c a b hM2 s2 ep _ _ _ => ?_⟩
      · have ek : k' = k := by
          rw [hM] at hM2
          exact (Res.bad.inj hM2).symm
        subst ek
        refine ⟨true, TT.te, fun _ a na => ?_, fun h => nomatch h⟩
        have er2 := s2 _ _ er
        refine ⟨_, rfl, r, _, 0, _, rfl, rfl, .inl (.inl er2), atI_nat (j := 0) rfl, rfl, _, rfl, ite_t (d_t rfl) ?_⟩
        refine ⟨_, rfl, rfl, rfl, d, .str z, _, rfl, ed, errD_text, _, rfl, rfl, rfl, d, .int (k' : Nat), _, rfl, ed, errD_at, by show 2 ≤ sizeLine; decide, fun p np => ?_⟩
        have sp := same_upd (o := .lst [.str z, .int (k' : Nat)]) np
        refine ⟨_, rfl, _, rfl, r, _, 1, _, rfl, rfl, .inl (.inl (sp _ _ er2)), atI_nat (j := 1) rfl, by show 2 ≤ sizeLine; decide, fun q nq => ?_⟩
        have sq := same_upd (o := .lst [.str z, .int (k' : Nat)]) nq
        exact ⟨_, _, rfl, like_bad (sq _ _ upd_same) upd_same, hq _ ((s1.trans s2).trans (sp.trans sq))⟩
      · rw [hM] at hM2
        cases hM2
    · refine ⟨_, rfl, z, rfl, hz, fun k' H2 d hM2 s2 ed => ?_, fun wd' H2 p c' a' b' hM2 s2 ep hcl hw hp => ?_⟩
      · rw [hM] at hM2
        cases hM2
      · have ew : wd' = wd := by
          rw [hM] at hM2
          exact (Res.good.inj hM2).symm
        subst ew
        obtain ⟨sm, ewr, hst1, hst⟩ := read_small hM
        have er2 := s2 _ _ er
        refine ⟨_, rfl, r, _, 0, _, rfl, rfl, .inl (.inl er2), atI_nat (j := 0) rfl, rfl, _, rfl, ite_f (by decide +kernel) ?_⟩
        refine ⟨_, rfl, _, rfl, r, _, 1, _, rfl, rfl, .inl (.inl er2), atI_nat (j := 1) rfl, _, rfl, r, _, 2, _, rfl, rfl, .inl (.inl er2), atI_nat (j := 2) rfl, _, rfl, r, _, 3, _, rfl, rfl, .inl (.inl er2), atI_nat (j := 3) rfl, ?_⟩
        refine ⟨p, c, a, b, c', a', b', wd'.stores, wd'.pieces, rfl, by have := sm.s8; omega, by have := sm.p40; omega, fun p hp => by have := (sm.lv p hp).1; omega, ep, hcl, hw, hp, hc.same s2, ha.same s2, hb.same s2, fun H3 s3 => ?_⟩
        refine ⟨_, rfl, ite_f (by decide) ?_⟩
        refine ⟨_, rfl, p, _, 0, _, rfl, rfl, .inl (.inl (s3 _ _ ep)), atI_nat (j := 0) rfl, _, rfl, p, _, 1, _, rfl, rfl, .inl (.inl (s3 _ _ ep)), atI_nat (j := 1) rfl, _, rfl, p, _, 2, _, rfl, rfl, .inl (.inl (s3 _ _ ep)), atI_nat (j := 2) rfl, ?_⟩
        refine ⟨c', a', b', wd'.stores, wd'.pieces, rfl, hcl.same s3, hw.same s3, hp.same s3, sm, fun H4 s4 => ?_⟩
        refine ⟨_, rfl, rfl, ?_⟩
        rw [ewr, decide_eq_true rfl]
        exact hq _ ((s1.trans s2).trans (s3.trans s4))

end
end K6

namespace K6
open PySem PySem.Spec PyProof.Rows L2
open TL (tl len_tl ext_tl tl_append)
section
variable {P : Program} {w : World} {K : PySem.W.Frag} {mg : Str → Option Value} {base : Heap}
/-- the hand at h: its draws at dr, and how many it took -/
def HandAt (H : Hp) (h dr : Addr) : Prop := h ≠ dr ∧ (∃ n : Nat, H h = some (.lst [.ref dr, .int (n : Nat)])) ∧ ∃ ds : List Int, H dr = some (.lst (ds.map V.int))
theorem HandAt.same {H H' : Hp} {h dr : Addr} (x : HandAt H h dr) (s : Same H H') : HandAt H' h dr :=
  let ⟨n, ⟨k, e⟩, ds, d⟩ := x
  ⟨n, ⟨k, s _ _ e⟩, ds, s _ _ d⟩
def sp_l_take : Sp := fun vs H Q _ => ∃ (h dr : Addr) (m : Int), vs = [.ref h, .int m] ∧ HandAt H h dr ∧ 1 ≤ m ∧ ∀ H' r, But h H H' → HandAt H' h dr → 0 ≤ r → r < m → Q (.int r) H'
theorem c_l_take {k : Nat} (B : Blt mg) (D : DefAt K mg "_law_take" s_l_take) : Callee P w K mg base CX0 (k + 1) "_law_take" ["_law_hand", "_law_many"] sp_l_take := by
  obtain ⟨f, fd, F, g⟩ := D
  refine ⟨f, fd, g, F.kp, F.binds (fun _ _ _ _ _ _ us hl => match us, hl with | [_, _], _ => rfl), F.ok sc_l_take (fun vs H Q E h => ?_) (fun cdv A outer s H vs Q E hr h => ?_)⟩
  · obtain ⟨h, dr, m, rfl, _⟩ := h
    rfl
  · obtain ⟨h, dr, m, rfl, hq⟩ := h
    -- slots 0 _law_hand, 1 _law_many, 2 _law_at, 3 _law_draws_here
    refine ⟨_, pss_cons (ps_set (i := 2) sc_l_take.nd rfl (.inl rfl) (pe_ix ix_list (pv 0) (pe_int) (fun _ _ => rfl)))
      (pss_cons (ps_asg (pe_op op_add (pv 2) (pe_int)) (pg_sub (pv 0) (pe_int) set_list))
      (pss_cons (ps_set (i := 3) sc_l_take.nd rfl (.inl rfl) (pe_ix ix_list (pv 0) (pe_int) (fun _ _ => rfl)))
      (pss_cons (ps_if (pt_cmpR op_ge (pv 2) (pe_callB call_len_seq (by rfl) B.n_len boot_len (pa_cons (pv 3) pa_nil)) (nomark _))
        (pss_one (ps_ret (pe_int)))
        pss_nil)
      (pss_one (ps_ret (pe_op op_mod (pe_op op_fdiv (pe_callTy call_int1 (by rfl) B.n_int boot_int (pa_cons (pe_ix ix_list (pv 3) (pv 2) (fun _ _ => rfl)) pa_nil)) (pe_int)) (pv 1))))))), ?_⟩
    obtain ⟨⟨hne, ⟨n, eh⟩, ds, ed⟩, hm, q⟩ := hq
    refine ⟨_, rfl, h, _, 1, _, rfl, rfl, .inl (.inl eh), atI_nat (j := 1) rfl, ?_⟩
    refine ⟨_, rfl, _, _, rfl, rfl, _, rfl, h, _, 1, 1, rfl, rfl, eh, rfl, ?_⟩
    have ed2 : (upd H h (.lst [.ref dr, .int ((n : Int) + 1)])) dr = some (.lst (ds.map V.int)) := by rw [upd_ne (Ne.symm hne)]; exact ed
    have eh2 : (upd H h (.lst [.ref dr, .int ((n : Int) + 1)])) h = some (.lst [.ref dr, .int ((n : Int) + 1)]) := upd_same
    have hb : But h H (upd H h (.lst [.ref dr, .int ((n : Int) + 1)])) := fun b o k e => by rw [upd_ne k]; exact e
    have hh : HandAt (upd H h (.lst [.ref dr, .int ((n : Int) + 1)])) h dr := ⟨hne, ⟨n + 1, by rw [eh2]; rfl⟩, ds, ed2⟩
    show tSeq _ _ _ _ (upd H h (.lst [.ref dr, .int ((n : Int) + 1)]))
    generalize upd H h (.lst [.ref dr, .int ((n : Int) + 1)]) = H2 at ed2 eh2 hb hh ⊢
    refine ⟨_, rfl, h, _, 0, _, rfl, rfl, .inl (.inl eh2), atI_nat (j := 0) rfl, ?_⟩
    refine ⟨_, rfl, _, rfl, dr, _, rfl, .inl (.inl (.inl ed2)), _, _, rfl, rfl, _, rfl, ite2 (fun _ => ?_) (fun hlt => ?_)⟩
    · exact q _ 0 hb hh (by omega) (by omega)
    · have hn : n < ds.length := by
        simp only [decide_eq_true_eq, ge_iff_le, List.length_map] at hlt
        omega
      have hd : (ds.map V.int)[n]? = some (.int (ds[n]'hn)) := by
        rw [List.getElem?_map, List.getElem?_eq_getElem hn]
        rfl
      exact ⟨_, rfl, _, rfl, dr, _, _, _, rfl, rfl, .inl (.inl ed2), at_of (j := n) (by omega) hd, .inl ⟨_, rfl, _, _, rfl, rfl, ⟨by decide, by decide⟩, _, rfl, _, _, rfl, rfl, by omega, q _ _ hb hh (Int.emod_nonneg _ (by omega)) (Int.emod_lt_of_pos _ (by omega))⟩⟩

theorem HandAt.but {H H' : Hp} {h dr D : Addr} (x : HandAt H h dr) (n1 : D ≠ h) (n2 : D ≠ dr) (s : ∀ b o, b ≠ D → H b = some o → H' b = some o) : HandAt H' h dr :=
  let ⟨n, ⟨k, e⟩, ds, d⟩ := x
  ⟨n, ⟨k, s _ _ (Ne.symm n1) e⟩, ds, s _ _ (Ne.symm n2) d⟩
theorem HandAt.lst {H : Hp} {h dr : Addr} (x : HandAt H h dr) : ∃ v, H h = some (.lst v) := let ⟨_, ⟨_, e⟩, _⟩ := x; ⟨_, e⟩
theorem HandAt.ne {H : Hp} {h dr D : Addr} (x : HandAt H h dr) (n : H D = none) : D ≠ h ∧ D ≠ dr := by
  obtain ⟨_, ⟨_, e⟩, ds, d⟩ := x
  refine ⟨fun z => ?_, fun z => ?_⟩
  · rw [z, e] at n
    cases n
  · rw [z, d] at n
    cases n
theorem ints_of {P : Int → Prop} : ∀ {ys : List V}, (∀ y ∈ ys, ∃ n : Int, y = .int n ∧ P n) → ∃ l : List Int, ys = l.map V.int ∧ ∀ n ∈ l, P n
  | [], _ => ⟨[], rfl, fun _ h => nomatch h⟩
  | y :: ys, h => by
    obtain ⟨n, e, p⟩ := h y (List.mem_cons_self ..)
    obtain ⟨l, e2, p2⟩ := ints_of (ys := ys) fun z hz => h z (List.mem_cons_of_mem _ hz)
    refine ⟨n :: l, by rw [e, e2]; rfl, fun m hm => ?_⟩
    rcases List.mem_cons.mp hm with e3 | hm
    · rw [e3]; exact p
    · exact p2 m hm
theorem pick {l : List Int} {r : Int} (h0 : 0 ≤ r) (h1 : r < l.length) : ∃ n, n ∈ l ∧ atI (l.map V.int) r = some (.int n) := by
  have hr : r.toNat < l.length := by omega
  have e : (l.map V.int)[r.toNat]? = some (.int (l[r.toNat]'hr)) := by rw [List.getElem?_map, List.getElem?_eq_getElem hr]; rfl
  exact ⟨_, List.getElem_mem hr, at_of (j := r.toNat) (by omega) e⟩
section
variable {J : It} {n : Nat} {G : Hp → Prop} {Y : Nat → Hp → V → Hp → Prop}
/-- a comprehension whose turns draw from the hand at h -/
theorem lc_hand (w : Walk J n G Y) {g : TG} {te : TE} {vs : List Nat} {σ : L2.St} {H1 : Hp} {D h dr : Addr} {Qd : Hp → Prop} (R : V → Hp → Prop) (hz : n ≤ 10000000) (hD : H1 D = none) (hh : HandAt H1 h dr)
    (hR : ∀ y H H', (∀ b o, b ≠ h → b ≠ D → H b = some o → H' b = some o) → (∃ v, H h = some (.lst v)) → (∃ v, H D = some (.lst v)) → R y H → R y H')
    (hG : ∀ H, But h H1 H → HandAt H h dr → G H)
    (hs : ∀ i x H H' (Q : VK), i < n → But h H1 H → HandAt H h dr → Y i H x H' → (∀ y H4, But h H H4 → HandAt H4 h dr → R y H4 → Q y H4) → g x (wipe σ vs) H' fun σ2 H2 => wipe σ2 vs = wipe σ vs ∧ te σ2 H2 Q)
    (hd : ∀ H ys, But h H1 H → HandAt H h dr → H D = some (.lst ys) → ys.length = n → (∀ y ∈ ys, R y H) → Qd H) :
    ∃ W : Nat → Nat → Hp → Prop, (∃ m, W 0 m (upd H1 D (.lst []))) ∧ ∀ i m H, W i m H →
      (J.stop i H ∧ Qd H) ∨ (J.go i H ∧ ∃ Nx : Hp → Prop, (∀ H', Nx H' → ∃ m', m' < m ∧ W (i + 1) m' H') ∧ ∀ x H', J.yld i H x H' → g x (wipe σ vs) H' fun σ2 H2 => wipe σ2 vs = wipe σ vs ∧ tYes σ2 H2 fun b H3 =>
        if b = true then te σ2 H3 fun y H4 => ∃ acc, H4 D = some (.lst acc) ∧ acc.length < sizeLine ∧ Nx (upd H4 D (.lst (acc ++ [y]))) else Nx H3) := by
  obtain ⟨nh, nd⟩ := hh.ne hD
  have up : ∀ {H : Hp} {o : HO}, ∀ b u, b ≠ D → H b = some u → (upd H D o) b = some u := fun b u k e => by rw [upd_ne k]; exact e
  refine lc_it w (fun i H => But h H1 H ∧ HandAt H h dr ∧ ∃ ys : List V, H D = some (.lst ys) ∧ ys.length = i ∧ ∀ y ∈ ys, R y H) ⟨fun b o k e => up b o (ne_of_none e hD) e, hh.but nh nd up, [], upd_same, rfl, fun y h => nomatch h⟩ (fun i H _ p => hG H p.1 p.2.1) (fun i x H H' hi p y => ?_) (fun H p => ?_)
  · obtain ⟨b1, h1, ys, e, hl, hr⟩ := p
    refine hs i x H H' _ hi b1 h1 y fun y H4 b4 h4 ry => ?_
    have e4 := b4 _ _ nh e
    refine ⟨ys, e4, big6' (by omega), fun b o k eb => up b o (ne_of_none eb hD) (b4 _ _ k (b1 _ _ k eb)), h4.but nh nd up, ys ++ [y], upd_same, by simp [hl], fun z hz => ?_⟩
    rcases List.mem_append.mp hz with hz | hz
    · exact hR _ _ _ (fun b o k1 k2 eb => up b o k2 eb) h4.lst ⟨_, e4⟩ (hR _ _ _ (fun b o k1 k2 eb => b4 b o k1 eb) h1.lst ⟨_, e⟩ (hr z hz))
    · rw [List.mem_singleton.mp hz]
      exact hR _ _ _ (fun b o k1 k2 eb => up b o k2 eb) h4.lst ⟨_, e4⟩ ry
  · obtain ⟨b1, h1, ys, e, hl, hr⟩ := p
    exact hd H ys b1 h1 e hl hr
/-- as lc_hand, with a test -/
theorem lc_handIf (w : Walk J n G Y) {g : TG} {tt : TT} {te : TE} {vs : List Nat} {σ : L2.St} {H1 : Hp} {D h dr : Addr} {Qd : Hp → Prop} (R : V → Hp → Prop) (hz : n ≤ 10000000) (hD : H1 D = none) (hh : HandAt H1 h dr)
    (hR : ∀ y H H', (∀ b o, b ≠ h → b ≠ D → H b = some o → H' b = some o) → (∃ v, H h = some (.lst v)) → (∃ v, H D = some (.lst v)) → R y H → R y H')
    (hG : ∀ H, But h H1 H → HandAt H h dr → G H)
    (hs : ∀ i x H H' (Q : VK) (N : Hp → Prop), i < n → But h H1 H → HandAt H h dr → Y i H x H' → (∀ y H4, But h H H4 → HandAt H4 h dr → R y H4 → Q y H4) → (∀ H4, But h H H4 → HandAt H4 h dr → N H4) → g x (wipe σ vs) H' fun σ2 H2 => wipe σ2 vs = wipe σ vs ∧ tt σ2 H2 fun b H3 => if b = true then te σ2 H3 Q else N H3)
    (hd : ∀ H ys, But h H1 H → HandAt H h dr → H D = some (.lst ys) → ys.length ≤ n → (∀ y ∈ ys, R y H) → Qd H) :
    ∃ W : Nat → Nat → Hp → Prop, (∃ m, W 0 m (upd H1 D (.lst []))) ∧ ∀ i m H, W i m H →
      (J.stop i H ∧ Qd H) ∨ (J.go i H ∧ ∃ Nx : Hp → Prop, (∀ H', Nx H' → ∃ m', m' < m ∧ W (i + 1) m' H') ∧ ∀ x H', J.yld i H x H' → g x (wipe σ vs) H' fun σ2 H2 => wipe σ2 vs = wipe σ vs ∧ tt σ2 H2 fun b H3 =>
        if b = true then te σ2 H3 fun y H4 => ∃ acc, H4 D = some (.lst acc) ∧ acc.length < sizeLine ∧ Nx (upd H4 D (.lst (acc ++ [y]))) else Nx H3) := by
  obtain ⟨nh, nd⟩ := hh.ne hD
  have up : ∀ {H : Hp} {o : HO}, ∀ b u, b ≠ D → H b = some u → (upd H D o) b = some u := fun b u k e => by rw [upd_ne k]; exact e
  refine lc_it w (fun i H => But h H1 H ∧ HandAt H h dr ∧ ∃ ys : List V, H D = some (.lst ys) ∧ ys.length ≤ i ∧ ∀ y ∈ ys, R y H) ⟨fun b o k e => up b o (ne_of_none e hD) e, hh.but nh nd up, [], upd_same, Nat.le_refl _, fun y h => nomatch h⟩ (fun i H _ p => hG H p.1 p.2.1) (fun i x H H' hi p y => ?_) (fun H p => ?_)
  · obtain ⟨b1, h1, ys, e, hl, hr⟩ := p
    refine hs i x H H' _ _ hi b1 h1 y (fun y H4 b4 h4 ry => ?_) (fun H4 b4 h4 => ?_)
    · have e4 := b4 _ _ nh e
      refine ⟨ys, e4, big6' (by omega), fun b o k eb => up b o (ne_of_none eb hD) (b4 _ _ k (b1 _ _ k eb)), h4.but nh nd up, ys ++ [y], upd_same, by simp; omega, fun z hz => ?_⟩
      rcases List.mem_append.mp hz with hz | hz
      · exact hR _ _ _ (fun b o k1 k2 eb => up b o k2 eb) h4.lst ⟨_, e4⟩ (hR _ _ _ (fun b o k1 k2 eb => b4 b o k1 eb) h1.lst ⟨_, e⟩ (hr z hz))
      · rw [List.mem_singleton.mp hz]
        exact hR _ _ _ (fun b o k1 k2 eb => up b o k2 eb) h4.lst ⟨_, e4⟩ ry
    · have e4 := b4 _ _ nh e
      exact ⟨fun b o k eb => b4 _ _ k (b1 _ _ k eb), h4, ys, e4, by omega, fun z hz => hR _ _ _ (fun b o k1 k2 eb => b4 b o k1 eb) h1.lst ⟨_, e⟩ (hr z hz)⟩
  · obtain ⟨b1, h1, ys, e, hl, hr⟩ := p
    exact hd H ys b1 h1 e hl hr
end
def RInt (y : V) (_ : Hp) : Prop := ∃ n : Int, y = .int n ∧ 0 ≤ n ∧ n < 100

/-- a cluster as the law has it: three rows of n numbers -/
def ClT (H : Hp) (p : Addr) (n : Nat) : Prop := ∃ (r0 r1 r2 : Addr) (l0 l1 l2 : List Int), H p = some (.tup [.ref r0, .ref r1, .ref r2]) ∧ H r0 = some (.tup (l0.map V.int)) ∧ H r1 = some (.tup (l1.map V.int)) ∧ H r2 = some (.tup (l2.map V.int)) ∧ l0.length = n ∧ l1.length = n ∧ l2.length = n ∧
  (∀ m ∈ l0, 0 ≤ m ∧ m < 100) ∧ (∀ m ∈ l1, 0 ≤ m ∧ m < 100) ∧ (∀ m ∈ l2, 0 ≤ m ∧ m < 100)
def sp_l_cluster : Sp := fun vs H Q _ => ∃ (h dr : Addr), vs = [.ref h, .int 5] ∧ HandAt H h dr ∧ ∀ H' p n, But h H H' → HandAt H' h dr → 1 ≤ n → n ≤ 5 → ClT H' p n → Q (.ref p) H'
theorem c_l_cluster {k : Nat} (B : Blt mg) (D : DefAt K mg "_law_cluster" s_l_cluster) (C_l_take : Callee P w K mg base CX0 k "_law_take" ["_law_hand", "_law_many"] sp_l_take) : Callee P w K mg base CX0 (k + 1) "_law_cluster" ["_law_hand", "_law_most"] sp_l_cluster := by
  obtain ⟨f, fd, F, g⟩ := D
  refine ⟨f, fd, g, F.kp, F.binds (fun _ _ _ _ _ _ us hl => match us, hl with | [_, _], _ => rfl), F.ok sc_l_cluster (fun vs H Q E h => ?_) (fun cdv A outer s H vs Q E hr h => ?_)⟩
  · obtain ⟨h, dr, rfl, _⟩ := h
    rfl
  · obtain ⟨h, dr, rfl, hq⟩ := h
    -- slots 0 _law_hand*, 1 _law_most, 2 _law_many, 3 _law_racks, 4 _law_rooms, 5 _law_v
    refine ⟨_, pss_cons (ps_set (i := 2) sc_l_cluster.nd rfl (.inl rfl) (pe_op op_add (pe_int) (pe_cal C_l_take hr (by rfl) (pa_cons (pv 0) (pa_cons (pv 1) pa_nil)))))
      (pss_cons (ps_set (i := 3) sc_l_cluster.nd rfl (.inl rfl) (pe_callTy call_tuple_of (by rfl) B.n_tuple boot_tuple (pa_cons (pe_lc (own := [("_law_v", 5)]) (g := gName 5) (by rfl) sc_l_cluster.nd (pi_range1 (by rfl) B.n_range (pa_cons (pv 2) pa_nil)) (blkOk_by (N := n_l_cluster) (sc := defScope s_l_cluster) (own := [("_law_v", 5)]) (by decide +kernel)) (fun _ _ _ _ _ => pg_name (i := 5) sc_l_cluster.nd rfl (.inl rfl)) (fun _ _ _ _ _ => pts_nil) (fun _ _ _ _ _ => pe_ix (ix_listK (K := K)) (pe_lst (pa_cons (pe_int) (pa_cons (pe_int) (pa_cons (pe_int) (pa_cons (pe_int) (pa_cons (pe_int) (pa_cons (pe_int) pa_nil))))))) (pe_cal C_l_take hr (by rfl) (pa_cons (pv 0) (pa_cons (pe_int) pa_nil))) (fun _ _ => rfl))) pa_nil)))
      (pss_cons (ps_set (i := 4) sc_l_cluster.nd rfl (.inl rfl) (pe_callTy call_tuple_of (by rfl) B.n_tuple boot_tuple (pa_cons (pe_lc (own := [("_law_v", 5)]) (g := gName 5) (by rfl) sc_l_cluster.nd (pi_range1 (by rfl) B.n_range (pa_cons (pv 2) pa_nil)) (blkOk_by (N := n_l_cluster) (sc := defScope s_l_cluster) (own := [("_law_v", 5)]) (by decide +kernel)) (fun _ _ _ _ _ => pg_name (i := 5) sc_l_cluster.nd rfl (.inl rfl)) (fun _ _ _ _ _ => pts_nil) (fun _ _ _ _ _ => pe_ix (ix_listK (K := K)) (pe_lst (pa_cons (pe_int) (pa_cons (pe_int) (pa_cons (pe_int) (pa_cons (pe_int) (pa_cons (pe_int) (pa_cons (pe_int) (pa_cons (pe_int) (pa_cons (pe_int) pa_nil))))))))) (pe_cal C_l_take hr (by rfl) (pa_cons (pv 0) (pa_cons (pe_int) pa_nil))) (fun _ _ => rfl))) pa_nil)))
      (pss_one (ps_ret (pe_tup (pa_cons (pv 3) (pa_cons (pv 4) (pa_cons (pe_callTy call_tuple_of (by rfl) B.n_tuple boot_tuple (pa_cons (pe_lc (own := [("_law_v", 5)]) (g := gName 5) (by rfl) sc_l_cluster.nd (pi_range1 (by rfl) B.n_range (pa_cons (pv 2) pa_nil)) (blkOk_by (N := n_l_cluster) (sc := defScope s_l_cluster) (own := [("_law_v", 5)]) (by decide +kernel)) (fun _ _ _ _ _ => pg_name (i := 5) sc_l_cluster.nd rfl (.inl rfl)) (fun _ _ _ _ _ => pts_nil) (fun _ _ _ _ _ => pe_op op_add (pe_int) (pe_cal C_l_take hr (by rfl) (pa_cons (pv 0) (pa_cons (pe_int) pa_nil))))) pa_nil)) pa_nil)))))))), ?_⟩
    obtain ⟨hh, q⟩ := hq
    refine ⟨_, rfl, _, rfl, h, dr, 5, rfl, hh, by omega, fun H1 m b1 h1 m0 m5 => ⟨1, m, rfl, rfl, ?_⟩⟩
    have hn : (1 + m).toNat ≤ 5 := by omega
    refine ⟨_, rfl, 1 + m, rfl, by omega, by omega, fun Da na => ?_⟩
    refine lc_hand walk_range RInt (by omega) na h1 (fun _ _ _ _ _ _ x => x) (fun _ _ _ => trivial) (fun i x H H' Q hi b hh yy k => ?_) (fun Ha ysa ba ha ea la' ra => ?_)
    · obtain ⟨rfl, rfl⟩ := yy
      refine ⟨rfl, by show 6 ≤ sizeLine; decide, fun p np => ⟨_, rfl, h, dr, 6, rfl, hh.same (same_upd np), by omega, fun H4 r b4 h4 r0 r1 => ?_⟩⟩
      obtain ⟨v, hv, ev⟩ := pick (l := [0, 1, 2, 3, 1, 99]) r0 r1
      have hv2 : 0 ≤ v ∧ v < 100 := by
        have hall : ∀ x ∈ ([0, 1, 2, 3, 1, 99] : List Int), 0 ≤ x ∧ x < 100 := by decide
        exact hall v hv
      exact ⟨p, _, r, _, rfl, rfl, .inl (.inl (b4 p _ (hh.ne np).1 upd_same)), ev, k _ H4 (fun b o kb e => b4 b o kb (same_upd np _ _ e)) h4 ⟨v, rfl, hv2⟩⟩
    obtain ⟨la, rfl, pa⟩ := ints_of ra
    refine ⟨Da, _, rfl, .inl ⟨.inl (.inl ea), fun Ta ta => ?_⟩⟩
    have sa := same_upd (o := .tup (la.map V.int)) ta
    have ka := ha.same sa
    rw [List.length_map] at la'
    refine ⟨_, rfl, 1 + m, rfl, by omega, by omega, fun Db nb => ?_⟩
    refine lc_hand walk_range RInt (by omega) nb ka (fun _ _ _ _ _ _ x => x) (fun _ _ _ => trivial) (fun i x H H' Q hi b hh yy k => ?_) (fun Hb ysb bb hb eb lb' rb => ?_)
    · obtain ⟨rfl, rfl⟩ := yy
      refine ⟨rfl, by show 8 ≤ sizeLine; decide, fun p np => ⟨_, rfl, h, dr, 8, rfl, hh.same (same_upd np), by omega, fun H4 r b4 h4 r0 r1 => ?_⟩⟩
      obtain ⟨v, hv, ev⟩ := pick (l := [0, 1, 2, 3, 1, 2, 99, 4]) r0 r1
      have hv2 : 0 ≤ v ∧ v < 100 := by
        have hall : ∀ x ∈ ([0, 1, 2, 3, 1, 2, 99, 4] : List Int), 0 ≤ x ∧ x < 100 := by decide
        exact hall v hv
      exact ⟨p, _, r, _, rfl, rfl, .inl (.inl (b4 p _ (hh.ne np).1 upd_same)), ev, k _ H4 (fun b o kb e => b4 b o kb (same_upd np _ _ e)) h4 ⟨v, rfl, hv2⟩⟩
    obtain ⟨lb, rfl, pb⟩ := ints_of rb
    refine ⟨Db, _, rfl, .inl ⟨.inl (.inl eb), fun Tb tb => ?_⟩⟩
    have sb := same_upd (o := .tup (lb.map V.int)) tb
    have kb := hb.same sb
    rw [List.length_map] at lb'
    refine ⟨_, rfl, _, rfl, _, rfl, 1 + m, rfl, by omega, by omega, fun Dc nc => ?_⟩
    refine lc_hand walk_range RInt (by omega) nc kb (fun _ _ _ _ _ _ x => x) (fun _ _ _ => trivial) (fun i x H H' Q hi b hh yy k => ?_) (fun Hc ysc bc hc ec lc' rc => ?_)
    · obtain ⟨rfl, rfl⟩ := yy
      exact ⟨rfl, _, rfl, h, dr, 8, rfl, hh, by omega, fun H4 r b4 h4 r0 r1 => ⟨1, r, rfl, rfl, k _ H4 b4 h4 ⟨1 + r, rfl, by omega, by omega⟩⟩⟩
    obtain ⟨lc, rfl, pc⟩ := ints_of rc
    refine ⟨Dc, _, rfl, .inl ⟨.inl (.inl ec), fun Tc tc => ?_⟩⟩
    have sc := same_upd (o := .tup (lc.map V.int)) tc
    have kc := hc.same sc
    rw [List.length_map] at lc'
    refine ⟨by show 3 ≤ sizeLine; decide, fun p np => ?_⟩
    have sp := same_upd (o := .tup [.ref Ta, .ref Tb, .ref Tc]) np
    have bA : But h H _ := ((((((b1.trans ba).trans (But.of_same sa)).trans bb).trans (But.of_same sb)).trans bc).trans (But.of_same sc)).trans (But.of_same sp)
    have fa := sp _ _ (sc _ _ (bc Ta _ (ha.ne ta).1 (sb _ _ (bb Ta _ (ha.ne ta).1 (upd_same (H := Ha) (a := Ta) (o := .tup (la.map V.int)))))))
    have fb := sp _ _ (sc _ _ (bc Tb _ (hb.ne tb).1 (upd_same (H := Hb) (a := Tb) (o := .tup (lb.map V.int)))))
    have fc := sp _ _ (upd_same (H := Hc) (a := Tc) (o := .tup (lc.map V.int)))
    exact q _ p (1 + m).toNat bA (kc.same sp) (by omega) hn ⟨Ta, Tb, Tc, la, lb, lc, upd_same, fa, fb, fc, la', lb', lc', pa, pb, pc⟩

/-- a lot as the law has it: numbers of at most two signs -/
def LotT (H : Hp) (p : Addr) : Prop := ∃ l : List Int, H p = some (.tup (l.map V.int)) ∧ l.length ≤ 100 ∧ ∀ m ∈ l, 0 ≤ m ∧ m < 100
def sp_l_lot : Sp := fun vs H Q _ => ∃ (h dr : Addr) (n : Int), vs = [.ref h, .int n] ∧ HandAt H h dr ∧ 1 ≤ n ∧ n ≤ 99 ∧ ∀ H' p, But h H H' → HandAt H' h dr → LotT H' p → Q (.ref p) H'
theorem c_l_lot {k : Nat} (B : Blt mg) (D : DefAt K mg "_law_lot" s_l_lot) (C_l_take : Callee P w K mg base CX0 k "_law_take" ["_law_hand", "_law_many"] sp_l_take) : Callee P w K mg base CX0 (k + 1) "_law_lot" ["_law_hand", "_law_many"] sp_l_lot := by
  obtain ⟨f, fd, F, g⟩ := D
  refine ⟨f, fd, g, F.kp, F.binds (fun _ _ _ _ _ _ us hl => match us, hl with | [_, _], _ => rfl), F.ok sc_l_lot (fun vs H Q E h => ?_) (fun cdv A outer s H vs Q E hr h => ?_)⟩
  · obtain ⟨h, dr, n, rfl, _⟩ := h
    rfl
  · obtain ⟨h, dr, n, rfl, hq⟩ := h
    -- slots 0 _law_hand*, 1 _law_many, 2 _law_found, 3 _law_v
    refine ⟨_, pss_cons (ps_set (i := 2) sc_l_lot.nd rfl (.inl rfl) (pe_callTy call_tuple_of (by rfl) B.n_tuple boot_tuple (pa_cons (pe_lc (own := [("_law_v", 3)]) (g := gName 3) (by rfl) sc_l_lot.nd (pi_range1 (by rfl) B.n_range (pa_cons (pv 1) pa_nil)) (blkOk_by (N := n_l_lot) (sc := defScope s_l_lot) (own := [("_law_v", 3)]) (by decide +kernel)) (fun _ _ _ _ _ => pg_name (i := 3) sc_l_lot.nd rfl (.inl rfl)) (fun _ _ _ _ _ => pts_one (pt_cmpR op_eq (pe_cal C_l_take hr (by rfl) (pa_cons (pv 0) (pa_cons (pe_int) pa_nil))) (pe_int) (nomark _))) (fun _ _ _ _ _ => pv 3)) pa_nil)))
      (pss_cons (ps_if (pt_cmpR op_eq (pe_callB call_len_seq (by rfl) B.n_len boot_len (pa_cons (pv 2) pa_nil)) (pe_int) (nomark _))
        (pss_one (ps_set (i := 2) sc_l_lot.nd rfl (.inl rfl) (pe_tup (pa_cons (pe_cal C_l_take hr (by rfl) (pa_cons (pv 0) (pa_cons (pv 1) pa_nil))) pa_nil))))
        pss_nil)
      (pss_one (ps_ret (pv 2)))), ?_⟩
    obtain ⟨hh, n1, n9, q⟩ := hq
    refine ⟨_, rfl, n, rfl, by omega, by omega, fun D nD => ?_⟩
    refine lc_handIf walk_range RInt (by omega) nD hh (fun _ _ _ _ _ _ x => x) (fun _ _ _ => trivial) (fun i x H1 H' Q1 N hi b hh yy k1 k2 => ?_) (fun H1 ys b1 h1 e1 hl hr => ?_)
    · obtain ⟨rfl, rfl⟩ := yy
      refine ⟨rfl, _, rfl, h, dr, 2, rfl, hh, by omega, fun H4 r b4 h4 r0 r1 => ?_⟩
      refine ⟨rfl, _, rfl, ite2 (fun _ => ?_) (fun _ => ?_)⟩
      · exact ⟨_, rfl, k1 _ H4 b4 h4 ⟨0 + (i : Int), rfl, by omega, by omega⟩⟩
      · exact k2 H4 b4 h4
    obtain ⟨l, rfl, pl⟩ := ints_of hr
    refine ⟨D, _, rfl, .inl ⟨.inl (.inl e1), fun T nT => ?_⟩⟩
    have sT := same_upd (o := .tup (l.map V.int)) nT
    have eT : (upd H1 T (.tup (l.map V.int))) T = some (.tup (l.map V.int)) := upd_same
    have kT := h1.same sT
    show tSeq _ _ _ _ (upd H1 T (.tup (l.map V.int)))
    rw [List.length_map] at hl
    refine ⟨_, rfl, T, _, rfl, .inr (.inl (.inl eT)), rfl, _, rfl, ite2 (fun _ => ?_) (fun _ => ?_)⟩
    · refine ⟨_, rfl, _, rfl, h, dr, n, rfl, kT, n1, fun H4 r b4 h4 r0 r1 => ⟨by show 1 ≤ sizeLine; decide, fun p np => ?_⟩⟩
      have sp := same_upd (o := .tup ([r].map V.int)) np
      exact ⟨_, rfl, q _ p (((b1.trans (But.of_same sT)).trans b4).trans (But.of_same sp)) (h4.same sp) ⟨[r], upd_same, by show 1 ≤ 100; decide, fun m hm => by rw [List.mem_singleton.mp hm]; omega⟩⟩
    · exact ⟨_, rfl, q _ T (b1.trans (But.of_same sT)) kT ⟨l, eT, by omega, pl⟩⟩

def WiT (H : Hp) (p : Addr) (n : Nat) : Prop := ∃ l : List Int, H p = some (.tup (l.map V.int)) ∧ l.length = n ∧ ∀ m ∈ l, 0 ≤ m ∧ m < 100
def sp_l_wishes : Sp := fun vs H Q _ => ∃ (h dr : Addr) (n : Int), vs = [.ref h, .int n] ∧ HandAt H h dr ∧ 0 ≤ n ∧ n ≤ 99 ∧ ∀ H' p, But h H H' → HandAt H' h dr → WiT H' p n.toNat → Q (.ref p) H'
theorem c_l_wishes {k : Nat} (B : Blt mg) (D : DefAt K mg "_law_wishes" s_l_wishes) (C_l_take : Callee P w K mg base CX0 k "_law_take" ["_law_hand", "_law_many"] sp_l_take) : Callee P w K mg base CX0 (k + 1) "_law_wishes" ["_law_hand", "_law_pieces"] sp_l_wishes := by
  obtain ⟨f, fd, F, g⟩ := D
  refine ⟨f, fd, g, F.kp, F.binds (fun _ _ _ _ _ _ us hl => match us, hl with | [_, _], _ => rfl), F.ok sc_l_wishes (fun vs H Q E h => ?_) (fun cdv A outer s H vs Q E hr h => ?_)⟩
  · obtain ⟨h, dr, n, rfl, _⟩ := h
    rfl
  · obtain ⟨h, dr, n, rfl, hq⟩ := h
    -- slots 0 _law_hand*, 1 _law_pieces, 2 _law_p
    refine ⟨_, pss_one (ps_ret (pe_callTy call_tuple_of (by rfl) B.n_tuple boot_tuple (pa_cons (pe_lc (own := [("_law_p", 2)]) (g := gName 2) (by rfl) sc_l_wishes.nd (pi_range1 (by rfl) B.n_range (pa_cons (pv 1) pa_nil)) (blkOk_by (N := n_l_wishes) (sc := defScope s_l_wishes) (own := [("_law_p", 2)]) (by decide +kernel)) (fun _ _ _ _ _ => pg_name (i := 2) sc_l_wishes.nd rfl (.inl rfl)) (fun _ _ _ _ _ => pts_nil) (fun _ _ _ _ _ => pe_op op_add (pe_int) (pe_cal C_l_take hr (by rfl) (pa_cons (pv 0) (pa_cons (pe_ix (ix_listK (K := K)) (pe_lst (pa_cons (pe_int) (pa_cons (pe_int) pa_nil))) (pe_cal C_l_take hr (by rfl) (pa_cons (pv 0) (pa_cons (pe_int) pa_nil))) (fun _ _ => rfl)) pa_nil))))) pa_nil))), ?_⟩
    obtain ⟨hh, n1, n9, q⟩ := hq
    refine ⟨_, rfl, n, rfl, by omega, by omega, fun D nD => ?_⟩
    refine lc_hand walk_range RInt (by omega) nD hh (fun _ _ _ _ _ _ x => x) (fun _ _ _ => trivial) (fun i x H1 H' Q1 hi b hh yy k => ?_) (fun H1 ys b1 h1 e1 hl hr => ?_)
    · obtain ⟨rfl, rfl⟩ := yy
      refine ⟨rfl, _, rfl, by show 2 ≤ sizeLine; decide, fun p np => ⟨_, rfl, h, dr, 2, rfl, hh.same (same_upd np), by omega, fun H4 r b4 h4 r0 r1 => ?_⟩⟩
      obtain ⟨v, hv, ev⟩ := pick (l := [3, 2]) r0 r1
      have hv2 : 1 ≤ v ∧ v < 4 := by
        have hall : ∀ x ∈ ([3, 2] : List Int), 1 ≤ x ∧ x < 4 := by decide
        exact hall v hv
      exact ⟨p, _, r, _, rfl, rfl, .inl (.inl (b4 p _ (hh.ne np).1 upd_same)), ev, h, dr, v, rfl, h4, hv2.1, fun H5 u b5 h5 u0 u1 => ⟨1, u, rfl, rfl, k _ H5 (fun b o kb e => b5 b o kb (b4 b o kb (same_upd np _ _ e))) h5 ⟨1 + u, rfl, by omega, by omega⟩⟩⟩
    obtain ⟨l, rfl, pl⟩ := ints_of hr
    refine ⟨D, _, rfl, .inl ⟨.inl (.inl e1), fun T nT => ?_⟩⟩
    have sT := same_upd (o := .tup (l.map V.int)) nT
    rw [List.length_map] at hl
    exact q _ T (b1.trans (But.of_same sT)) (h1.same sT) ⟨l, upd_same, hl, pl⟩
def PlT (H : Hp) (p : Addr) (n : Nat) : Prop := ∃ ts : List Addr, H p = some (.tup (ts.map V.ref)) ∧ ts.length = n ∧ ∀ t ∈ ts, LotT H t
def RLot (y : V) (H : Hp) : Prop := ∃ t : Addr, y = .ref t ∧ LotT H t
theorem RLot.stay {D h : Addr} (y : V) (H H' : Hp) (s : ∀ b o, b ≠ h → b ≠ D → H b = some o → H' b = some o) (e1 : ∃ v, H h = some (.lst v)) (e2 : ∃ v, H D = some (.lst v)) (r : RLot y H) : RLot y H' := by
  obtain ⟨t, e, l, el, hl, hm⟩ := r
  obtain ⟨v, e1⟩ := e1
  obtain ⟨u, e2⟩ := e2
  exact ⟨t, e, l, s _ _ (tup_ne el e1) (tup_ne el e2) el, hl, hm⟩
theorem refs_of {P : Addr → Prop} : ∀ {ys : List V}, (∀ y ∈ ys, ∃ n : Addr, y = .ref n ∧ P n) → ∃ l : List Addr, ys = l.map V.ref ∧ ∀ n ∈ l, P n
  | [], _ => ⟨[], rfl, fun _ h => nomatch h⟩
  | y :: ys, h => by
    obtain ⟨n, e, p⟩ := h y (List.mem_cons_self ..)
    obtain ⟨l, e2, p2⟩ := refs_of (ys := ys) fun z hz => h z (List.mem_cons_of_mem _ hz)
    refine ⟨n :: l, by rw [e, e2]; rfl, fun m hm => ?_⟩
    rcases List.mem_cons.mp hm with e3 | hm
    · rw [e3]; exact p
    · exact p2 m hm
def sp_l_placing : Sp := fun vs H Q _ => ∃ (h dr : Addr) (m n : Int), vs = [.ref h, .int m, .int n] ∧ HandAt H h dr ∧ 1 ≤ m ∧ m ≤ 99 ∧ 0 ≤ n ∧ n ≤ 99 ∧ ∀ H' p, But h H H' → HandAt H' h dr → PlT H' p n.toNat → Q (.ref p) H'
theorem c_l_placing {k : Nat} (B : Blt mg) (D : DefAt K mg "_law_placing" s_l_placing) (C_l_lot : Callee P w K mg base CX0 k "_law_lot" ["_law_hand", "_law_many"] sp_l_lot) : Callee P w K mg base CX0 (k + 1) "_law_placing" ["_law_hand", "_law_many", "_law_pieces"] sp_l_placing := by
  obtain ⟨f, fd, F, g⟩ := D
  refine ⟨f, fd, g, F.kp, F.binds (fun _ _ _ _ _ _ us hl => match us, hl with | [_, _, _], _ => rfl), F.ok sc_l_placing (fun vs H Q E h => ?_) (fun cdv A outer s H vs Q E hr h => ?_)⟩
  · obtain ⟨h, dr, m, n, rfl, _⟩ := h
    rfl
  · obtain ⟨h, dr, m, n, rfl, hq⟩ := h
    -- slots 0 _law_hand*, 1 _law_many*, 2 _law_pieces, 3 _law_p
    refine ⟨_, pss_one (ps_ret (pe_callTy call_tuple_of (by rfl) B.n_tuple boot_tuple (pa_cons (pe_lc (own := [("_law_p", 3)]) (g := gName 3) (by rfl) sc_l_placing.nd (pi_range1 (by rfl) B.n_range (pa_cons (pv 2) pa_nil)) (blkOk_by (N := n_l_placing) (sc := defScope s_l_placing) (own := [("_law_p", 3)]) (by decide +kernel)) (fun _ _ _ _ _ => pg_name (i := 3) sc_l_placing.nd rfl (.inl rfl)) (fun _ _ _ _ _ => pts_nil) (fun _ _ _ _ _ => pe_cal C_l_lot hr (by rfl) (pa_cons (pv 0) (pa_cons (pv 1) pa_nil)))) pa_nil))), ?_⟩
    obtain ⟨hh, m1, m9, n1, n9, q⟩ := hq
    refine ⟨_, rfl, n, rfl, by omega, by omega, fun D nD => ?_⟩
    refine lc_hand walk_range RLot (by omega) nD hh RLot.stay (fun _ _ _ => trivial) (fun i x H1 H' Q1 hi b hh yy k => ?_) (fun H1 ys b1 h1 e1 hl hr => ?_)
    · obtain ⟨rfl, rfl⟩ := yy
      exact ⟨rfl, _, rfl, _, rfl, h, dr, m, rfl, hh, m1, m9, fun H4 p b4 h4 lp => k _ H4 b4 h4 ⟨p, rfl, lp⟩⟩
    obtain ⟨l, rfl, pl⟩ := refs_of hr
    refine ⟨D, _, rfl, .inl ⟨.inl (.inl e1), fun T nT => ?_⟩⟩
    have sT := same_upd (o := .tup (l.map V.ref)) nT
    rw [List.length_map] at hl
    refine q _ T (b1.trans (But.of_same sT)) (h1.same sT) ⟨l, upd_same, hl, fun t ht => ?_⟩
    obtain ⟨ll, e, hl2, hm⟩ := pl t ht
    exact ⟨ll, sT _ _ e, hl2, hm⟩

end
end K6

namespace K6
open PySem PySem.Spec PyProof.Rows L2
open TL (tl len_tl ext_tl tl_append)
section
variable {P : Program} {w : World} {K : PySem.W.Frag} {mg : Str → Option Value} {base : Heap}
theorem modOf (a : Int) {b : Int} (h : 0 < b) : ∃ M, a % b = M ∧ 0 ≤ M ∧ M < b := ⟨_, rfl, Int.emod_nonneg _ (by omega), Int.emod_lt_of_pos _ h⟩
theorem ixN_in {n : Nat} {t : Int} (h0 : 0 ≤ t) (h1 : t < n) : ixN n t = some t.toNat := by
  unfold ixN
  rw [if_pos h0, if_pos h1]
def sp_l_draws (K : PySem.W.Frag) : Sp := fun vs H Q _ => ∃ (a : Addr) (l : List Int), vs = [.ref a, .int 500] ∧ SqL K H a (l.map V.int) ∧ l.length ≤ 100000 ∧ ∀ H' p (ds : List Int), Same H H' → H' p = some (.lst (ds.map V.int)) → Q (.ref p) H'
theorem c_l_draws {k : Nat} (B : Blt mg) (D : DefAt K mg "_law_draws" s_l_draws) : Callee P w K mg base CX0 (k + 1) "_law_draws" ["_law_script", "_law_many"] (sp_l_draws K) := by
  obtain ⟨f, fd, F, g⟩ := D
  refine ⟨f, fd, g, F.kp, F.binds (fun _ _ _ _ _ _ us hl => match us, hl with | [_, _], _ => rfl), F.ok sc_l_draws (fun vs H Q E h => ?_) (fun cdv A outer s H vs Q E hr h => ?_)⟩
  · obtain ⟨a, l, rfl, _⟩ := h
    rfl
  · obtain ⟨a, l, rfl, hq⟩ := h
    -- slots 0 _law_script, 1 _law_many, 2 _law_cell, 3 _law_rests, 4 _law_draws_here, 5 _law_k, 6 _law_at, 7 _law_mixed
    refine ⟨_, pss_cons (ps_setLc (i := 3) (own := [("_law_cell", 2)]) (g := gName 2) (by rfl) sc_l_draws.nd rfl rfl (sw_true rfl rfl rfl (by decide +kernel)) (pi_list (pv 0)) (blkOk_by (N := n_l_draws) (sc := defScope s_l_draws) (own := [("_law_cell", 2)]) (by decide +kernel)) (fun _ _ _ _ _ => pg_name (i := 2) sc_l_draws.nd rfl (.inl rfl)) (fun _ _ _ _ _ => pts_nil) (fun _ _ _ _ _ => pe_callB call_abs (by rfl) B.n_abs boot_abs (pa_cons (pe_callTy call_int1 (by rfl) B.n_int boot_int (pa_cons (pv 2) pa_nil)) pa_nil)))
      (pss_cons (ps_set (i := 4) sc_l_draws.nd rfl (.inl rfl) (pe_lst pa_nil))
      (pss_cons (ps_for PassesOwn.never rfl (pi_range1 (by rfl) B.n_range (pa_cons (pv 1) pa_nil)) (pg_name (i := 5) sc_l_draws.nd rfl (.inl rfl))
        (pss_cons (ps_set (i := 2) sc_l_draws.nd rfl (.inl rfl) (pv 5))
        (pss_cons (ps_if (pt_cmpR op_gt (pe_callB call_len_seq (by rfl) B.n_len boot_len (pa_cons (pv 0) pa_nil)) (pe_int) (nomark _))
          (pss_cons (ps_set (i := 6) sc_l_draws.nd rfl (.inl rfl) (pe_op op_mod (pv 5) (pe_callB call_len_seq (by rfl) B.n_len boot_len (pa_cons (pv 0) pa_nil))))
          (pss_cons (ps_set (i := 2) sc_l_draws.nd rfl (.inl rfl) (pe_callTy call_int1 (by rfl) B.n_int boot_int (pa_cons (pe_ix ix_list (pv 0) (pv 6) (fun _ _ => rfl)) pa_nil)))
          (pss_one (ps_if (PW.pt (pw_and (pt_cmpR op_ge (pv 2) (pe_op op_pow (pe_int) (pe_int)) (nomark _)) (pw_and1 (pt_cmpR op_gt (pe_ix ix_list (pv 3) (pv 6) (fun _ _ => rfl)) (pe_int) (nomark _)))))
            (pss_cons (ps_expr (pe_bm PySem.F.plainAttrs_list PySem.F.slot_list_append PySem.F.type_list_append mt_append (pv 4) (pa_cons (pe_op op_mod (pe_callTy call_int1 (by rfl) B.n_int boot_int (pa_cons (pe_ix ix_list (pv 3) (pv 6) (fun _ _ => rfl)) pa_nil)) (pe_int)) pa_nil)))
            (pss_cons (ps_asg (pe_op op_fdiv (pe_callTy call_int1 (by rfl) B.n_int boot_int (pa_cons (pe_ix ix_list (pv 3) (pv 6) (fun _ _ => rfl)) pa_nil)) (pe_int)) (pg_sub (pv 3) (pv 6) set_list))
            (pss_one (ps_continue))))
            pss_nil))))
          pss_nil)
        (pss_cons (ps_set (i := 7) sc_l_draws.nd rfl (.inl rfl) (pe_op op_mod (pe_callTy call_int1 (by rfl) B.n_int boot_int (pa_cons (pe_op op_add (pe_op op_add (pe_op op_mul (pv 2) (pe_int)) (pe_op op_mul (pv 5) (pe_int))) (pe_int)) pa_nil)) (pe_int)))
        (pss_cons (ps_set (i := 7) sc_l_draws.nd rfl (.inl rfl) (pe_op op_mod (pe_callTy call_int1 (by rfl) B.n_int boot_int (pa_cons (pe_op op_add (pe_op op_fdiv (pe_op op_mul (pv 7) (pv 7)) (pe_int)) (pv 7)) pa_nil)) (pe_int)))
        (pss_one (ps_expr (pe_bm PySem.F.plainAttrs_list PySem.F.slot_list_append PySem.F.type_list_append mt_append (pv 4) (pa_cons (pe_op op_mod (pe_callTy call_int1 (by rfl) B.n_int boot_int (pa_cons (pe_op op_add (pe_op op_fdiv (pe_op op_mul (pv 7) (pv 7)) (pe_int)) (pe_op op_mul (pv 5) (pe_int))) pa_nil)) (pe_int)) pa_nil)))))))))
      (pss_one (ps_ret (pv 4))))), ?_⟩
    obtain ⟨hS, hl, q⟩ := hq
    refine ⟨_, rfl, a, rfl, ⟨_, hS⟩, fun R nR => ?_⟩
    refine lc_to (walk_list (K := K) (a := a) (xs := l.map V.int)) ((l.map fun n => if n < 0 then -n else n).map V.int) (by simp) (by rw [List.length_map]; omega) nR (fun H' s => s.seq hS) (fun m x H1 H2 y Q1 hm s4 yy hy k2 => ?_) (fun H1 s1 e1 => ?_)
    · obtain ⟨rfl, hx⟩ := yy
      obtain ⟨n, hn, rfl⟩ := map_int_get hx
      obtain ⟨n2, hn2, rfl⟩ := map_int_get hy
      have en := get_map hn2 hn
      subst en
      exact ⟨rfl, _, rfl, .inl ⟨n, rfl, n, rfl, k2 _ (Same.refl _)⟩⟩
    · refine ⟨by show 0 ≤ sizeLine; decide, fun D nD => ?_⟩
      have sD := same_upd (o := .lst []) nD
      have eR := sD _ _ e1
      have eD : (upd H1 D (.lst [])) D = some (.lst (([] : List Int).map V.int)) := upd_same
      have s2 := s1.trans sD
      have RD : R ≠ D := ne_of_none e1 nD
      have nD0 : H D = none := s1.free nD
      show tSeq _ _ _ _ (upd H1 D (.lst []))
      generalize upd H1 D (.lst []) = H2 at eR eD s2 ⊢
      refine ⟨_, rfl, 500, rfl, by decide, by decide, ?_⟩
      refine for_it walk_range (fun i σ H' => (∃ y2 y5 y6 y7, σ = [some (.ref a), some (.int 500), y2, some (.ref R), some (.ref D), y5, y6, y7]) ∧ Same H H' ∧ ∃ rs ds : List Int, H' R = some (.lst (rs.map V.int)) ∧ rs.length = l.length ∧ H' D = some (.lst (ds.map V.int)) ∧ ds.length ≤ i)
        ⟨⟨_, _, _, _, rfl⟩, s2, _, [], eR, by simp, eD, Nat.le_refl _⟩ (fun _ _ _ _ _ => trivial) (fun i x σ H3 H' hi pv yy => ?_) (fun σ H3 pv => ?_)
      · obtain ⟨⟨y2, y5, y6, y7, rfl⟩, s3, rs, ds, eR3, lrs, eD3, lds⟩ := pv
        obtain ⟨rfl, rfl⟩ := yy
        have hi' : i < 500 := hi
        have setD : ∀ (m : Int), (upd H' D (.lst (ds.map V.int ++ [.int m]))) D = some (.lst ((ds ++ [m]).map V.int)) := fun m => by rw [upd_same, List.map_append]; rfl
        refine ⟨_, rfl, ?_⟩
        refine ⟨_, rfl, a, _, rfl, .inl (s3.seq hS), _, _, rfl, rfl, _, rfl, ite2 (fun hpos => ?_) (fun hneg => ?_)⟩
        · have hp : 0 < l.length := by
            simp only [decide_eq_true_eq, gt_iff_lt, List.length_map] at hpos
            omega
          refine ⟨_, rfl, _, rfl, a, _, rfl, .inl (s3.seq hS), _, _, rfl, rfl, by rw [List.length_map]; omega, ?_⟩
          have a0 : 0 ≤ (0 + (i : Int)) % ((l.map V.int).length : Nat) := Int.emod_nonneg _ (by rw [List.length_map]; omega)
          have a1 : (0 + (i : Int)) % ((l.map V.int).length : Nat) < (l.length : Nat) := by
            have := Int.emod_lt_of_pos (0 + (i : Int)) (b := (((l.map V.int).length : Nat) : Int)) (by rw [List.length_map]; omega)
            rw [List.length_map] at this ⊢
            exact this
          show gName 6 (V.int ((0 + (i : Int)) % (((l.map V.int).length : Nat) : Int))) _ _ _
          generalize (0 + (i : Int)) % (((l.map V.int).length : Nat) : Int) = t at a0 a1 ⊢
          obtain ⟨c, hc, ec⟩ := pick (l := l) a0 a1
          obtain ⟨r, hr0, er⟩ := pick (l := rs) (r := t) a0 (by rw [lrs]; exact a1)
          refine ⟨_, rfl, _, rfl, a, _, t, _, rfl, rfl, s3.seq hS, ec, .inl ⟨_, rfl, ?_⟩⟩
          refine ⟨_, rfl, 10, 18, rfl, rfl, ⟨by decide, by decide, by decide⟩, _, _, rfl, rfl, _, rfl, ite2 (fun hb => ?_) (fun hb => ?_)⟩
          · refine ⟨_, rfl, _, rfl, R, _, t, _, rfl, rfl, .inl (.inl eR3), er, _, _, rfl, rfl, _, rfl, ite2 (fun hb2 => ?_) (fun hb2 => ?_)⟩
            · refine ⟨_, rfl, .inl ⟨rfl, _, .inl (.inl eD3)⟩, _, rfl, _, rfl, R, _, t, _, rfl, rfl, .inl (.inl eR3), er, .inl ⟨_, rfl, _, _, rfl, rfl, by show (0 : Int) < 1000003; decide, D, _, _, rfl, rfl, eD3, big6' (by rw [List.length_map]; omega), ?_⟩⟩
              have eR4 : (upd H' D (.lst (ds.map V.int ++ [.int (r % 1000003)]))) R = some (.lst (rs.map V.int)) := by rw [upd_ne RD]; exact eR3
              have eD4 := setD (r % 1000003)
              have s4 : Same H (upd H' D (.lst (ds.map V.int ++ [.int (r % 1000003)]))) := Same.mut s3 nD0
              show tSeq _ _ _ _ (upd H' D (.lst (ds.map V.int ++ [.int (r % 1000003)])))
              generalize upd H' D (.lst (ds.map V.int ++ [.int (r % 1000003)])) = H4 at eR4 eD4 s4 ⊢
              have tl : t.toNat < rs.length := by omega
              refine ⟨_, rfl, _, rfl, R, _, t, _, rfl, rfl, .inl (.inl eR4), er, .inl ⟨_, rfl, _, _, rfl, rfl, ⟨by decide, by decide⟩, _, rfl, _, rfl, R, _, t, t.toNat, rfl, rfl, eR4, ixN_in a0 (by rw [List.length_map]; omega), ?_⟩⟩
              refine ⟨⟨_, _, _, _, rfl⟩, Same.mut s4 nR, rs.set t.toNat (r / 1000003), ds ++ [r % 1000003], ?_, by simp [lrs], ?_, by simp; omega⟩
              · rw [upd_same, List.map_set]
              · rw [upd_ne (Ne.symm RD)]
                exact eD4
            · refine ⟨_, rfl, c, 48271, rfl, rfl, .inr ⟨by decide, by decide⟩, _, rfl, (0 + (i : Int)), 69621, rfl, rfl, .inr ⟨by decide, by decide⟩, _, _, rfl, rfl, _, _, rfl, rfl, .inl ⟨_, rfl, _, 2147483647, rfl, rfl, by show (0 : Int) < 2147483647; decide, ?_⟩⟩
              obtain ⟨M, hM, m0, m1⟩ := modOf (c * 48271 + (0 + (i : Int)) * 69621 + 11) (b := 2147483647) (by decide)
              show gName 7 (V.int ((c * 48271 + (0 + (i : Int)) * 69621 + 11) % 2147483647)) _ _ _
              rw [hM]
              refine ⟨_, rfl, _, rfl, M, M, rfl, rfl, .inl ⟨by omega, by omega⟩, _, 4096, rfl, rfl, ⟨by decide, by decide⟩, _, rfl, _, _, rfl, rfl, .inl ⟨_, rfl, _, 2147483629, rfl, rfl, by show (0 : Int) < 2147483629; decide, ?_⟩⟩
              obtain ⟨N, hN, z0, z1⟩ := modOf (M * M / 4096 + M) (b := 2147483629) (by decide)
              show gName 7 (V.int ((M * M / 4096 + M) % 2147483629)) _ _ _
              rw [hN]
              refine ⟨_, rfl, .inl ⟨rfl, _, .inl (.inl eD3)⟩, _, rfl, _, rfl, N, N, rfl, rfl, .inl ⟨by omega, by omega⟩, _, 4096, rfl, rfl, ⟨by decide, by decide⟩, _, rfl, (0 + (i : Int)), 7919, rfl, rfl, .inr ⟨by decide, by decide⟩, _, _, rfl, rfl, .inl ⟨_, rfl, _, 2147483629, rfl, rfl, by show (0 : Int) < 2147483629; decide, D, _, _, rfl, rfl, eD3, big6' (by rw [List.length_map]; omega), ?_⟩⟩
              exact ⟨⟨_, _, _, _, rfl⟩, Same.mut s3 nD0, rs, ds ++ [_], by rw [upd_ne RD]; exact eR3, lrs, setD _, by simp; omega⟩
          · refine ⟨_, rfl, c, 48271, rfl, rfl, .inr ⟨by decide, by decide⟩, _, rfl, (0 + (i : Int)), 69621, rfl, rfl, .inr ⟨by decide, by decide⟩, _, _, rfl, rfl, _, _, rfl, rfl, .inl ⟨_, rfl, _, 2147483647, rfl, rfl, by show (0 : Int) < 2147483647; decide, ?_⟩⟩
            obtain ⟨M, hM, m0, m1⟩ := modOf (c * 48271 + (0 + (i : Int)) * 69621 + 11) (b := 2147483647) (by decide)
            show gName 7 (V.int ((c * 48271 + (0 + (i : Int)) * 69621 + 11) % 2147483647)) _ _ _
            rw [hM]
            refine ⟨_, rfl, _, rfl, M, M, rfl, rfl, .inl ⟨by omega, by omega⟩, _, 4096, rfl, rfl, ⟨by decide, by decide⟩, _, rfl, _, _, rfl, rfl, .inl ⟨_, rfl, _, 2147483629, rfl, rfl, by show (0 : Int) < 2147483629; decide, ?_⟩⟩
            obtain ⟨N, hN, z0, z1⟩ := modOf (M * M / 4096 + M) (b := 2147483629) (by decide)
            show gName 7 (V.int ((M * M / 4096 + M) % 2147483629)) _ _ _
            rw [hN]
            refine ⟨_, rfl, .inl ⟨rfl, _, .inl (.inl eD3)⟩, _, rfl, _, rfl, N, N, rfl, rfl, .inl ⟨by omega, by omega⟩, _, 4096, rfl, rfl, ⟨by decide, by decide⟩, _, rfl, (0 + (i : Int)), 7919, rfl, rfl, .inr ⟨by decide, by decide⟩, _, _, rfl, rfl, .inl ⟨_, rfl, _, 2147483629, rfl, rfl, by show (0 : Int) < 2147483629; decide, D, _, _, rfl, rfl, eD3, big6' (by rw [List.length_map]; omega), ?_⟩⟩
            exact ⟨⟨_, _, _, _, rfl⟩, Same.mut s3 nD0, rs, ds ++ [_], by rw [upd_ne RD]; exact eR3, lrs, setD _, by simp; omega⟩
        · refine ⟨_, rfl, (0 + (i : Int)), 48271, rfl, rfl, .inr ⟨by decide, by decide⟩, _, rfl, (0 + (i : Int)), 69621, rfl, rfl, .inr ⟨by decide, by decide⟩, _, _, rfl, rfl, _, _, rfl, rfl, .inl ⟨_, rfl, _, 2147483647, rfl, rfl, by show (0 : Int) < 2147483647; decide, ?_⟩⟩
          obtain ⟨M, hM, m0, m1⟩ := modOf ((0 + (i : Int)) * 48271 + (0 + (i : Int)) * 69621 + 11) (b := 2147483647) (by decide)
          show gName 7 (V.int (((0 + (i : Int)) * 48271 + (0 + (i : Int)) * 69621 + 11) % 2147483647)) _ _ _
          rw [hM]
          refine ⟨_, rfl, _, rfl, M, M, rfl, rfl, .inl ⟨by omega, by omega⟩, _, 4096, rfl, rfl, ⟨by decide, by decide⟩, _, rfl, _, _, rfl, rfl, .inl ⟨_, rfl, _, 2147483629, rfl, rfl, by show (0 : Int) < 2147483629; decide, ?_⟩⟩
          obtain ⟨N, hN, z0, z1⟩ := modOf (M * M / 4096 + M) (b := 2147483629) (by decide)
          show gName 7 (V.int ((M * M / 4096 + M) % 2147483629)) _ _ _
          rw [hN]
          refine ⟨_, rfl, .inl ⟨rfl, _, .inl (.inl eD3)⟩, _, rfl, _, rfl, N, N, rfl, rfl, .inl ⟨by omega, by omega⟩, _, 4096, rfl, rfl, ⟨by decide, by decide⟩, _, rfl, (0 + (i : Int)), 7919, rfl, rfl, .inr ⟨by decide, by decide⟩, _, _, rfl, rfl, .inl ⟨_, rfl, _, 2147483629, rfl, rfl, by show (0 : Int) < 2147483629; decide, D, _, _, rfl, rfl, eD3, big6' (by rw [List.length_map]; omega), ?_⟩⟩
          exact ⟨⟨_, _, _, _, rfl⟩, Same.mut s3 nD0, rs, ds ++ [_], by rw [upd_ne RD]; exact eR3, lrs, setD _, by simp; omega⟩
      · obtain ⟨⟨y2, y5, y6, y7, rfl⟩, s3, rs, ds, eR3, lrs, eD3, lds⟩ := pv
        exact ⟨_, rfl, q _ D ds s3 eD3⟩

def LsT (H : Hp) (p : Addr) (k : Nat) : Prop := ∃ ls : List Str, H p = some (.lst (ls.map V.str)) ∧ ls.length ≤ k ∧ ∀ l ∈ ls, l.length ≤ 400
theorem LsT.grow {H : Hp} {p : Addr} {k : Nat} {ls : List Str} {l : Str} (e : H p = some (.lst (ls.map V.str ++ [.str l]))) (h1 : ls.length ≤ k) (h2 : ∀ l ∈ ls, l.length ≤ 400) (h3 : l.length ≤ 400) : LsT H p (k + 1) :=
  ⟨ls ++ [l], by rw [e, List.map_append]; rfl, by simp; omega, fun x hx => by
    rcases List.mem_append.mp hx with hx | hx
    · exact h2 x hx
    · rw [List.mem_singleton.mp hx]; exact h3⟩
def sp_l_lines (K : PySem.W.Frag) : Sp := fun vs H Q _ => ∃ (cp wp pp : Addr) (n m : Nat), vs = [.ref cp, .ref wp, .ref pp] ∧ ClT H cp n ∧ n ≤ 5 ∧ WiT H wp m ∧ PlT H pp m ∧ m ≤ 40 ∧ ∀ H' p, Same H H' → LsT H' p (1 + n + m) → Q (.ref p) H'
theorem c_l_lines {k : Nat} (B : Blt mg) (D : DefAt K mg "_law_lines" s_l_lines) : Callee P w K mg base CX0 (k + 1) "_law_lines" ["_law_cluster_here", "_law_wishes_here", "_law_placing_here"] (sp_l_lines K) := by
  obtain ⟨f, fd, F, g⟩ := D
  refine ⟨f, fd, g, F.kp, F.binds (fun _ _ _ _ _ _ us hl => match us, hl with | [_, _, _], _ => rfl), F.ok sc_l_lines (fun vs H Q E h => ?_) (fun cdv A outer s H vs Q E hr h => ?_)⟩
  · obtain ⟨cp, wp, pp, n, m, rfl, _⟩ := h
    rfl
  · obtain ⟨cp, wp, pp, n, m, rfl, hq⟩ := h
    -- slots 0 _law_cluster_here, 1 _law_wishes_here, 2 _law_placing_here, 3 _law_lines_here, 4 _law_v*, 5 _law_p, 6 _law_row
    refine ⟨_, pss_cons (ps_set (i := 3) sc_l_lines.nd rfl (.inl rfl) (pe_lst (pa_cons (pe_op op_add_str (pe_op op_add_str (pe_op op_add_str (pe_str) (pe_callTy call_str_int (by rfl) B.n_str boot_str (pa_cons (pe_callB call_len_seq (by rfl) B.n_len boot_len (pa_cons (pe_ix ix_tup (pv 0) (pe_int) (fun _ _ => rfl)) pa_nil)) pa_nil))) (pe_str)) (pe_callTy call_str_int (by rfl) B.n_str boot_str (pa_cons (pe_callB call_len_seq (by rfl) B.n_len boot_len (pa_cons (pv 1) pa_nil)) pa_nil))) pa_nil)))
      (pss_cons (ps_for PassesOwn.never rfl (pi_range1 (by rfl) B.n_range (pa_cons (pe_callB call_len_seq (by rfl) B.n_len boot_len (pa_cons (pe_ix ix_tup (pv 0) (pe_int) (fun _ _ => rfl)) pa_nil)) pa_nil)) (pg_name (i := 4) sc_l_lines.nd rfl (.inr rfl))
        (pss_one (ps_expr (pe_bm PySem.F.plainAttrs_list PySem.F.slot_list_append PySem.F.type_list_append mt_append (pv 3) (pa_cons (pe_op op_add_str (pe_str) (pe_join (pe_str) (pe_lc (own := [("_law_row", 6)]) (g := gName 6) (by rfl) sc_l_lines.nd (pi_tup (pv 0)) (blkOk_by (N := n_l_lines) (sc := defScope s_l_lines) (own := [("_law_row", 6)]) (by decide +kernel)) (fun _ _ _ _ _ => pg_name (i := 6) sc_l_lines.nd rfl (.inl rfl)) (fun _ _ _ _ _ => pts_nil) (fun _ _ _ _ _ => pe_callTy call_str_int (by rfl) B.n_str boot_str (pa_cons (pe_ix (ix_tupK (K := K)) (pv 6) (pv 4) (fun _ _ => rfl)) pa_nil))))) pa_nil)))))
      (pss_cons (ps_for PassesOwn.never rfl (pi_range1 (by rfl) B.n_range (pa_cons (pe_callB call_len_seq (by rfl) B.n_len boot_len (pa_cons (pv 1) pa_nil)) pa_nil)) (pg_name (i := 5) sc_l_lines.nd rfl (.inl rfl))
        (pss_one (ps_expr (pe_bm PySem.F.plainAttrs_list PySem.F.slot_list_append PySem.F.type_list_append mt_append (pv 3) (pa_cons (pe_op op_add_str (pe_op op_add_str (pe_op op_add_str (pe_str) (pe_callTy call_str_int (by rfl) B.n_str boot_str (pa_cons (pe_ix ix_tup (pv 1) (pv 5) (fun _ _ => rfl)) pa_nil))) (pe_str)) (pe_join (pe_str) (pe_lc (own := [("_law_v", 4)]) (g := gName 4) (by rfl) sc_l_lines.nd (pi_tup (pe_ix ix_tup (pv 2) (pv 5) (fun _ _ => rfl))) (blkOk_by (N := n_l_lines) (sc := defScope s_l_lines) (own := [("_law_v", 4)]) (by decide +kernel)) (fun _ _ _ _ _ => pg_name (i := 4) sc_l_lines.nd rfl (.inl rfl)) (fun _ _ _ _ _ => pts_nil) (fun _ _ _ _ _ => pe_callTy call_str_int (by rfl) B.n_str boot_str (pa_cons (pv 4) pa_nil))))) pa_nil)))))
      (pss_one (ps_ret (pv 3))))), ?_⟩
    obtain ⟨⟨r0, r1, r2, l0, l1, l2, ec, e0, e1, e2, n0, n1, n2, p0, p1, p2⟩, hn, ⟨lw, ew, mw, pw⟩, ⟨ts, et, mt, pt⟩, hm, q⟩ := hq
    have hS := str_small (n := (l0.length : Nat)) (by omega) (by omega)
    have hM := str_small (n := (lw.length : Nat)) (by omega) (by omega)
    refine ⟨_, rfl, cp, _, 0, _, rfl, rfl, .inl (.inl ec), atI_nat (j := 0) rfl, r0, _, rfl, .inr (.inl (.inl e0)), (l0.length : Nat), by rw [List.length_map], hS.1, _, _, rfl, rfl, big6 (by rw [len_cl]; omega), _, _, rfl, rfl, big6 (by rw [Str.length_append, len_cl, len_bl]; omega),
      _, rfl, wp, _, rfl, .inr (.inl (.inl ew)), (lw.length : Nat), by rw [List.length_map], hM.1, _, _, rfl, rfl, big6 (by rw [Str.length_append, Str.length_append, len_cl, len_bl]; omega), by show 1 ≤ sizeLine; decide, fun p np => ?_⟩
    have hcl := clusterL_len (S := (l0.length : Nat)) (P := (lw.length : Nat)) (by omega) (by omega)
    have ep : LsT (upd H p (.lst [.str (clusterL (l0.length : Nat) (lw.length : Nat))])) p 1 := ⟨[_], upd_same, Nat.le_refl _, fun x hx => by rw [List.mem_singleton.mp hx]; omega⟩
    have s1 : Same H (upd H p (.lst [.str (clusterL (l0.length : Nat) (lw.length : Nat))])) := same_upd np
    show tSeq _ _ _ _ (upd H p (.lst [.str (clusterL (l0.length : Nat) (lw.length : Nat))]))
    generalize upd H p (.lst [.str (clusterL (l0.length : Nat) (lw.length : Nat))]) = H0 at ep s1 ⊢
    -- the stores
    refine ⟨_, rfl, cp, _, 0, _, rfl, rfl, .inl (.inl (s1 _ _ ec)), atI_nat (j := 0) rfl, r0, _, rfl, .inr (.inl (.inl (s1 _ _ e0))), (l0.length : Nat), by rw [List.length_map], by omega, by omega, ?_⟩
    refine for_it walk_range (fun i σ H' => (∃ y4, σ = [some (.ref cp), some (.ref wp), some (.ref pp), some (.ref p), y4, none, none]) ∧ Same H H' ∧ LsT H' p (1 + i)) ⟨⟨none, rfl⟩, s1, ep⟩ (fun _ _ _ _ _ => trivial) (fun i x σ H1 H' hi pv yy => ?_) (fun σ H1 pv => ?_)
    · obtain ⟨⟨y4, rfl⟩, sm, ls, epi, hls, hl4⟩ := pv
      obtain ⟨rfl, rfl⟩ := yy
      have hi' : i < l0.length := by omega
      have g : ∀ (l : List Int), l.length = l0.length → (∀ m ∈ l, 0 ≤ m ∧ m < 100) → ∃ a : Int, (l.map V.int)[i]? = some (.int a) ∧ 0 ≤ a ∧ a < 100 := fun l e hb => by
        have hx : l[i]? = some (l[i]'(by omega)) := List.getElem?_eq_getElem (by omega)
        exact ⟨_, by rw [List.getElem?_map, hx]; rfl, hb _ (List.mem_of_getElem? hx)⟩
      obtain ⟨a0, g0, b0⟩ := g l0 rfl p0
      obtain ⟨a1, g1, b1⟩ := g l1 (by omega) p1
      obtain ⟨a2, g2, b2⟩ := g l2 (by omega) p2
      refine ⟨_, rfl, .inl ⟨rfl, _, .inl (.inl epi)⟩, ⟨_, rfl⟩, _, rfl, cp, rfl, ⟨_, .inl (.inl (sm _ _ ec))⟩, fun D nD => ?_⟩
      refine lc_to (walk_tup (K := K) (a := cp) (xs := [.ref r0, .ref r1, .ref r2])) ([sN a0, sN a1, sN a2].map V.str) rfl (by simp) nD (fun H' s => .inl (.inl (s _ _ (sm _ _ ec)))) (fun m x H4 H5 y Q2 hm s4 yy hy k2 => ?_) (fun H4 s4 e4 => ?_)
      · obtain ⟨rfl, hx⟩ := yy
        have hn2 : ∃ (r : Addr) (l : List Int) (a : Int), x = .ref r ∧ H r = some (.tup (l.map V.int)) ∧ (l.map V.int)[i]? = some (.int a) ∧ 0 ≤ a ∧ a < 100 ∧ y = .str (sN a) := by
          match m, hx, hy with
          | 0, hx, hy => cases hx; cases hy; exact ⟨r0, l0, a0, rfl, e0, g0, b0.1, b0.2, rfl⟩
          | 1, hx, hy => cases hx; cases hy; exact ⟨r1, l1, a1, rfl, e1, g1, b1.1, b1.2, rfl⟩
          | 2, hx, hy => cases hx; cases hy; exact ⟨r2, l2, a2, rfl, e2, g2, b2.1, b2.2, rfl⟩
        obtain ⟨r, l, a, rfl, er, ga, z0, z1, rfl⟩ := hn2
        exact ⟨rfl, _, rfl, _, rfl, r, _, _, _, rfl, rfl, .inl (.inl (s4 _ _ (sm _ _ er))), at_of (j := i) (by omega) ga, a, rfl, (str_small z0 z1).1, k2 _ (Same.refl _)⟩
      · have l3 := three_len (sN_len b0.1 b0.2) (sN_len b1.1 b1.2) (sN_len b2.1 b2.2)
        refine ⟨_, D, _, rfl, rfl, .inl (.inl (.inl e4)), join_fits sep_blank.len (by omega), ?_⟩
        rw [TL.join_eq]
        have j3 := join_le sep_blank.len [sN a0, sN a1, sN a2]
        refine ⟨_, _, rfl, rfl, big6 (by rw [len_st]; omega), ?_⟩
        have ep4 := s4 _ _ epi
        refine ⟨p, _, _, rfl, rfl, ep4, big6' (by rw [List.length_map]; omega), ?_⟩
        refine ⟨⟨_, rfl⟩, Same.mut (sm.trans s4) np, LsT.grow upd_same hls hl4 ?_⟩
        rw [Str.length_append, len_st]
        omega
    · obtain ⟨⟨y4, rfl⟩, sm, lsp⟩ := pv
      -- the pieces
      refine ⟨_, rfl, wp, _, rfl, .inr (.inl (.inl (sm _ _ ew))), (lw.length : Nat), by rw [List.length_map], by omega, by omega, ?_⟩
      refine for_it walk_range (fun i σ H' => (∃ y5, σ = [some (.ref cp), some (.ref wp), some (.ref pp), some (.ref p), y4, y5, none]) ∧ Same H H' ∧ LsT H' p (1 + n + i)) ⟨⟨none, rfl⟩, sm, by rw [show 1 + n + 0 = 1 + ((l0.length : Nat) : Int).toNat by omega]; exact lsp⟩ (fun _ _ _ _ _ => trivial) (fun i x σ H2 H' hi pv yy => ?_) (fun σ H2 pv => ?_)
      · obtain ⟨⟨y5, rfl⟩, sm2, ls, ep2, hls, hl4⟩ := pv
        obtain ⟨rfl, rfl⟩ := yy
        have hi' : i < lw.length := by omega
        have gw : lw[i]? = some (lw[i]'hi') := List.getElem?_eq_getElem hi'
        have gt : ts[i]? = some (ts[i]'(by omega)) := List.getElem?_eq_getElem (by omega)
        have gw2 : (lw.map V.int)[i]? = some (.int (lw[i]'hi')) := by rw [List.getElem?_map, gw]; rfl
        have gt2 : (ts.map V.ref)[i]? = some (.ref (ts[i]'(by omega))) := by rw [List.getElem?_map, gt]; rfl
        have bw := pw _ (List.mem_of_getElem? gw)
        obtain ⟨l, el, hl1, hl2⟩ := pt _ (List.mem_of_getElem? gt)
        generalize lw[i]'hi' = wv at gw2 bw
        generalize ts[i]'(by omega) = tv at gt2 el
        have hW := str_small bw.1 bw.2
        refine ⟨_, rfl, .inl ⟨rfl, _, .inl (.inl ep2)⟩, _, rfl, _, rfl, wp, _, _, _, rfl, rfl, .inl (.inl (sm2 _ _ ew)), at_of (j := i) (by omega) gw2, wv, rfl, hW.1, _, _, rfl, rfl, big6 (by rw [len_pc]; omega), _, _, rfl, rfl, big6 (by rw [Str.length_append, len_pc, len_bl]; omega), ?_⟩
        refine ⟨⟨_, rfl⟩, _, rfl, _, rfl, pp, _, _, _, rfl, rfl, .inl (.inl (sm2 _ _ et)), at_of (j := i) (by omega) gt2, tv, rfl, ⟨_, .inl (.inl (sm2 _ _ el))⟩, fun D nD => ?_⟩
        refine lc_to (walk_tup (K := K) (a := tv) (xs := l.map V.int)) ((l.map fun n => (toString n : Str)).map V.str) (by simp) (by simp; omega) nD (fun H' s => .inl (.inl (s _ _ (sm2 _ _ el)))) (fun m x H4 H5 y Q2 hm s4 yy hy k2 => ?_) (fun H4 s4 e4 => ?_)
        · obtain ⟨rfl, hx⟩ := yy
          obtain ⟨n, hn, rfl⟩ := map_int_get hx
          rw [List.map_map] at hy
          have ey := get_map hy hn
          subst ey
          have hb' := hl2 n (List.mem_of_getElem? hn)
          exact ⟨rfl, _, rfl, n, rfl, (str_small hb'.1 hb'.2).1, k2 _ (Same.refl _)⟩
        · have ht : tot (l.map fun n => (toString n : Str)) ≤ (l.map fun n => (toString n : Str)).length * 3 := tot_small fun x hx => by
            obtain ⟨n, hn, rfl⟩ := List.mem_map.mp hx
            exact (str_small (hl2 n hn).1 (hl2 n hn).2).2
          rw [List.length_map] at ht
          refine ⟨_, D, _, rfl, rfl, .inl (.inl (.inl e4)), join_fits sep_comma.len (by omega), ?_⟩
          rw [TL.join_eq]
          have j3 := join_le sep_comma.len (l.map fun n => (toString n : Str))
          have hlen : (Str.ofString "piece " ++ Str.ofString (toString wv) ++ Str.ofString " ").length ≤ 9 := by
            rw [Str.length_append, Str.length_append, len_pc, len_bl]
            omega
          refine ⟨_, _, rfl, rfl, big6 (by omega), ?_⟩
          have ep4 := s4 _ _ ep2
          refine ⟨p, _, _, rfl, rfl, ep4, big6' (by rw [List.length_map]; omega), ?_⟩
          refine ⟨⟨_, rfl⟩, Same.mut (sm2.trans s4) np, LsT.grow upd_same hls hl4 ?_⟩
          rw [Str.length_append]
          omega
      · obtain ⟨⟨y5, rfl⟩, sm2, lsp2⟩ := pv
        exact ⟨_, rfl, q _ p sm2 (by rw [show 1 + n + m = 1 + n + ((lw.length : Nat) : Int).toNat by omega]; exact lsp2)⟩

def bentW1 : List Str := [Str.ofString "0", Str.ofString "1", Str.ofString "2", Str.ofString "3", Str.ofString "4", Str.ofString "8", Str.ofString "9", Str.ofString "99", Str.ofString "100", Str.ofString "01", Str.ofString "00", Str.ofString "-1", Str.ofString "", Str.ofString "-", Str.ofString "0,1", Str.ofString "1,0", Str.ofString "0,0", Str.ofString "0,1,2", Str.ofString "cluster"]
def bentW2 : List Str := [Str.ofString "store", Str.ofString "piece", Str.ofString "41", Str.ofString "40", Str.ofString "0,", Str.ofString ",0", Str.ofString "a", Str.ofString "+1", Str.ofString "1.", Str.ofString "5", Str.ofString "7", Str.ofString "0,2", Str.ofString "000", Str.ofString "1_0"]
theorem bentW_len : ∀ x ∈ bentW1 ++ bentW2, x.length ≤ 7 := by decide +kernel
theorem pickS {l : List Str} {r : Int} (h0 : 0 ≤ r) (h1 : r < l.length) : ∃ n, n ∈ l ∧ atI (l.map V.str) r = some (.str n) := by
  have hr : r.toNat < l.length := by omega
  have e : (l.map V.str)[r.toNat]? = some (.str (l[r.toNat]'hr)) := by rw [List.getElem?_map, List.getElem?_eq_getElem hr]; rfl
  exact ⟨_, List.getElem_mem hr, at_of (j := r.toNat) (by omega) e⟩
def sp_l_word : Sp := fun vs H Q _ => ∃ (h dr : Addr), vs = [.ref h] ∧ HandAt H h dr ∧ ∀ H' w, But h H H' → HandAt H' h dr → w.length ≤ 7 → Q (.str w) H'
theorem c_l_word {k : Nat} (B : Blt mg) (D : DefAt K mg "_law_word" s_l_word) (C_l_take : Callee P w K mg base CX0 k "_law_take" ["_law_hand", "_law_many"] sp_l_take) : Callee P w K mg base CX0 (k + 1) "_law_word" ["_law_hand"] sp_l_word := by
  obtain ⟨f, fd, F, g⟩ := D
  refine ⟨f, fd, g, F.kp, F.binds (fun _ _ _ _ _ _ us hl => match us, hl with | [_], _ => rfl), F.ok sc_l_word (fun vs H Q E h => ?_) (fun cdv A outer s H vs Q E hr h => ?_)⟩
  · obtain ⟨h, dr, rfl, _⟩ := h
    rfl
  · obtain ⟨h, dr, rfl, hq⟩ := h
    -- slots 0 _law_hand, 1 _law_words
    refine ⟨_, pss_cons (ps_set (i := 1) sc_l_word.nd rfl (.inl rfl) (pe_lst (pa_cons (pe_str) (pa_cons (pe_str) (pa_cons (pe_str) (pa_cons (pe_str) (pa_cons (pe_str) (pa_cons (pe_str) (pa_cons (pe_str) (pa_cons (pe_str) (pa_cons (pe_str) (pa_cons (pe_str) (pa_cons (pe_str) (pa_cons (pe_str) (pa_cons (pe_str) (pa_cons (pe_str) (pa_cons (pe_str) (pa_cons (pe_str) (pa_cons (pe_str) (pa_cons (pe_str) (pa_cons (pe_str) pa_nil)))))))))))))))))))))
      (pss_cons (ps_set (i := 1) sc_l_word.nd rfl (.inl rfl) (pe_op op_cat (pv 1) (pe_lst (pa_cons (pe_str) (pa_cons (pe_str) (pa_cons (pe_str) (pa_cons (pe_str) (pa_cons (pe_str) (pa_cons (pe_str) (pa_cons (pe_str) (pa_cons (pe_str) (pa_cons (pe_str) (pa_cons (pe_str) (pa_cons (pe_str) (pa_cons (pe_str) (pa_cons (pe_str) (pa_cons (pe_str) pa_nil)))))))))))))))))
      (pss_one (ps_ret (pe_ix ix_list (pv 1) (pe_cal C_l_take hr (by rfl) (pa_cons (pv 0) (pa_cons (pe_callB call_len_seq (by rfl) B.n_len boot_len (pa_cons (pv 1) pa_nil)) pa_nil))) (fun _ _ => rfl))))), ?_⟩
    obtain ⟨hh, q⟩ := hq
    refine ⟨by show 19 ≤ sizeLine; decide, fun p1 n1 => ?_⟩
    have s1 := same_upd (o := .lst (bentW1.map V.str)) n1
    have e1 : (upd H p1 (.lst (bentW1.map V.str))) p1 = some (.lst (bentW1.map V.str)) := upd_same
    show tSeq _ _ _ _ (upd H p1 (.lst (bentW1.map V.str)))
    generalize upd H p1 (.lst (bentW1.map V.str)) = H1 at s1 e1 ⊢
    refine ⟨_, rfl, by show 14 ≤ sizeLine; decide, fun p2 n2 => ?_⟩
    have s2 := same_upd (o := .lst (bentW2.map V.str)) n2
    refine ⟨p1, p2, bentW1.map V.str, bentW2.map V.str, rfl, rfl, s2 _ _ e1, upd_same, by decide, fun p3 n3 => ?_⟩
    have s3 := same_upd (o := .lst (bentW1.map V.str ++ bentW2.map V.str)) n3
    have e3 : (upd (upd H1 p2 (.lst (bentW2.map V.str))) p3 (.lst (bentW1.map V.str ++ bentW2.map V.str))) p3 = some (.lst ((bentW1 ++ bentW2).map V.str)) := by rw [upd_same, List.map_append]
    have sA : Same H (upd (upd H1 p2 (.lst (bentW2.map V.str))) p3 (.lst (bentW1.map V.str ++ bentW2.map V.str))) := (s1.trans s2).trans s3
    have hh3 := hh.same sA
    have p3h : p3 ≠ h := ((hh.same (s1.trans s2)).ne n3).1
    show gName 1 _ _ (upd (upd H1 p2 (.lst (bentW2.map V.str))) p3 (.lst (bentW1.map V.str ++ bentW2.map V.str))) _
    generalize upd (upd H1 p2 (.lst (bentW2.map V.str))) p3 (.lst (bentW1.map V.str ++ bentW2.map V.str)) = H3 at e3 sA hh3 ⊢
    refine ⟨_, rfl, _, rfl, _, rfl, p3, _, rfl, .inl (.inl (.inl e3)), h, dr, _, rfl, hh3, by decide, fun H4 r b4 h4 r0 r1 => ?_⟩
    obtain ⟨w, hw, ew⟩ := pickS (l := bentW1 ++ bentW2) r0 (by rw [List.length_map] at r1; exact r1)
    exact ⟨p3, _, r, _, rfl, rfl, .inl (.inl (b4 _ _ p3h e3)), ew, q _ w (fun b o k e => b4 b o k (sA b o e)) h4 (bentW_len w hw)⟩

end
end K6

namespace K6
open PySem PySem.Spec PyProof.Rows L2
open TL (tl len_tl ext_tl tl_append)
section
variable {P : Program} {w : World} {K : PySem.W.Frag} {mg : Str → Option Value} {base : Heap}
theorem cut_str (ls : List Str) (lo hi : Option Int) : ∃ ms : List Str, cutV (ls.map V.str) lo hi = ms.map V.str ∧ tot ms ≤ tot ls := by
  refine ⟨(ls.drop (HT.sIx ls.length 0 lo)).take (HT.sIx ls.length ls.length hi - HT.sIx ls.length 0 lo), ?_, Nat.le_trans (tot_take _ _) (tot_drop _ _)⟩
  unfold cutV
  rw [List.length_map, List.map_take, List.map_drop]
theorem But.mut {h p : Addr} {H H' : Hp} {o : HO} (e : But h H H') (n : H p = none) : But h H (L2.upd H' p o) := fun b u k eb => by
  rw [upd_ne (ne_of_none eb n)]
  exact e b u k eb
theorem HandAt.mut {H : Hp} {h dr p : Addr} {o : HO} (x : HandAt H h dr) (n1 : p ≠ h) (n2 : p ≠ dr) : HandAt (L2.upd H p o) h dr := x.but n1 n2 fun b u k e => by
  rw [upd_ne k]
  exact e
def sp_l_bent_line : Sp := fun vs H Q _ => ∃ (h dr : Addr) (z : Str), vs = [.ref h, .str z] ∧ HandAt H h dr ∧ z.length ≤ 1000000 ∧ ∀ H' r, But h H H' → HandAt H' h dr → r.length ≤ 2 * z.length + 20 → Q (.str r) H'
theorem c_l_bent_line {k : Nat} (B : Blt mg) (D : DefAt K mg "_law_bent_line" s_l_bent_line) (C_l_take : Callee P w K mg base CX0 k "_law_take" ["_law_hand", "_law_many"] sp_l_take) (C_l_word : Callee P w K mg base CX0 k "_law_word" ["_law_hand"] sp_l_word) : Callee P w K mg base CX0 (k + 1) "_law_bent_line" ["_law_hand", "_law_line"] sp_l_bent_line := by
  obtain ⟨f, fd, F, g⟩ := D
  refine ⟨f, fd, g, F.kp, F.binds (fun _ _ _ _ _ _ us hl => match us, hl with | [_, _], _ => rfl), F.ok sc_l_bent_line (fun vs H Q E h => ?_) (fun cdv A outer s H vs Q E hr h => ?_)⟩
  · obtain ⟨h, dr, z, rfl, _⟩ := h
    rfl
  · obtain ⟨h, dr, z, rfl, hq⟩ := h
    -- slots 0 _law_hand, 1 _law_line, 2 _law_words, 3 _law_at, 4 _law_kind, 5 _law_parts
    refine ⟨_, pss_cons (ps_set (i := 2) sc_l_bent_line.nd rfl (.inl rfl) (pe_split (pv 1) (pe_str)))
      (pss_cons (ps_set (i := 3) sc_l_bent_line.nd rfl (.inl rfl) (pe_cal C_l_take hr (by rfl) (pa_cons (pv 0) (pa_cons (pe_callB call_len_seq (by rfl) B.n_len boot_len (pa_cons (pv 2) pa_nil)) pa_nil))))
      (pss_cons (ps_set (i := 4) sc_l_bent_line.nd rfl (.inl rfl) (pe_cal C_l_take hr (by rfl) (pa_cons (pv 0) (pa_cons (pe_int) pa_nil))))
      (pss_cons (ps_if (pt_cmpR op_lt (pv 4) (pe_int) (nomark _))
        (pss_one (ps_asg (pe_cal C_l_word hr (by rfl) (pa_cons (pv 0) pa_nil)) (pg_sub (pv 2) (pv 3) set_list)))
        (pss_one (ps_if (pt_cmpR op_eq (pv 4) (pe_int) (nomark _))
          (pss_one (ps_set (i := 2) sc_l_bent_line.nd rfl (.inl rfl) (pe_op op_cat (pe_op op_cat (pe_slice sl_list (pv 2) po_none (po_some (pv 3))) (pe_lst (pa_cons (pe_cal C_l_word hr (by rfl) (pa_cons (pv 0) pa_nil)) pa_nil))) (pe_slice sl_list (pv 2) (po_some (pv 3)) po_none))))
          (pss_one (ps_if (pt_cmpR op_eq (pv 4) (pe_int) (nomark _))
            (pss_one (ps_set (i := 2) sc_l_bent_line.nd rfl (.inl rfl) (pe_op op_cat (pe_slice sl_list (pv 2) po_none (po_some (pv 3))) (pe_slice sl_list (pv 2) (po_some (pe_op op_add (pv 3) (pe_int))) po_none))))
            (pss_cons (ps_set (i := 5) sc_l_bent_line.nd rfl (.inl rfl) (pe_split (pe_ix ix_list (pv 2) (pv 3) (fun _ _ => rfl)) (pe_str)))
            (pss_cons (ps_asg (pe_cal C_l_word hr (by rfl) (pa_cons (pv 0) pa_nil)) (pg_sub (pv 5) (pe_cal C_l_take hr (by rfl) (pa_cons (pv 0) (pa_cons (pe_callB call_len_seq (by rfl) B.n_len boot_len (pa_cons (pv 5) pa_nil)) pa_nil))) set_list))
            (pss_one (ps_asg (pe_join (pe_str) (pv 5)) (pg_sub (pv 2) (pv 3) set_list))))))))))
      (pss_one (ps_ret (pe_join (pe_str) (pv 2))))))), ?_⟩
    obtain ⟨hh, hz, q⟩ := hq
    have hW : tot (Txt.split z (Str.ofString " ")) = z.length + 1 := split_tot sep_blank
    have hN : Txt.split z (Str.ofString " ") ≠ [] := split_ne sep_blank.ne sep_blank.small
    refine ⟨_, rfl, ⟨_, rfl⟩, z, _, rfl, rfl, by decide +kernel, big6 (by omega), fun c nc => ?_⟩
    generalize Txt.split z (Str.ofString " ") = W at hW hN ⊢
    have hWl := len_tot W
    have hW1 : 1 ≤ W.length := by
      have := List.length_pos_iff.mpr hN
      omega
    obtain ⟨cnh, cnd⟩ := hh.ne nc
    have s1 := same_upd (o := .lst (W.map V.str)) nc
    have ec1 : (upd H c (.lst (W.map V.str))) c = some (.lst (W.map V.str)) := upd_same
    have h1 := hh.same s1
    show tSeq _ _ _ _ (upd H c (.lst (W.map V.str)))
    generalize upd H c (.lst (W.map V.str)) = H1 at s1 ec1 h1 ⊢
    refine ⟨_, rfl, _, rfl, c, _, rfl, .inl (.inl (.inl ec1)), h, dr, _, rfl, h1, by rw [List.length_map]; omega, fun H2 t b2 h2 a0 a1 => ?_⟩
    rw [List.length_map] at a1
    refine ⟨_, rfl, h, dr, 5, rfl, h2, by omega, fun H3 kd b3 h3 k0 k1 => ?_⟩
    have ec3 := b3 _ _ cnh (b2 _ _ cnh ec1)
    have b03 : But h H H3 := ((But.of_same s1).trans b2).trans b3
    refine ⟨_, rfl, _, _, rfl, rfl, _, rfl, ite2 (fun _ => ?_) (fun _ => ?_)⟩
    · refine ⟨_, rfl, h, dr, rfl, h3, fun H4 w b4 h4 lw => ⟨_, rfl, _, rfl, c, _, t, t.toNat, rfl, rfl, b4 _ _ cnh ec3, ixN_in a0 (by rw [List.length_map]; exact a1), ?_⟩⟩
      have e5 : (upd H4 c (.lst ((W.map V.str).set t.toNat (.str w)))) c = some (.lst ((W.set t.toNat w).map V.str)) := by rw [upd_same, List.map_set]
      have ht := tot_set W t.toNat w
      refine ⟨⟨_, rfl⟩, _, rfl, _, c, _, rfl, rfl, .inl (.inl (.inl e5)), join_fits sep_blank.len (by omega), ?_⟩
      rw [TL.join_eq]
      have hj := join_le sep_blank.len (W.set t.toNat w)
      exact q _ _ ((b03.trans b4).mut nc) (h4.mut cnh cnd) (by omega)
    · refine ⟨_, rfl, rfl, _, rfl, ite2 (fun _ => ?_) (fun _ => ?_)⟩
      · obtain ⟨A1, eA1, tA1⟩ := cut_str W none (some t)
        obtain ⟨A2, eA2, tA2⟩ := cut_str W (some t) none
        have lA1 := len_tot A1
        have lA2 := len_tot A2
        refine ⟨_, rfl, _, rfl, t, rfl, c, _, rfl, .inl (.inl ec3), ?_⟩
        rw [eA1]
        intro p1 n1
        have s4 := same_upd (o := .lst (A1.map V.str)) n1
        have p1h := (h3.ne n1).1
        refine ⟨_, rfl, h, dr, rfl, h3.same s4, fun H4 w b4 h4 lw => ⟨by show 1 ≤ sizeLine; decide, fun p2 n2 => ?_⟩⟩
        have s5 := same_upd (o := .lst [.str w]) n2
        refine ⟨p1, p2, A1.map V.str, [.str w], rfl, rfl, s5 _ _ (b4 _ _ p1h upd_same), upd_same, big6 (by rw [List.length_map]; show _ + 1 ≤ _; omega), fun p3 n3 => ?_⟩
        have s6 := same_upd (o := .lst (A1.map V.str ++ [.str w])) n3
        have ec6 := s6 _ _ (s5 _ _ (b4 _ _ cnh (s4 _ _ ec3)))
        refine ⟨_, rfl, _, rfl, t, rfl, c, _, rfl, .inl (.inl ec6), ?_⟩
        rw [eA2]
        intro p4 n4
        have s7 := same_upd (o := .lst (A2.map V.str)) n4
        refine ⟨p3, p4, A1.map V.str ++ [.str w], A2.map V.str, rfl, rfl, s7 _ _ upd_same, upd_same, big6 (by rw [List.length_append, List.length_map, List.length_map]; show _ + 1 + _ ≤ _; omega), fun p5 n5 => ?_⟩
        have s8 := same_upd (o := .lst (A1.map V.str ++ [.str w] ++ A2.map V.str)) n5
        have e9 : (.lst (A1.map V.str ++ [.str w] ++ A2.map V.str) : HO) = .lst ((A1 ++ [w] ++ A2).map V.str) := by rw [List.map_append, List.map_append]; rfl
        have ht : tot (A1 ++ [w] ++ A2) ≤ 2 * tot W + 8 := by
          rw [tot_append, tot_append, tot_cons, tot_nil]
          omega
        refine ⟨⟨_, rfl⟩, _, rfl, _, p5, _, rfl, rfl, .inl (.inl (.inl (upd_same.trans (congrArg some e9)))), join_fits sep_blank.len (by omega), ?_⟩
        rw [TL.join_eq]
        have hj := join_le sep_blank.len (A1 ++ [w] ++ A2)
        exact q _ _ ((b03.trans (But.of_same s4)).trans (b4.trans (But.of_same (s5.trans (s6.trans (s7.trans s8)))))) (h4.same (s5.trans (s6.trans (s7.trans s8)))) (by omega)
      · refine ⟨_, rfl, rfl, _, rfl, ite2 (fun _ => ?_) (fun _ => ?_)⟩
        · obtain ⟨A1, eA1, tA1⟩ := cut_str W none (some t)
          obtain ⟨A2, eA2, tA2⟩ := cut_str W (some (t + 1)) none
          have lA1 := len_tot A1
          have lA2 := len_tot A2
          refine ⟨_, rfl, _, rfl, t, rfl, c, _, rfl, .inl (.inl ec3), ?_⟩
          rw [eA1]
          intro p1 n1
          have s4 := same_upd (o := .lst (A1.map V.str)) n1
          refine ⟨_, rfl, _, rfl, _, _, rfl, rfl, t + 1, rfl, c, _, rfl, .inl (.inl (s4 _ _ ec3)), ?_⟩
          rw [eA2]
          intro p2 n2
          have s5 := same_upd (o := .lst (A2.map V.str)) n2
          refine ⟨p1, p2, A1.map V.str, A2.map V.str, rfl, rfl, s5 _ _ upd_same, upd_same, big6 (by rw [List.length_map, List.length_map]; omega), fun p3 n3 => ?_⟩
          have s6 := same_upd (o := .lst (A1.map V.str ++ A2.map V.str)) n3
          have e9 : (.lst (A1.map V.str ++ A2.map V.str) : HO) = .lst ((A1 ++ A2).map V.str) := by rw [List.map_append]
          have ht : tot (A1 ++ A2) ≤ 2 * tot W := by
            rw [tot_append]
            omega
          refine ⟨⟨_, rfl⟩, _, rfl, _, p3, _, rfl, rfl, .inl (.inl (.inl (upd_same.trans (congrArg some e9)))), join_fits sep_blank.len (by omega), ?_⟩
          rw [TL.join_eq]
          have hj := join_le sep_blank.len (A1 ++ A2)
          exact q _ _ (b03.trans (But.of_same (s4.trans (s5.trans s6)))) (h3.same (s4.trans (s5.trans s6))) (by omega)
        · obtain ⟨v, hv, ev⟩ := pickS (l := W) a0 a1
          have hvl := mem_tot hv
          have hP : tot (Txt.split v (Str.ofString ",")) = v.length + 1 := split_tot sep_comma
          have hPN : Txt.split v (Str.ofString ",") ≠ [] := split_ne sep_comma.ne sep_comma.small
          refine ⟨_, rfl, _, rfl, c, _, t, _, rfl, rfl, .inl (.inl ec3), ev, ⟨_, rfl⟩, v, _, rfl, rfl, by decide +kernel, big6 (by omega), fun c2 nc2 => ?_⟩
          generalize Txt.split v (Str.ofString ",") = PS at hP hPN ⊢
          have hP1 : 1 ≤ PS.length := by
            have := List.length_pos_iff.mpr hPN
            omega
          have s4 := same_upd (o := .lst (PS.map V.str)) nc2
          obtain ⟨c2h, c2d⟩ := h3.ne nc2
          refine ⟨_, rfl, h, dr, rfl, h3.same s4, fun H4 w b4 h4 lw => ?_⟩
          have ec24 := b4 _ _ c2h (upd_same (H := H3) (a := c2) (o := .lst (PS.map V.str)))
          refine ⟨_, rfl, _, rfl, _, rfl, c2, _, rfl, .inl (.inl (.inl ec24)), h, dr, _, rfl, h4, by rw [List.length_map]; omega, fun H5 u b5 h5 u0 u1 => ?_⟩
          rw [List.length_map] at u1
          refine ⟨c2, _, u, u.toNat, rfl, rfl, b5 _ _ c2h ec24, ixN_in u0 (by rw [List.length_map]; exact u1), ?_⟩
          have e6 : (upd H5 c2 (.lst ((PS.map V.str).set u.toNat (.str w)))) c2 = some (.lst ((PS.set u.toNat w).map V.str)) := by rw [upd_same, List.map_set]
          have ht := tot_set PS u.toNat w
          have hj := join_le sep_comma.len (PS.set u.toNat w)
          have cc2 : c ≠ c2 := ne_of_none ec3 nc2
          have ec6 : (upd H5 c2 (.lst ((PS.map V.str).set u.toNat (.str w)))) c = some (.lst (W.map V.str)) := by
            rw [upd_ne cc2]
            exact b5 _ _ cnh (b4 _ _ cnh (s4 _ _ ec3))
          have h6 : HandAt (upd H5 c2 (.lst ((PS.map V.str).set u.toNat (.str w)))) h dr := h5.mut c2h c2d
          have b36 : But h H3 (upd H5 c2 (.lst ((PS.map V.str).set u.toNat (.str w)))) := (((But.of_same s4).trans b4).trans b5).mut nc2
          generalize upd H5 c2 (.lst ((PS.map V.str).set u.toNat (.str w))) = H6 at e6 ec6 h6 b36 ⊢
          refine ⟨⟨_, rfl⟩, _, rfl, _, c2, _, rfl, rfl, .inl (.inl (.inl e6)), join_fits sep_comma.len (by omega), ?_⟩
          rw [TL.join_eq]
          refine ⟨_, rfl, _, rfl, c, _, t, t.toNat, rfl, rfl, ec6, ixN_in a0 (by rw [List.length_map]; exact a1), ?_⟩
          have hs := tot_set W t.toNat (Str.join (Str.ofString ",") (PS.set u.toNat w))
          have e7 : (upd H6 c (.lst ((W.map V.str).set t.toNat (.str (Str.join (Str.ofString ",") (PS.set u.toNat w)))))) c = some (.lst ((W.set t.toNat (Str.join (Str.ofString ",") (PS.set u.toNat w))).map V.str)) := by rw [upd_same, List.map_set]
          refine ⟨⟨_, rfl⟩, _, rfl, _, c, _, rfl, rfl, .inl (.inl (.inl e7)), join_fits sep_blank.len (by omega), ?_⟩
          rw [TL.join_eq]
          have hj2 := join_le sep_blank.len (W.set t.toNat (Str.join (Str.ofString ",") (PS.set u.toNat w)))
          exact q _ _ ((b03.trans b36).mut nc) (h6.mut cnh cnd) (by omega)

theorem atI_some {α : Type} {xs : List α} {r : Int} (h0 : 0 ≤ r) (h1 : r < xs.length) : ∃ v, atI xs r = some v := by
  have hr : r.toNat < xs.length := by omega
  have e : r = ((r.toNat : Nat) : Int) := by omega
  rw [e]
  exact ⟨_, atI_nat (List.getElem?_eq_getElem hr)⟩
theorem cutS_len (z : Str) (lo hi : Option Int) : (cutS z lo hi).length ≤ z.length := by
  unfold cutS
  show (List.toArray _).size ≤ z.cps.size
  rw [List.size_toArray, List.length_take, List.length_drop, Array.length_toList]
  omega
def sp_l_bent : Sp := fun vs H Q _ => ∃ (h dr : Addr) (z : Str), vs = [.ref h, .str z] ∧ HandAt H h dr ∧ z.length ≤ 200000 ∧ ∀ H' r, But h H H' → HandAt H' h dr → r.length ≤ 4 * z.length + 40 → Q (.str r) H'
theorem c_l_bent {k : Nat} (B : Blt mg) (D : DefAt K mg "_law_bent" s_l_bent) (C_l_take : Callee P w K mg base CX0 k "_law_take" ["_law_hand", "_law_many"] sp_l_take) (C_l_bent_line : Callee P w K mg base CX0 k "_law_bent_line" ["_law_hand", "_law_line"] sp_l_bent_line) : Callee P w K mg base CX0 (k + 1) "_law_bent" ["_law_hand", "_law_text"] sp_l_bent := by
  obtain ⟨f, fd, F, g⟩ := D
  refine ⟨f, fd, g, F.kp, F.binds (fun _ _ _ _ _ _ us hl => match us, hl with | [_, _], _ => rfl), F.ok sc_l_bent (fun vs H Q E h => ?_) (fun cdv A outer s H vs Q E hr h => ?_)⟩
  · obtain ⟨h, dr, z, rfl, _⟩ := h
    rfl
  · obtain ⟨h, dr, z, rfl, hq⟩ := h
    -- slots 0 _law_hand, 1 _law_text, 2 _law_lines_here, 3 _law_kind, 4 _law_at, 5 _law_other, 6 _law_line, 7 _law_place, 8 _law_sign
    refine ⟨_, pss_cons (ps_set (i := 2) sc_l_bent.nd rfl (.inl rfl) (pe_split (pv 1) (pe_str)))
      (pss_cons (ps_set (i := 3) sc_l_bent.nd rfl (.inl rfl) (pe_cal C_l_take hr (by rfl) (pa_cons (pv 0) (pa_cons (pe_int) pa_nil))))
      (pss_cons (ps_set (i := 4) sc_l_bent.nd rfl (.inl rfl) (pe_cal C_l_take hr (by rfl) (pa_cons (pv 0) (pa_cons (pe_callB call_len_seq (by rfl) B.n_len boot_len (pa_cons (pv 2) pa_nil)) pa_nil))))
      (pss_cons (ps_set (i := 5) sc_l_bent.nd rfl (.inl rfl) (pe_cal C_l_take hr (by rfl) (pa_cons (pv 0) (pa_cons (pe_callB call_len_seq (by rfl) B.n_len boot_len (pa_cons (pv 2) pa_nil)) pa_nil))))
      (pss_cons (ps_if (pt_cmpR op_lt (pv 3) (pe_int) (nomark _))
        (pss_one (ps_asg (pe_cal C_l_bent_line hr (by rfl) (pa_cons (pv 0) (pa_cons (pe_ix ix_list (pv 2) (pv 4) (fun _ _ => rfl)) pa_nil))) (pg_sub (pv 2) (pv 4) set_list)))
        (pss_one (ps_if (pt_cmpR op_eq (pv 3) (pe_int) (nomark _))
          (pss_one (ps_set (i := 2) sc_l_bent.nd rfl (.inl rfl) (pe_op op_cat (pe_slice sl_list (pv 2) po_none (po_some (pv 4))) (pe_slice sl_list (pv 2) (po_some (pe_op op_add (pv 4) (pe_int))) po_none))))
          (pss_one (ps_if (pt_cmpR op_eq (pv 3) (pe_int) (nomark _))
            (pss_one (ps_set (i := 2) sc_l_bent.nd rfl (.inl rfl) (pe_op op_cat (pe_op op_cat (pe_slice sl_list (pv 2) po_none (po_some (pv 5))) (pe_lst (pa_cons (pe_ix ix_list (pv 2) (pv 4) (fun _ _ => rfl)) pa_nil))) (pe_slice sl_list (pv 2) (po_some (pv 5)) po_none))))
            (pss_one (ps_if (pt_cmpR op_eq (pv 3) (pe_int) (nomark _))
              (pss_cons (ps_set (i := 6) sc_l_bent.nd rfl (.inl rfl) (pe_ix ix_list (pv 2) (pv 4) (fun _ _ => rfl)))
              (pss_cons (ps_asg (pe_ix ix_list (pv 2) (pv 5) (fun _ _ => rfl)) (pg_sub (pv 2) (pv 4) set_list))
              (pss_one (ps_asg (pv 6) (pg_sub (pv 2) (pv 5) set_list)))))
              (pss_one (ps_if (pt_cmpR op_eq (pv 3) (pe_int) (nomark _))
                (pss_one (ps_set (i := 2) sc_l_bent.nd rfl (.inl rfl) (pe_slice sl_list (pv 2) po_none (po_some (pv 4)))))
                pss_nil)))))))))
      (pss_cons (ps_if (pt_cmpR op_lt (pv 3) (pe_int) (nomark _))
        (pss_one (ps_ret (pe_join (pe_str) (pv 2))))
        pss_nil)
      (pss_cons (ps_set (i := 7) sc_l_bent.nd rfl (.inl rfl) (pe_cal C_l_take hr (by rfl) (pa_cons (pv 0) (pa_cons (pe_op op_add (pe_callB call_len_str (by rfl) B.n_len boot_len (pa_cons (pv 1) pa_nil)) (pe_int)) pa_nil))))
      (pss_cons (ps_set (i := 8) sc_l_bent.nd rfl (.inl rfl) (pe_ix ix_str (pe_str) (pe_cal C_l_take hr (by rfl) (pa_cons (pv 0) (pa_cons (pe_int) pa_nil))) (fun _ _ => rfl)))
      (pss_one (ps_ret (pe_ix ix_list (pe_lst (pa_cons (pe_slice sl_str (pv 1) po_none (po_some (pv 7))) (pa_cons (pe_op op_add_str (pe_slice sl_str (pv 1) po_none (po_some (pv 7))) (pe_slice sl_str (pv 1) (po_some (pe_op op_add (pv 7) (pe_int))) po_none)) (pa_cons (pe_op op_add_str (pe_op op_add_str (pe_slice sl_str (pv 1) po_none (po_some (pv 7))) (pv 8)) (pe_slice sl_str (pv 1) (po_some (pv 7)) po_none)) pa_nil)))) (pe_cal C_l_take hr (by rfl) (pa_cons (pv 0) (pa_cons (pe_int) pa_nil))) (fun _ _ => rfl))))))))))), ?_⟩
    obtain ⟨hh, hz, q⟩ := hq
    have hW : tot (Txt.split z (Str.ofString "\n")) = z.length + 1 := split_tot sep_feed
    have hN : Txt.split z (Str.ofString "\n") ≠ [] := split_ne sep_feed.ne sep_feed.small
    refine ⟨_, rfl, ⟨_, rfl⟩, z, _, rfl, rfl, by decide +kernel, big6 (by omega), fun c nc => ?_⟩
    generalize Txt.split z (Str.ofString "\n") = W at hW hN ⊢
    have hWl := len_tot W
    have hW1 : 1 ≤ W.length := by
      have := List.length_pos_iff.mpr hN
      omega
    obtain ⟨cnh, cnd⟩ := hh.ne nc
    have s1 := same_upd (o := .lst (W.map V.str)) nc
    have ec1 : (upd H c (.lst (W.map V.str))) c = some (.lst (W.map V.str)) := upd_same
    have h1 := hh.same s1
    show tSeq _ _ _ _ (upd H c (.lst (W.map V.str)))
    generalize upd H c (.lst (W.map V.str)) = H1 at s1 ec1 h1 ⊢
    refine ⟨_, rfl, h, dr, 9, rfl, h1, by omega, fun H2 kd b2 h2 k0 k1 => ?_⟩
    have ec2 := b2 _ _ cnh ec1
    refine ⟨_, rfl, _, rfl, c, _, rfl, .inl (.inl (.inl ec2)), h, dr, _, rfl, h2, by rw [List.length_map]; omega, fun H3 t b3 h3 a0 a1 => ?_⟩
    rw [List.length_map] at a1
    have ec3 := b3 _ _ cnh ec2
    refine ⟨_, rfl, _, rfl, c, _, rfl, .inl (.inl (.inl ec3)), h, dr, _, rfl, h3, by rw [List.length_map]; omega, fun H4 u b4 h4 u0 u1 => ?_⟩
    rw [List.length_map] at u1
    have ec4 := b4 _ _ cnh ec3
    have b04 : But h H H4 := (((But.of_same s1).trans b2).trans b3).trans b4
    obtain ⟨v, hv, ev⟩ := pickS (l := W) a0 a1
    have hvl := mem_tot hv
    have nocase : ∀ {n : Int}, kd ≠ n → ¬ decide (V.int kd = V.int n) = true := fun hne => d_f fun z => hne (V.int.inj z)
    refine ⟨_, rfl, _, _, rfl, rfl, _, rfl, ?_⟩
    by_cases c3 : kd < 3
    · refine ite_t (d_t c3) ?_
      refine ⟨_, rfl, _, rfl, _, rfl, c, _, t, _, rfl, rfl, .inl (.inl ec4), ev, h, dr, v, rfl, h4, by omega, fun H5 w b5 h5 lw => ⟨_, rfl, _, rfl, c, _, t, t.toNat, rfl, rfl, b5 _ _ cnh ec4, ixN_in a0 (by rw [List.length_map]; exact a1), ?_⟩⟩
      have e6 : (upd H5 c (.lst ((W.map V.str).set t.toNat (.str w)))) c = some (.lst ((W.set t.toNat w).map V.str)) := by rw [upd_same, List.map_set]
      have ht := tot_set W t.toNat w
      refine ⟨_, rfl, _, _, rfl, rfl, _, rfl, ite_t (d_t (by omega)) ?_⟩
      refine ⟨⟨_, rfl⟩, _, rfl, _, c, _, rfl, rfl, .inl (.inl (.inl e6)), join_fits sep_feed.len (by omega), ?_⟩
      rw [TL.join_eq]
      have hj := join_le sep_feed.len (W.set t.toNat w)
      exact q _ _ ((b04.trans b5).mut nc) (h5.mut cnh cnd) (by omega)
    · refine ite_f (d_f c3) ?_
      refine ⟨_, rfl, rfl, _, rfl, ?_⟩
      by_cases c4 : kd = 3
      · refine ite_t (d_t (congrArg V.int c4)) ?_
        obtain ⟨A1, eA1, tA1⟩ := cut_str W none (some t)
        obtain ⟨A2, eA2, tA2⟩ := cut_str W (some (t + 1)) none
        have lA1 := len_tot A1
        have lA2 := len_tot A2
        refine ⟨_, rfl, _, rfl, t, rfl, c, _, rfl, .inl (.inl ec4), ?_⟩
        rw [eA1]
        intro p1 n1
        have s4 := same_upd (o := .lst (A1.map V.str)) n1
        refine ⟨_, rfl, _, rfl, _, _, rfl, rfl, t + 1, rfl, c, _, rfl, .inl (.inl (s4 _ _ ec4)), ?_⟩
        rw [eA2]
        intro p2 n2
        have s5 := same_upd (o := .lst (A2.map V.str)) n2
        refine ⟨p1, p2, A1.map V.str, A2.map V.str, rfl, rfl, s5 _ _ upd_same, upd_same, big6 (by rw [List.length_map, List.length_map]; omega), fun p3 n3 => ?_⟩
        have s6 := same_upd (o := .lst (A1.map V.str ++ A2.map V.str)) n3
        have e9 : (.lst (A1.map V.str ++ A2.map V.str) : HO) = .lst ((A1 ++ A2).map V.str) := by rw [List.map_append]
        have ht : tot (A1 ++ A2) ≤ 2 * tot W := by
          rw [tot_append]
          omega
        refine ⟨_, rfl, _, _, rfl, rfl, _, rfl, ite_t (d_t (by omega)) ?_⟩
        refine ⟨⟨_, rfl⟩, _, rfl, _, p3, _, rfl, rfl, .inl (.inl (.inl (upd_same.trans (congrArg some e9)))), join_fits sep_feed.len (by omega), ?_⟩
        rw [TL.join_eq]
        have hj := join_le sep_feed.len (A1 ++ A2)
        exact q _ _ (b04.trans (But.of_same (s4.trans (s5.trans s6)))) (h4.same (s4.trans (s5.trans s6))) (by omega)
      · refine ite_f (nocase c4) ⟨_, rfl, rfl, _, rfl, ?_⟩
        by_cases c5 : kd = 4
        · refine ite_t (d_t (congrArg V.int c5)) ?_
          obtain ⟨A1, eA1, tA1⟩ := cut_str W none (some u)
          obtain ⟨A2, eA2, tA2⟩ := cut_str W (some u) none
          have lA1 := len_tot A1
          have lA2 := len_tot A2
          refine ⟨_, rfl, _, rfl, u, rfl, c, _, rfl, .inl (.inl ec4), ?_⟩
          rw [eA1]
          intro p1 n1
          have s4 := same_upd (o := .lst (A1.map V.str)) n1
          refine ⟨_, rfl, _, rfl, c, _, t, _, rfl, rfl, .inl (.inl (s4 _ _ ec4)), ev, by show 1 ≤ sizeLine; decide, fun p2 n2 => ?_⟩
          have s5 := same_upd (o := .lst [.str v]) n2
          refine ⟨p1, p2, A1.map V.str, [.str v], rfl, rfl, s5 _ _ upd_same, upd_same, big6 (by rw [List.length_map]; show _ + 1 ≤ _; omega), fun p3 n3 => ?_⟩
          have s6 := same_upd (o := .lst (A1.map V.str ++ [.str v])) n3
          refine ⟨_, rfl, _, rfl, u, rfl, c, _, rfl, .inl (.inl (s6 _ _ (s5 _ _ (s4 _ _ ec4)))), ?_⟩
          rw [eA2]
          intro p4 n4
          have s7 := same_upd (o := .lst (A2.map V.str)) n4
          refine ⟨p3, p4, A1.map V.str ++ [.str v], A2.map V.str, rfl, rfl, s7 _ _ upd_same, upd_same, big6 (by rw [List.length_append, List.length_map, List.length_map]; show _ + 1 + _ ≤ _; omega), fun p5 n5 => ?_⟩
          have s8 := same_upd (o := .lst (A1.map V.str ++ [.str v] ++ A2.map V.str)) n5
          have e9 : (.lst (A1.map V.str ++ [.str v] ++ A2.map V.str) : HO) = .lst ((A1 ++ [v] ++ A2).map V.str) := by rw [List.map_append, List.map_append]; rfl
          have ht : tot (A1 ++ [v] ++ A2) ≤ 3 * tot W := by
            rw [tot_append, tot_append, tot_cons, tot_nil]
            omega
          refine ⟨_, rfl, _, _, rfl, rfl, _, rfl, ite_t (d_t (by omega)) ?_⟩
          refine ⟨⟨_, rfl⟩, _, rfl, _, p5, _, rfl, rfl, .inl (.inl (.inl (upd_same.trans (congrArg some e9)))), join_fits sep_feed.len (by omega), ?_⟩
          rw [TL.join_eq]
          have hj := join_le sep_feed.len (A1 ++ [v] ++ A2)
          exact q _ _ (b04.trans (But.of_same ((s4.trans s5).trans (s6.trans (s7.trans s8))))) (h4.same ((s4.trans s5).trans (s6.trans (s7.trans s8)))) (by omega)
        · refine ite_f (nocase c5) ⟨_, rfl, rfl, _, rfl, ?_⟩
          by_cases c6 : kd = 5
          · refine ite_t (d_t (congrArg V.int c6)) ?_
            obtain ⟨x, hx, ex⟩ := pickS (l := W) u0 u1
            have hxl := mem_tot hx
            refine ⟨_, rfl, _, rfl, c, _, t, _, rfl, rfl, .inl (.inl ec4), ev, ?_⟩
            refine ⟨_, rfl, _, rfl, c, _, u, _, rfl, rfl, .inl (.inl ec4), ex, _, rfl, _, rfl, c, _, t, t.toNat, rfl, rfl, ec4, ixN_in a0 (by rw [List.length_map]; exact a1), ?_⟩
            have e6 : (upd H4 c (.lst ((W.map V.str).set t.toNat (.str x)))) c = some (.lst ((W.set t.toNat x).map V.str)) := by rw [upd_same, List.map_set]
            have ht := tot_set W t.toNat x
            have h6 : HandAt (upd H4 c (.lst ((W.map V.str).set t.toNat (.str x)))) h dr := h4.mut cnh cnd
            have b06 : But h H (upd H4 c (.lst ((W.map V.str).set t.toNat (.str x)))) := b04.mut nc
            generalize upd H4 c (.lst ((W.map V.str).set t.toNat (.str x))) = H6 at e6 h6 b06 ⊢
            have lS : (W.set t.toNat x).length = W.length := List.length_set
            refine ⟨_, rfl, _, rfl, _, rfl, c, _, u, u.toNat, rfl, rfl, e6, ixN_in u0 (by rw [List.length_map, lS]; exact u1), ?_⟩
            have e7 : (upd H6 c (.lst (((W.set t.toNat x).map V.str).set u.toNat (.str v)))) c = some (.lst (((W.set t.toNat x).set u.toNat v).map V.str)) := by simp only [upd_same, List.map_set]
            have ht2 := tot_set (W.set t.toNat x) u.toNat v
            refine ⟨_, rfl, _, _, rfl, rfl, _, rfl, ite_t (d_t (by omega)) ?_⟩
            refine ⟨⟨_, rfl⟩, _, rfl, _, c, _, rfl, rfl, .inl (.inl (.inl e7)), join_fits sep_feed.len (by omega), ?_⟩
            rw [TL.join_eq]
            have hj := join_le sep_feed.len ((W.set t.toNat x).set u.toNat v)
            exact q _ _ (b06.mut nc) (h6.mut cnh cnd) (by omega)
          · refine ite_f (nocase c6) ⟨_, rfl, rfl, _, rfl, ?_⟩
            by_cases c7 : kd = 6
            · refine ite_t (d_t (congrArg V.int c7)) ?_
              obtain ⟨A1, eA1, tA1⟩ := cut_str W none (some t)
              refine ⟨_, rfl, _, rfl, t, rfl, c, _, rfl, .inl (.inl ec4), ?_⟩
              rw [eA1]
              intro p1 n1
              have s4 := same_upd (o := .lst (A1.map V.str)) n1
              refine ⟨_, rfl, _, _, rfl, rfl, _, rfl, ite_t (d_t (by omega)) ?_⟩
              refine ⟨⟨_, rfl⟩, _, rfl, _, p1, _, rfl, rfl, .inl (.inl (.inl upd_same)), join_fits sep_feed.len (by omega), ?_⟩
              rw [TL.join_eq]
              have hj := join_le sep_feed.len (A1)
              exact q _ _ (b04.trans (But.of_same s4)) (h4.same s4) (by omega)
            · refine ite_f (nocase c7) ?_
              refine ⟨_, rfl, _, _, rfl, rfl, _, rfl, ite_f (d_f (by omega)) ?_⟩
              refine ⟨_, rfl, _, rfl, z, rfl, big6 (by omega), _, _, rfl, rfl, h, dr, _, rfl, h4, by omega, fun H5 pl b5 h5 p0 p1 => ?_⟩
              refine ⟨_, rfl, h, dr, 20, rfl, h5, by omega, fun H6 sg b6 h6 g0 g1 => ?_⟩
              obtain ⟨cp, ecp⟩ := atI_some (xs := (Str.ofString "0123456789,- \nstpeiC").cps.toList) g0 (by rw [show (Str.ofString "0123456789,- \nstpeiC").cps.toList.length = 20 from by decide +kernel]; exact g1)
              refine ⟨_, sg, cp, rfl, rfl, by decide +kernel, ecp, ?_⟩
              have l1 := cutS_len z none (some pl)
              have l2 := cutS_len z (some (pl + 1)) none
              have l3 := cutS_len z (some pl) none
              have l4 : (⟨#[cp]⟩ : Str).length = 1 := rfl
              refine ⟨_, rfl, _, rfl, pl, rfl, z, rfl, big6 (by omega), ?_⟩
              refine ⟨_, rfl, _, rfl, pl, rfl, z, rfl, big6 (by omega), _, rfl, _, rfl, _, _, rfl, rfl, pl + 1, rfl, z, rfl, big6 (by omega), _, _, rfl, rfl, big6 (by omega), ?_⟩
              refine ⟨_, rfl, _, rfl, pl, rfl, z, rfl, big6 (by omega), _, rfl, _, _, rfl, rfl, big6 (by omega), _, rfl, _, rfl, pl, rfl, z, rfl, big6 (by omega), _, _, rfl, rfl, big6 (by rw [Str.length_append]; omega), by show 3 ≤ sizeLine; decide, fun p np => ?_⟩
              generalize cutS z none (some pl) = x1 at l1 np ⊢
              generalize cutS z (some (pl + 1)) none = x2 at l2 np ⊢
              generalize cutS z (some pl) none = x3 at l3 np ⊢
              generalize (⟨#[cp]⟩ : Str) = x4 at l4 np ⊢
              have s7 := same_upd (o := .lst ([x1, x1 ++ x2, x1 ++ x4 ++ x3].map V.str)) np
              refine ⟨_, rfl, h, dr, 3, rfl, h6.same s7, by omega, fun H8 ch b8 h8 d0 d1 => ?_⟩
              obtain ⟨r, hr, er⟩ := pickS (l := [x1, x1 ++ x2, x1 ++ x4 ++ x3]) d0 d1
              refine ⟨p, _, ch, _, rfl, rfl, .inl (.inl (b8 _ _ (h6.ne np).1 upd_same)), er, q _ r (((b04.trans b5).trans b6).trans ((But.of_same s7).trans b8)) h8 ?_⟩
              rcases List.mem_cons.mp hr with e | hr
              · rw [e]
                omega
              · rcases List.mem_cons.mp hr with e | hr
                · rw [e, Str.length_append]
                  omega
                · rw [List.mem_singleton.mp hr, Str.length_append, Str.length_append]
                  omega

end
end K6

namespace K6
open PySem PySem.Spec PyProof.Rows L2
open TL (tl len_tl ext_tl tl_append)
section
variable {P : Program} {w : World} {K : PySem.W.Frag} {mg : Str → Option Value} {base : Heap}
theorem ClT.but {H H' : Hp} {h p : Addr} {n : Nat} (c : ClT H p n) (b : But h H H') (e : ∃ v, H h = some (.lst v)) : ClT H' p n := by
  obtain ⟨r0, r1, r2, l0, l1, l2, ec, e0, e1, e2, x⟩ := c
  obtain ⟨v, eh⟩ := e
  exact ⟨r0, r1, r2, l0, l1, l2, b _ _ (tup_ne ec eh) ec, b _ _ (tup_ne e0 eh) e0, b _ _ (tup_ne e1 eh) e1, b _ _ (tup_ne e2 eh) e2, x⟩
theorem WiT.but {H H' : Hp} {h p : Addr} {n : Nat} (c : WiT H p n) (b : But h H H') (e : ∃ v, H h = some (.lst v)) : WiT H' p n := by
  obtain ⟨l, el, x⟩ := c
  obtain ⟨v, eh⟩ := e
  exact ⟨l, b _ _ (tup_ne el eh) el, x⟩
def lawTexts (z : Str) : List Str := [z, z ++ Str.ofString "\n", Str.ofString "\n" ++ z, Str.ofString " " ++ z, z ++ Str.ofString " ", Str.ofString "", z ++ Str.ofString "\n" ++ z, Str.ofString "cluster 1 0", Str.ofString "cluster 9 0"]
theorem lawTexts_len {z : Str} (hz : z.length ≤ 5000) : ∀ x ∈ lawTexts z, x.length ≤ 20000 := fun x hx => by
  have a1 : (Str.ofString "\n").length = 1 := by decide +kernel
  have a2 : (Str.ofString " ").length = 1 := by decide +kernel
  have a3 : (Str.ofString "").length = 0 := by decide +kernel
  have a4 : (Str.ofString "cluster 1 0").length = 11 := by decide +kernel
  have a5 : (Str.ofString "cluster 9 0").length = 11 := by decide +kernel
  simp only [lawTexts, List.mem_cons, List.not_mem_nil, or_false] at hx
  rcases hx with rfl | rfl | rfl | rfl | rfl | rfl | rfl | rfl | rfl <;> (try rw [Str.length_append]) <;> (try rw [Str.length_append]) <;> omega
def sp_law (K : PySem.W.Frag) : Sp := fun vs H Q _ => ∃ (a : Addr) (l : List Int), vs = [.ref a] ∧ SqL K H a (l.map V.int) ∧ l.length ≤ 63 ∧ ∀ H', Q (.bl true) H'
theorem ok_law {k : Nat} {f : Addr} {fd : FuncData} (B : Blt mg) (F : Fun K "law" "law" s_law f fd) (C_l_cluster : Callee P w K mg base CX0 k "_law_cluster" ["_law_hand", "_law_most"] sp_l_cluster) (C_l_take : Callee P w K mg base CX0 k "_law_take" ["_law_hand", "_law_many"] sp_l_take) (C_l_draws : Callee P w K mg base CX0 k "_law_draws" ["_law_script", "_law_many"] (sp_l_draws K)) (C_l_lines : Callee P w K mg base CX0 k "_law_lines" ["_law_cluster_here", "_law_wishes_here", "_law_placing_here"] (sp_l_lines K)) (C_l_bent : Callee P w K mg base CX0 k "_law_bent" ["_law_hand", "_law_text"] sp_l_bent) (C_l_wishes : Callee P w K mg base CX0 k "_law_wishes" ["_law_hand", "_law_pieces"] sp_l_wishes) (C_l_placing : Callee P w K mg base CX0 k "_law_placing" ["_law_hand", "_law_many", "_law_pieces"] sp_l_placing) (C_l_is_right : Callee P w K mg base CX0 k "_law_is_right" ["_law_text"] sp_l_is_right) : FnOk P w K mg base CX0 (k + 1) f fd ["_law_script"] (sp_law K) := by
  refine F.ok sc_law (fun vs H Q E h => ?_) (fun cdv A outer s H vs Q E hr h => ?_)
  · obtain ⟨a, l, rfl, _⟩ := h
    rfl
  · obtain ⟨a, l, rfl, hq⟩ := h
    -- slots 0 _law_script, 1 _law_hand, 2 _law_cluster_here, 3 _law_pieces, 4 _law_text, 5 _law_step, 6 _law_bent_here, 7 _law_one
    refine ⟨_, pss_cons (ps_set (i := 1) sc_law.nd rfl (.inl rfl) (pe_lst (pa_cons (pe_cal C_l_draws hr (by rfl) (pa_cons (pv 0) (pa_cons (pe_int) pa_nil))) (pa_cons (pe_int) pa_nil))))
      (pss_cons (ps_set (i := 2) sc_law.nd rfl (.inl rfl) (pe_cal C_l_cluster hr (by rfl) (pa_cons (pv 1) (pa_cons (pe_int) pa_nil))))
      (pss_cons (ps_set (i := 3) sc_law.nd rfl (.inl rfl) (pe_cal C_l_take hr (by rfl) (pa_cons (pv 1) (pa_cons (pe_int) pa_nil))))
      (pss_cons (ps_set (i := 4) sc_law.nd rfl (.inl rfl) (pe_join (pe_str) (pe_cal C_l_lines hr (by rfl) (pa_cons (pv 2) (pa_cons (pe_cal C_l_wishes hr (by rfl) (pa_cons (pv 1) (pa_cons (pv 3) pa_nil))) (pa_cons (pe_cal C_l_placing hr (by rfl) (pa_cons (pv 1) (pa_cons (pe_callB call_len_seq (by rfl) B.n_len boot_len (pa_cons (pe_ix ix_tup (pv 2) (pe_int) (fun _ _ => rfl)) pa_nil)) (pa_cons (pv 3) pa_nil)))) pa_nil))))))
      (pss_cons (ps_for PassesOwn.never rfl (pi_range1 (by rfl) B.n_range (pa_cons (pe_int) pa_nil)) (pg_name (i := 5) sc_law.nd rfl (.inl rfl))
        (pss_cons (ps_set (i := 6) sc_law.nd rfl (.inl rfl) (pe_cal C_l_bent hr (by rfl) (pa_cons (pv 1) (pa_cons (pv 4) pa_nil))))
        (pss_one (ps_if (PW.pt (pw_or (pt_not (pt_val (pe_cal C_l_is_right hr (by rfl) (pa_cons (pv 6) pa_nil)))) (pw_or1 (pt_not (pt_val (pe_cal C_l_is_right hr (by rfl) (pa_cons (pe_cal C_l_bent hr (by rfl) (pa_cons (pv 1) (pa_cons (pv 6) pa_nil))) pa_nil)))))))
          (pss_one (ps_ret (pe_bl)))
          pss_nil))))
      (pss_cons (ps_for PassesOwn.never rfl (pi_list (pe_lst (pa_cons (pv 4) (pa_cons (pe_op op_add_str (pv 4) (pe_str)) (pa_cons (pe_op op_add_str (pe_str) (pv 4)) (pa_cons (pe_op op_add_str (pe_str) (pv 4)) (pa_cons (pe_op op_add_str (pv 4) (pe_str)) (pa_cons (pe_str) (pa_cons (pe_op op_add_str (pe_op op_add_str (pv 4) (pe_str)) (pv 4)) (pa_cons (pe_str) (pa_cons (pe_str) pa_nil))))))))))) (pg_name (i := 7) sc_law.nd rfl (.inl rfl))
        (pss_one (ps_if (pt_not (pt_val (pe_cal C_l_is_right hr (by rfl) (pa_cons (pv 7) pa_nil))))
          (pss_one (ps_ret (pe_bl)))
          pss_nil)))
      (pss_one (ps_ret (pe_bl)))))))), ?_⟩
    obtain ⟨hS, hl, q⟩ := hq
    refine ⟨_, rfl, a, l, rfl, hS, by omega, fun H1 dr ds s1 ed => ⟨by show 2 ≤ sizeLine; decide, fun h nh => ?_⟩⟩
    have hh : HandAt (upd H1 h (.lst [.ref dr, .int 0])) h dr := ⟨Ne.symm (ne_of_none ed nh), ⟨0, upd_same⟩, ds, same_upd nh _ _ ed⟩
    show tSeq _ _ _ _ (upd H1 h (.lst [.ref dr, .int 0]))
    generalize upd H1 h (.lst [.ref dr, .int 0]) = H2 at hh ⊢
    refine ⟨_, rfl, h, dr, rfl, hh, fun H3 cp n b3 h3 n1 n5 hc3 => ?_⟩
    refine ⟨_, rfl, h, dr, 5, rfl, h3, by omega, fun H4 m b4 h4 m0 m5 => ?_⟩
    have hc4 := hc3.but b4 h3.lst
    refine ⟨⟨_, rfl⟩, _, rfl, _, rfl, _, rfl, h, dr, m, rfl, h4, by omega, by omega, fun H5 wp b5 h5 hw5 => ?_⟩
    have hc5 := hc4.but b5 h4.lst
    obtain ⟨r0, r1, r2, l0, l1, l2, ec, e0, e1, e2, z0, zz⟩ := hc5
    refine ⟨_, rfl, _, rfl, cp, _, 0, _, rfl, rfl, .inl (.inl ec), atI_nat (j := 0) rfl, r0, _, rfl, .inr (.inl (.inl e0)), _, rfl, h, dr, _, m, rfl, h5, by rw [List.length_map]; omega, by rw [List.length_map]; omega, by omega, by omega, fun H6 pp b6 h6 hp6 => ?_⟩
    have hc6 : ClT H6 cp n := ClT.but ⟨r0, r1, r2, l0, l1, l2, ec, e0, e1, e2, z0, zz⟩ b6 h5.lst
    have hw6 := hw5.but b6 h5.lst
    refine ⟨cp, wp, pp, n, m.toNat, rfl, hc6, n5, hw6, hp6, by omega, fun H7 p s7 hls => ?_⟩
    obtain ⟨ls, els, lls, bls⟩ := hls
    have ht := tot_small bls
    have ht2 : ls.length * (400 + 1) ≤ 10 * (400 + 1) := Nat.mul_le_mul_right _ (by omega)
    have hj := join_le sep_feed.len ls
    refine ⟨_, p, ls, rfl, rfl, .inl (.inl (.inl els)), join_fits sep_feed.len (by omega), ?_⟩
    rw [TL.join_eq]
    have hz : (Str.join (Str.ofString "\n") ls).length ≤ 5000 := by omega
    generalize Str.join (Str.ofString "\n") ls = z at hz ⊢
    have h7 := h6.same s7
    refine ⟨7, rfl, by decide, by decide, ?_⟩
    refine for_it walk_range (fun i σ H' => (∃ y5 y6, σ = [some (.ref a), some (.ref h), some (.ref cp), some (.int m), some (.str z), y5, y6, none]) ∧ HandAt H' h dr) ⟨⟨none, none, rfl⟩, h7⟩ (fun _ _ _ _ _ => trivial) (fun i x σ H8 H' hi pv yy => ?_) (fun σ H8 pv => ?_)
    · obtain ⟨⟨y5, y6, rfl⟩, h8⟩ := pv
      obtain ⟨rfl, rfl⟩ := yy
      refine ⟨_, rfl, _, rfl, h, dr, z, rfl, h8, by omega, fun H9 r b9 h9 lr => ?_⟩
      refine ⟨_, rfl, r, rfl, by omega, fun H10 s10 => ⟨_, rfl, ite_f (by decide) ?_⟩⟩
      refine ⟨_, rfl, _, rfl, h, dr, r, rfl, h9.same s10, by omega, fun H11 r2 b11 h11 lr2 => ⟨r2, rfl, by omega, fun H12 s12 => ⟨_, rfl, ite_f (by decide) ⟨⟨_, _, rfl⟩, h11.same s12⟩⟩⟩⟩
    · obtain ⟨⟨y5, y6, rfl⟩, h8⟩ := pv
      have n1l : (Str.ofString "\n").length = 1 := by decide +kernel
      have n1b : (Str.ofString " ").length = 1 := by decide +kernel
      refine ⟨_, rfl, _, rfl, _, _, rfl, rfl, big6 (by rw [n1l]; omega), _, rfl, _, _, rfl, rfl, big6 (by rw [n1l]; omega), _, rfl, _, _, rfl, rfl, big6 (by rw [n1b]; omega), _, rfl, _, _, rfl, rfl, big6 (by rw [n1b]; omega),
        _, rfl, _, _, rfl, rfl, big6 (by rw [n1l]; omega), _, rfl, _, _, rfl, rfl, big6 (by rw [Str.length_append, n1l]; omega), by show 9 ≤ sizeLine; decide, fun p np => ?_⟩
      have eL : (upd H8 p (.lst ((lawTexts z).map V.str))) p = some (.lst ((lawTexts z).map V.str)) := upd_same
      have hLl := lawTexts_len hz
      refine ⟨p, rfl, ⟨_, .inl (.inl eL)⟩, ?_⟩
      refine for_it (walk_list (K := K) (a := p) (xs := (lawTexts z).map V.str)) (fun i σ H' => (∃ y7, σ = [some (.ref a), some (.ref h), some (.ref cp), some (.int m), some (.str z), y5, y6, y7]) ∧ H' p = some (.lst ((lawTexts z).map V.str))) ⟨⟨none, rfl⟩, eL⟩ (fun i σ H' _ pv => .inl (.inl pv.2)) (fun i x σ H9 H' hi pv yy => ?_) (fun σ H9 pv => ?_)
      · obtain ⟨⟨y7, rfl⟩, e9⟩ := pv
        obtain ⟨rfl, hx⟩ := yy
        obtain ⟨r, hr, rfl⟩ := map_str_get hx
        exact ⟨_, rfl, r, rfl, by have := hLl r (List.mem_of_getElem? hr); omega, fun H10 s10 => ⟨_, rfl, ite_f (by decide) ⟨⟨_, rfl⟩, s10 _ _ e9⟩⟩⟩
      · obtain ⟨⟨y7, rfl⟩, e9⟩ := pv
        exact q _

end
end K6

namespace K6
open PySem PySem.Spec PyProof.Rows L2
open TL (tl len_tl ext_tl tl_append)
section
variable {P : Program} {w : World} {K : PySem.W.Frag} {mg : Str → Option Value} {base : Heap}
/-- every def of the text that the law reaches, where the top has put it -/
structure Tops (P : Program) (K : PySem.W.Frag) (mg : Str → Option Value) (cT fT cC fC : Addr) (fdC : FuncData) : Prop where
  B : Blt mg
  d_integer_told : DefAt K mg "integer_told" s_integer_told
  d_lot_told : DefAt K mg "lot_told" s_lot_told
  d_lot_text : DefAt K mg "lot_text" s_lot_text
  d_begins : DefAt K mg "begins" s_begins
  d_write_world : DefAt K mg "write_world" s_write_world
  d_read_world : DefAt K mg "read_world" s_read_world
  d_numbers : DefAt K mg "_numbers" s_numbers
  d_piece : DefAt K mg "_piece" s_piece
  d_is_from_to : DefAt K mg "is_from_to" s_is_from_to
  d_l_draws : DefAt K mg "_law_draws" s_l_draws
  d_l_take : DefAt K mg "_law_take" s_l_take
  d_l_like : DefAt K mg "_law_like" s_l_like
  d_l_cluster : DefAt K mg "_law_cluster" s_l_cluster
  d_l_lot : DefAt K mg "_law_lot" s_l_lot
  d_l_wishes : DefAt K mg "_law_wishes" s_l_wishes
  d_l_placing : DefAt K mg "_law_placing" s_l_placing
  d_l_lines : DefAt K mg "_law_lines" s_l_lines
  d_l_world_is : DefAt K mg "_law_world_is" s_l_world_is
  d_l_figures : DefAt K mg "_law_figures" s_l_figures
  d_l_numbers : DefAt K mg "_law_numbers" s_l_numbers
  d_l_read_lot : DefAt K mg "_law_read_lot" s_l_read_lot
  d_l_read_line : DefAt K mg "_law_read_line" s_l_read_line
  d_l_read : DefAt K mg "_law_read" s_l_read
  d_l_word : DefAt K mg "_law_word" s_l_word
  d_l_bent_line : DefAt K mg "_law_bent_line" s_l_bent_line
  d_l_bent : DefAt K mg "_law_bent" s_l_bent
  d_l_is_right : DefAt K mg "_law_is_right" s_l_is_right
  TT : K6X.TxtT P K mg cT fT
  TC : ClsTxt K mg cC fC
  FC : Fun K "__init__" "Cluster.__init__" s_Cluster___init fC fdC
theorem Tops.bC {cT fT cC fC : Addr} {fdC : FuncData} (T : Tops P K mg cT fT cC fC fdC) : Binds K fdC ["self", "racks", "rooms", "rates"] [] := T.FC.binds (fun _ _ _ _ _ _ us hl => match us, hl with | [_, _, _, _], _ => rfl)
theorem tops_law {cT fT cC fC f : Addr} {fdC fd : FuncData} (T : Tops P K mg cT fT cC fC fdC) (F : Fun K "law" "law" s_law f fd) : FnOk P w K mg base CX0 7 f fd ["_law_script"] (sp_law K) := by
  have B := T.B
  have x_integer : Callee P w K mg base CX0 1 "integer_told" ["word"] sp_integer_told := c_integer_told B T.d_integer_told
  have x_lot_told : Callee P w K mg base CX0 2 "lot_told" ["word", "store_count"] sp_lot_told := c_lot_told B T.d_lot_told x_integer
  have x_lot_text : Callee P w K mg base CX0 1 "lot_text" ["lot"] (sp_lot_text K) := c_lot_text B T.d_lot_text
  have x_begins : Callee P w K mg base CX0 3 "begins" ["lines"] (sp_begins K) := c_begins B T.d_begins
  have x_numbers : Callee P w K mg base CX0 2 "_numbers" ["line", "first", "bounds"] (sp_numbers K) := c_numbers B T.d_numbers x_integer
  have x_piece : Callee P w K mg base CX0 3 "_piece" ["line", "store_count"] sp_piece := c_piece B T.d_piece (x_integer.mono (by decide)) x_lot_told
  have x_from_to : Callee P w K mg base CX0 1 "is_from_to" ["value", "least", "most"] sp_is_from_to := c_is_from_to B T.d_is_from_to
  have x_init : FnOk P w K mg base CX0 2 fC fdC ["self", "racks", "rooms", "rates"] (sp_Cluster___init cC) := ok_Cluster_init B T.TC T.FC x_from_to
  have x_read : Callee P w K mg base (L2N.CX P w) 4 "read_world" ["text"] (sp_read_world cT cC) := c_read_world B T.d_read_world T.TT T.TC x_init T.bC (by decide) x_begins (x_numbers.mono (by decide)) x_piece
  have x_write : Callee P w K mg base CX0 2 "write_world" ["cluster", "wishes", "placing"] (sp_write_world K cC) := c_write_world B T.d_write_world T.TC x_lot_text
  have y_figures : Callee P w K mg base CX0 1 "_law_figures" ["_law_word_here", "_law_least", "_law_most"] sp_l_figures := c_l_figures B T.d_l_figures
  have y_numbers : Callee P w K mg base CX0 2 "_law_numbers" ["_law_words", "_law_bounds"] (sp_l_numbers K) := c_l_numbers B T.d_l_numbers y_figures
  have y_lot : Callee P w K mg base CX0 2 "_law_read_lot" ["_law_word_here", "_law_many"] sp_l_read_lot := c_l_read_lot B T.d_l_read_lot y_figures
  have y_line : Callee P w K mg base CX0 3 "_law_read_line" ["_law_words", "_law_head", "_law_stores", "_law_pieces"] (sp_l_read_line K) := c_l_read_line B T.d_l_read_line (y_figures.mono (by decide)) y_lot y_numbers
  have y_read : Callee P w K mg base CX0 4 "_law_read" ["_law_text"] sp_l_read := c_l_read B T.d_l_read (y_numbers.mono (by decide)) y_line
  have y_like : Callee P w K mg base CX0 4 "_law_like" ["_law_found", "_law_due"] (sp_l_like 4) := c_l_like (k := 0) B T.d_l_like 4
  have z_like : CalleeH P w K mg base 5 "_law_like" ["_law_found", "_law_due"] (sp_l_like 2) := h_l_like (k := 3) B T.d_l_like 2
  have y_world : Callee P w K mg base CX0 5 "_law_world_is" ["_law_found", "_law_cluster_here", "_law_wishes_here", "_law_placing_here"] (sp_l_world_is K cC) := c_l_world_is B T.d_l_world_is T.TC y_like
  have y_right : Callee P w K mg base CX0 6 "_law_is_right" ["_law_text"] sp_l_is_right := c_l_is_right B T.d_l_is_right T.TT T.TC (y_read.mono (by decide)) (x_read.mono (by decide)) z_like y_world (x_write.mono (by decide))
  have y_take : Callee P w K mg base CX0 1 "_law_take" ["_law_hand", "_law_many"] sp_l_take := c_l_take B T.d_l_take
  have y_cluster : Callee P w K mg base CX0 2 "_law_cluster" ["_law_hand", "_law_most"] sp_l_cluster := c_l_cluster B T.d_l_cluster y_take
  have y_lot1 : Callee P w K mg base CX0 2 "_law_lot" ["_law_hand", "_law_many"] sp_l_lot := c_l_lot B T.d_l_lot y_take
  have y_wishes : Callee P w K mg base CX0 2 "_law_wishes" ["_law_hand", "_law_pieces"] sp_l_wishes := c_l_wishes B T.d_l_wishes y_take
  have y_placing : Callee P w K mg base CX0 3 "_law_placing" ["_law_hand", "_law_many", "_law_pieces"] sp_l_placing := c_l_placing B T.d_l_placing y_lot1
  have y_draws : Callee P w K mg base CX0 6 "_law_draws" ["_law_script", "_law_many"] (sp_l_draws K) := c_l_draws B T.d_l_draws
  have y_lines : Callee P w K mg base CX0 6 "_law_lines" ["_law_cluster_here", "_law_wishes_here", "_law_placing_here"] (sp_l_lines K) := c_l_lines B T.d_l_lines
  have y_word : Callee P w K mg base CX0 2 "_law_word" ["_law_hand"] sp_l_word := c_l_word B T.d_l_word y_take
  have y_bline : Callee P w K mg base CX0 3 "_law_bent_line" ["_law_hand", "_law_line"] sp_l_bent_line := c_l_bent_line B T.d_l_bent_line (y_take.mono (by decide)) y_word
  have y_bent : Callee P w K mg base CX0 4 "_law_bent" ["_law_hand", "_law_text"] sp_l_bent := c_l_bent B T.d_l_bent (y_take.mono (by decide)) y_bline
  exact ok_law B F (y_cluster.mono (by decide)) (y_take.mono (by decide)) y_draws y_lines (y_bent.mono (by decide)) (y_wishes.mono (by decide)) (y_placing.mono (by decide)) y_right
/-- an error of the class at S is what «except S» names -/
theorem names_self {K : PySem.W.Frag} {S : Addr} (h1 : PySem.W.subIn K (.ref S) (.type "BaseException") = some true) (h2 : PySem.W.isClsIn K S = true) (h3 : PySem.W.typeIn K (.ref S) = some (.type "type")) (h4 : PySem.W.subIn K (.ref S) (.ref S) = some true) :
    PySem.W.exmOne K (.ref S) (.ref S) = some true := by
  have e1 : (PySem.W.subIn K (.ref S) (.type "BaseException") == some true) = true := by
    rw [h1]
    rfl
  have e2 : ((PySem.W.clsIn K S).isSome && PySem.W.typeIn K (.ref S) == some (.type "type")) = true := by
    have h5 : (PySem.W.clsIn K S).isSome = true := h2
    rw [h5, h3]
    rfl
  unfold PySem.W.exmOne
  rw [if_pos e1]
  show (if ((PySem.W.clsIn K S).isSome && PySem.W.typeIn K (.ref S) == some (.type "type")) = true then PySem.W.subIn K (.ref S) (.ref S) else none) = some true
  rw [if_pos e2]
  exact h4
theorem kit_self {K : PySem.W.Frag} {S : Addr} : PySem.W.kitOne K (.ref S) (.ref S) = some true := by
  unfold PySem.W.kitOne
  rw [if_pos (by simp)]
theorem def_at {h : Heap} (X : K.In h) (G : h.Ns mainGlobals mg) {x : Str} {st : Stmt} {f : Addr} {oc : Value} {od an : Option Addr} {osl : Array (Option Value)} {kV doc pm cdv ct : Value} (a : PySem.W.nsIn K mainGlobals x = some (some (.ref f)))
    (l : K.lookup f = some ⟨oc, od, .func (PySem.W.fnOf x x (defArgs st) (defBody st) (defScope st) .none kV doc pm an cdv ct), osl⟩) (c : PySem.W.codeIn K cdv x = true) (k : PySem.W.keepIn K (.ref f) = true) : DefAt K mg x st := ⟨f, _, fun_mk l c k, PySem.W.mg_of X G a⟩
/-- what the top has written -/
theorem all_mk {l : PySem.W.OpenLaw} {w : World} {K : PySem.W.Frag} {h : Heap} {mg : Str → Option Value} {fa cC fC cT fT f0 f1 f2 f3 f4 f5 f6 f7 f8 f9 f10 f11 f12 f13 f14 f15 f16 f17 f18 f19 f20 f21 f22 f23 f24 f25 f26 f27 : Addr} (X : K.In h) (G : h.Ns mainGlobals mg) (hfa : mg "law" = some (.ref fa))
    {od0 an0 od1 an1 od2 an2 od3 an3 od4 an4 od5 an5 od6 an6 od7 an7 od8 an8 od9 an9 od10 an10 od11 an11 od12 an12 od13 an13 od14 an14 od15 an15 od16 an16 od17 an17 od18 an18 od19 an19 od20 an20 od21 an21 od22 an22 od23 an23 od24 an24 od25 an25 od26 an26 od27 an27 od an odT anT dd cdd kcd : Option Addr} {sl0 sl1 sl2 sl3 sl4 sl5 sl6 sl7 sl8 sl9 sl10 sl11 sl12 sl13 sl14 sl15 sl16 sl17 sl18 sl19 sl20 sl21 sl22 sl23 sl24 sl25 sl26 sl27 sl slT ccs kcs : Array (Option Value)} {oc0 kV0 dc0 pm0 cd0 ct0 oc1 kV1 dc1 pm1 cd1 ct1 oc2 kV2 dc2 pm2 cd2 ct2 oc3 kV3 dc3 pm3 cd3 ct3 oc4 kV4 dc4 pm4 cd4 ct4 oc5 kV5 dc5 pm5 cd5 ct5 oc6 kV6 dc6 pm6 cd6 ct6 oc7 kV7 dc7 pm7 cd7 ct7 oc8 kV8 dc8 pm8 cd8 ct8 oc9 kV9 dc9 pm9 cd9 ct9 oc10 kV10 dc10 pm10 cd10 ct10 oc11 kV11 dc11 pm11 cd11 ct11 oc12 kV12 dc12 pm12 cd12 ct12 oc13 kV13 dc13 pm13 cd13 ct13 oc14 kV14 dc14 pm14 cd14 ct14 oc15 kV15 dc15 pm15 cd15 ct15 oc16 kV16 dc16 pm16 cd16 ct16 oc17 kV17 dc17 pm17 cd17 ct17 oc18 kV18 dc18 pm18 cd18 ct18 oc19 kV19 dc19 pm19 cd19 ct19 oc20 kV20 dc20 pm20 cd20 ct20 oc21 kV21 dc21 pm21 cd21 ct21 oc22 kV22 dc22 pm22 cd22 ct22 oc23 kV23 dc23 pm23 cd23 ct23 oc24 kV24 dc24 pm24 cd24 ct24 oc25 kV25 dc25 pm25 cd25 ct25 oc26 kV26 dc26 pm26 cd26 ct26 oc27 kV27 dc27 pm27 cd27 ct27 oc kV dc pm cd ct ocT kVT dcT pmT ctT ccl kcl : Value} {t_MOST_STORES t_MOST_NUMBER t_MOST_RATE t_MOST_FIGURES t_MOST_WISH t_MOST_PIECES tf : Tok} {cdT ccT cB : Addr} {cvs : Array Value} {file : Str}
    {nm q : Str} {N : Addr} {bs : List Value} {sn : List Str} {sub : List Value} {ab : Bool} {col : Option Bool} {m0 m1 m2 m3 m5 : Option Value}
    (a0 : PySem.W.nsIn K mainGlobals "integer_told" = some (some (.ref f0))) (l0 : K.lookup f0 = some ⟨oc0, od0, .func (PySem.W.fnOf "integer_told" "integer_told" (defArgs s_integer_told) (defBody s_integer_told) (defScope s_integer_told) .none kV0 dc0 pm0 an0 cd0 ct0), sl0⟩) (c0 : PySem.W.codeIn K cd0 "integer_told" = true) (k0 : PySem.W.keepIn K (.ref f0) = true)
    (a1 : PySem.W.nsIn K mainGlobals "lot_told" = some (some (.ref f1))) (l1 : K.lookup f1 = some ⟨oc1, od1, .func (PySem.W.fnOf "lot_told" "lot_told" (defArgs s_lot_told) (defBody s_lot_told) (defScope s_lot_told) .none kV1 dc1 pm1 an1 cd1 ct1), sl1⟩) (c1 : PySem.W.codeIn K cd1 "lot_told" = true) (k1 : PySem.W.keepIn K (.ref f1) = true)
    (a2 : PySem.W.nsIn K mainGlobals "lot_text" = some (some (.ref f2))) (l2 : K.lookup f2 = some ⟨oc2, od2, .func (PySem.W.fnOf "lot_text" "lot_text" (defArgs s_lot_text) (defBody s_lot_text) (defScope s_lot_text) .none kV2 dc2 pm2 an2 cd2 ct2), sl2⟩) (c2 : PySem.W.codeIn K cd2 "lot_text" = true) (k2 : PySem.W.keepIn K (.ref f2) = true)
    (a3 : PySem.W.nsIn K mainGlobals "begins" = some (some (.ref f3))) (l3 : K.lookup f3 = some ⟨oc3, od3, .func (PySem.W.fnOf "begins" "begins" (defArgs s_begins) (defBody s_begins) (defScope s_begins) .none kV3 dc3 pm3 an3 cd3 ct3), sl3⟩) (c3 : PySem.W.codeIn K cd3 "begins" = true) (k3 : PySem.W.keepIn K (.ref f3) = true)
    (a4 : PySem.W.nsIn K mainGlobals "write_world" = some (some (.ref f4))) (l4 : K.lookup f4 = some ⟨oc4, od4, .func (PySem.W.fnOf "write_world" "write_world" (defArgs s_write_world) (defBody s_write_world) (defScope s_write_world) .none kV4 dc4 pm4 an4 cd4 ct4), sl4⟩) (c4 : PySem.W.codeIn K cd4 "write_world" = true) (k4 : PySem.W.keepIn K (.ref f4) = true)
    (a5 : PySem.W.nsIn K mainGlobals "read_world" = some (some (.ref f5))) (l5 : K.lookup f5 = some ⟨oc5, od5, .func (PySem.W.fnOf "read_world" "read_world" (defArgs s_read_world) (defBody s_read_world) (defScope s_read_world) .none kV5 dc5 pm5 an5 cd5 ct5), sl5⟩) (c5 : PySem.W.codeIn K cd5 "read_world" = true) (k5 : PySem.W.keepIn K (.ref f5) = true)
    (a6 : PySem.W.nsIn K mainGlobals "_numbers" = some (some (.ref f6))) (l6 : K.lookup f6 = some ⟨oc6, od6, .func (PySem.W.fnOf "_numbers" "_numbers" (defArgs s_numbers) (defBody s_numbers) (defScope s_numbers) .none kV6 dc6 pm6 an6 cd6 ct6), sl6⟩) (c6 : PySem.W.codeIn K cd6 "_numbers" = true) (k6 : PySem.W.keepIn K (.ref f6) = true)
    (a7 : PySem.W.nsIn K mainGlobals "_piece" = some (some (.ref f7))) (l7 : K.lookup f7 = some ⟨oc7, od7, .func (PySem.W.fnOf "_piece" "_piece" (defArgs s_piece) (defBody s_piece) (defScope s_piece) .none kV7 dc7 pm7 an7 cd7 ct7), sl7⟩) (c7 : PySem.W.codeIn K cd7 "_piece" = true) (k7 : PySem.W.keepIn K (.ref f7) = true)
    (a8 : PySem.W.nsIn K mainGlobals "is_from_to" = some (some (.ref f8))) (l8 : K.lookup f8 = some ⟨oc8, od8, .func (PySem.W.fnOf "is_from_to" "is_from_to" (defArgs s_is_from_to) (defBody s_is_from_to) (defScope s_is_from_to) .none kV8 dc8 pm8 an8 cd8 ct8), sl8⟩) (c8 : PySem.W.codeIn K cd8 "is_from_to" = true) (k8 : PySem.W.keepIn K (.ref f8) = true)
    (a9 : PySem.W.nsIn K mainGlobals "_law_draws" = some (some (.ref f9))) (l9 : K.lookup f9 = some ⟨oc9, od9, .func (PySem.W.fnOf "_law_draws" "_law_draws" (defArgs s_l_draws) (defBody s_l_draws) (defScope s_l_draws) .none kV9 dc9 pm9 an9 cd9 ct9), sl9⟩) (c9 : PySem.W.codeIn K cd9 "_law_draws" = true) (k9 : PySem.W.keepIn K (.ref f9) = true)
    (a10 : PySem.W.nsIn K mainGlobals "_law_take" = some (some (.ref f10))) (l10 : K.lookup f10 = some ⟨oc10, od10, .func (PySem.W.fnOf "_law_take" "_law_take" (defArgs s_l_take) (defBody s_l_take) (defScope s_l_take) .none kV10 dc10 pm10 an10 cd10 ct10), sl10⟩) (c10 : PySem.W.codeIn K cd10 "_law_take" = true) (k10 : PySem.W.keepIn K (.ref f10) = true)
    (a11 : PySem.W.nsIn K mainGlobals "_law_like" = some (some (.ref f11))) (l11 : K.lookup f11 = some ⟨oc11, od11, .func (PySem.W.fnOf "_law_like" "_law_like" (defArgs s_l_like) (defBody s_l_like) (defScope s_l_like) .none kV11 dc11 pm11 an11 cd11 ct11), sl11⟩) (c11 : PySem.W.codeIn K cd11 "_law_like" = true) (k11 : PySem.W.keepIn K (.ref f11) = true)
    (a12 : PySem.W.nsIn K mainGlobals "_law_cluster" = some (some (.ref f12))) (l12 : K.lookup f12 = some ⟨oc12, od12, .func (PySem.W.fnOf "_law_cluster" "_law_cluster" (defArgs s_l_cluster) (defBody s_l_cluster) (defScope s_l_cluster) .none kV12 dc12 pm12 an12 cd12 ct12), sl12⟩) (c12 : PySem.W.codeIn K cd12 "_law_cluster" = true) (k12 : PySem.W.keepIn K (.ref f12) = true)
    (a13 : PySem.W.nsIn K mainGlobals "_law_lot" = some (some (.ref f13))) (l13 : K.lookup f13 = some ⟨oc13, od13, .func (PySem.W.fnOf "_law_lot" "_law_lot" (defArgs s_l_lot) (defBody s_l_lot) (defScope s_l_lot) .none kV13 dc13 pm13 an13 cd13 ct13), sl13⟩) (c13 : PySem.W.codeIn K cd13 "_law_lot" = true) (k13 : PySem.W.keepIn K (.ref f13) = true)
    (a14 : PySem.W.nsIn K mainGlobals "_law_wishes" = some (some (.ref f14))) (l14 : K.lookup f14 = some ⟨oc14, od14, .func (PySem.W.fnOf "_law_wishes" "_law_wishes" (defArgs s_l_wishes) (defBody s_l_wishes) (defScope s_l_wishes) .none kV14 dc14 pm14 an14 cd14 ct14), sl14⟩) (c14 : PySem.W.codeIn K cd14 "_law_wishes" = true) (k14 : PySem.W.keepIn K (.ref f14) = true)
    (a15 : PySem.W.nsIn K mainGlobals "_law_placing" = some (some (.ref f15))) (l15 : K.lookup f15 = some ⟨oc15, od15, .func (PySem.W.fnOf "_law_placing" "_law_placing" (defArgs s_l_placing) (defBody s_l_placing) (defScope s_l_placing) .none kV15 dc15 pm15 an15 cd15 ct15), sl15⟩) (c15 : PySem.W.codeIn K cd15 "_law_placing" = true) (k15 : PySem.W.keepIn K (.ref f15) = true)
    (a16 : PySem.W.nsIn K mainGlobals "_law_lines" = some (some (.ref f16))) (l16 : K.lookup f16 = some ⟨oc16, od16, .func (PySem.W.fnOf "_law_lines" "_law_lines" (defArgs s_l_lines) (defBody s_l_lines) (defScope s_l_lines) .none kV16 dc16 pm16 an16 cd16 ct16), sl16⟩) (c16 : PySem.W.codeIn K cd16 "_law_lines" = true) (k16 : PySem.W.keepIn K (.ref f16) = true)
    (a17 : PySem.W.nsIn K mainGlobals "_law_world_is" = some (some (.ref f17))) (l17 : K.lookup f17 = some ⟨oc17, od17, .func (PySem.W.fnOf "_law_world_is" "_law_world_is" (defArgs s_l_world_is) (defBody s_l_world_is) (defScope s_l_world_is) .none kV17 dc17 pm17 an17 cd17 ct17), sl17⟩) (c17 : PySem.W.codeIn K cd17 "_law_world_is" = true) (k17 : PySem.W.keepIn K (.ref f17) = true)
    (a18 : PySem.W.nsIn K mainGlobals "_law_figures" = some (some (.ref f18))) (l18 : K.lookup f18 = some ⟨oc18, od18, .func (PySem.W.fnOf "_law_figures" "_law_figures" (defArgs s_l_figures) (defBody s_l_figures) (defScope s_l_figures) .none kV18 dc18 pm18 an18 cd18 ct18), sl18⟩) (c18 : PySem.W.codeIn K cd18 "_law_figures" = true) (k18 : PySem.W.keepIn K (.ref f18) = true)
    (a19 : PySem.W.nsIn K mainGlobals "_law_numbers" = some (some (.ref f19))) (l19 : K.lookup f19 = some ⟨oc19, od19, .func (PySem.W.fnOf "_law_numbers" "_law_numbers" (defArgs s_l_numbers) (defBody s_l_numbers) (defScope s_l_numbers) .none kV19 dc19 pm19 an19 cd19 ct19), sl19⟩) (c19 : PySem.W.codeIn K cd19 "_law_numbers" = true) (k19 : PySem.W.keepIn K (.ref f19) = true)
    (a20 : PySem.W.nsIn K mainGlobals "_law_read_lot" = some (some (.ref f20))) (l20 : K.lookup f20 = some ⟨oc20, od20, .func (PySem.W.fnOf "_law_read_lot" "_law_read_lot" (defArgs s_l_read_lot) (defBody s_l_read_lot) (defScope s_l_read_lot) .none kV20 dc20 pm20 an20 cd20 ct20), sl20⟩) (c20 : PySem.W.codeIn K cd20 "_law_read_lot" = true) (k20 : PySem.W.keepIn K (.ref f20) = true)
    (a21 : PySem.W.nsIn K mainGlobals "_law_read_line" = some (some (.ref f21))) (l21 : K.lookup f21 = some ⟨oc21, od21, .func (PySem.W.fnOf "_law_read_line" "_law_read_line" (defArgs s_l_read_line) (defBody s_l_read_line) (defScope s_l_read_line) .none kV21 dc21 pm21 an21 cd21 ct21), sl21⟩) (c21 : PySem.W.codeIn K cd21 "_law_read_line" = true) (k21 : PySem.W.keepIn K (.ref f21) = true)
    (a22 : PySem.W.nsIn K mainGlobals "_law_read" = some (some (.ref f22))) (l22 : K.lookup f22 = some ⟨oc22, od22, .func (PySem.W.fnOf "_law_read" "_law_read" (defArgs s_l_read) (defBody s_l_read) (defScope s_l_read) .none kV22 dc22 pm22 an22 cd22 ct22), sl22⟩) (c22 : PySem.W.codeIn K cd22 "_law_read" = true) (k22 : PySem.W.keepIn K (.ref f22) = true)
    (a23 : PySem.W.nsIn K mainGlobals "_law_word" = some (some (.ref f23))) (l23 : K.lookup f23 = some ⟨oc23, od23, .func (PySem.W.fnOf "_law_word" "_law_word" (defArgs s_l_word) (defBody s_l_word) (defScope s_l_word) .none kV23 dc23 pm23 an23 cd23 ct23), sl23⟩) (c23 : PySem.W.codeIn K cd23 "_law_word" = true) (k23 : PySem.W.keepIn K (.ref f23) = true)
    (a24 : PySem.W.nsIn K mainGlobals "_law_bent_line" = some (some (.ref f24))) (l24 : K.lookup f24 = some ⟨oc24, od24, .func (PySem.W.fnOf "_law_bent_line" "_law_bent_line" (defArgs s_l_bent_line) (defBody s_l_bent_line) (defScope s_l_bent_line) .none kV24 dc24 pm24 an24 cd24 ct24), sl24⟩) (c24 : PySem.W.codeIn K cd24 "_law_bent_line" = true) (k24 : PySem.W.keepIn K (.ref f24) = true)
    (a25 : PySem.W.nsIn K mainGlobals "_law_bent" = some (some (.ref f25))) (l25 : K.lookup f25 = some ⟨oc25, od25, .func (PySem.W.fnOf "_law_bent" "_law_bent" (defArgs s_l_bent) (defBody s_l_bent) (defScope s_l_bent) .none kV25 dc25 pm25 an25 cd25 ct25), sl25⟩) (c25 : PySem.W.codeIn K cd25 "_law_bent" = true) (k25 : PySem.W.keepIn K (.ref f25) = true)
    (a26 : PySem.W.nsIn K mainGlobals "_law_is_right" = some (some (.ref f26))) (l26 : K.lookup f26 = some ⟨oc26, od26, .func (PySem.W.fnOf "_law_is_right" "_law_is_right" (defArgs s_l_is_right) (defBody s_l_is_right) (defScope s_l_is_right) .none kV26 dc26 pm26 an26 cd26 ct26), sl26⟩) (c26 : PySem.W.codeIn K cd26 "_law_is_right" = true) (k26 : PySem.W.keepIn K (.ref f26) = true)
    (a27 : PySem.W.nsIn K mainGlobals "law" = some (some (.ref f27))) (l27 : K.lookup f27 = some ⟨oc27, od27, .func (PySem.W.fnOf "law" "law" (defArgs s_law) (defBody s_law) (defScope s_law) .none kV27 dc27 pm27 an27 cd27 ct27), sl27⟩) (c27 : PySem.W.codeIn K cd27 "law" = true) (k27 : PySem.W.keepIn K (.ref f27) = true)
    (z_len : PySem.W.nsIn K mainGlobals "len" = some none)
    (z_all : PySem.W.nsIn K mainGlobals "all" = some none)
    (z_int : PySem.W.nsIn K mainGlobals "int" = some none)
    (z_str : PySem.W.nsIn K mainGlobals "str" = some none)
    (z_abs : PySem.W.nsIn K mainGlobals "abs" = some none)
    (z_tuple : PySem.W.nsIn K mainGlobals "tuple" = some none)
    (z_isinstance : PySem.W.nsIn K mainGlobals "isinstance" = some none)
    (z_bool : PySem.W.nsIn K mainGlobals "bool" = some none)
    (z_list : PySem.W.nsIn K mainGlobals "list" = some none)
    (z_range : PySem.W.nsIn K mainGlobals "range" = some none)
    (z_enumerate : PySem.W.nsIn K mainGlobals "enumerate" = some none)
    (z_zip : PySem.W.nsIn K mainGlobals "zip" = some none)
    (z_super : PySem.W.nsIn K mainGlobals "super" = some none)
    (v_MOST_STORES : PySem.W.nsIn K mainGlobals "MOST_STORES" = some (some (.int 8 t_MOST_STORES)))
    (v_MOST_NUMBER : PySem.W.nsIn K mainGlobals "MOST_NUMBER" = some (some (.int 99 t_MOST_NUMBER)))
    (v_MOST_RATE : PySem.W.nsIn K mainGlobals "MOST_RATE" = some (some (.int 8 t_MOST_RATE)))
    (v_MOST_FIGURES : PySem.W.nsIn K mainGlobals "MOST_FIGURES" = some (some (.int 2 t_MOST_FIGURES)))
    (v_MOST_WISH : PySem.W.nsIn K mainGlobals "MOST_WISH" = some (some (.int 3 t_MOST_WISH)))
    (v_MOST_PIECES : PySem.W.nsIn K mainGlobals "MOST_PIECES" = some (some (.int 40 t_MOST_PIECES)))
    (gC : PySem.W.nsIn K mainGlobals "Cluster" = some (some (.ref cC)))
    (pg : PySem.W.plainGet K cC Str.empty = true)
    (hd : PySem.W.hasDictIn K cC = true)
    (po : PySem.W.plainOver K cC = true)
    (sa : PySem.W.findIn K (.ref cC) "__setattr__" = some (some (.builtin "object.__setattr__")))
    (n1 : PySem.W.findIn K (.ref cC) "racks" = some none)
    (n2 : PySem.W.findIn K (.ref cC) "rooms" = some none)
    (n3 : PySem.W.findIn K (.ref cC) "rates" = some none)
    (n4 : PySem.W.findIn K (.ref cC) "store_count" = some none)
    (mk : PySem.W.makesIn K cC = true)
    (iC : PySem.W.findIn K (.ref cC) "__init__" = some (some (.ref fC)))
    (fn : PySem.W.isFn K (.ref fC) = true)
    (kc : PySem.W.keepIn K (.ref cC) = true)
    (lC : K.lookup fC = some ⟨oc, od, .func (PySem.W.fnOf "__init__" "Cluster.__init__" (defArgs s_Cluster___init) (defBody s_Cluster___init) (defScope s_Cluster___init) .none kV dc pm an cd ct), sl⟩)
    (cC0 : PySem.W.codeIn K cd "Cluster.__init__" = true)
    (kC : PySem.W.keepIn K (.ref fC) = true)
    (ha : PySem.W.findIn K (.ref cC) "__class__" = some (some (.builtin "object.__class__")))
    (hn : PySem.W.specialIn K (.builtin "object.__class__") "__get__" = some (some (.builtin "getset_descriptor.__get__")))
    (htk : PySem.W.takesIn K (.builtin "object.__class__") = some true)
    (hm : PySem.W.mroIn K cC (.type "object") = some true)
    (gT : PySem.W.nsIn K mainGlobals "InvalidText" = some (some (.ref cT)))
    (xT : K.lookup cT = some (excClassObj nm q cT N bs [.ref cB, .type "ValueError", .type "Exception", .type "BaseException", .type "object"] true sn sub ab col dd m0 m1 m2 m3 m5 "ValueError.__new__"))
    (saT : PySem.W.findIn K (.ref cT) "__setattr__" = some (some (.builtin "object.__setattr__")))
    (eT : PySem.W.subIn K (.ref cT) (.type "BaseException") = some true)
    (tT : PySem.W.typeIn K (.ref cT) = some (.type "type"))
    (kT : PySem.W.keepIn K (.ref cT) = true)
    (gaT : PySem.W.findIn K (.ref cT) "__getattribute__" = some (some (.builtin "BaseException.__getattribute__")))
    (ggT : PySem.W.findIn K (.ref cT) "__getattr__" = some none)
    (ntT : PySem.W.findIn K (.ref cT) "text" = some none)
    (naT : PySem.W.findIn K (.ref cT) "at" = some none)
    (iT : PySem.W.findIn K (.ref cT) "__init__" = some (some (.ref fT)))
    (tfT : PySem.W.typeIn K (.ref fT) = some (.type "function"))
    (hdT : PySem.W.hasDictIn K cT = true)
    (icT : PySem.W.isClsIn K cT = true)
    (ssT : PySem.W.subIn K (.ref cT) (.ref cT) = some true)
    (vbT : PySem.W.subIn K (.ref cT) (.type "ValueError") = some true)
    (mrT : PySem.W.mroIn K cT (.ref cT) = some true)
    (hoT : PySem.W.nsIn K PySem.cStatics "thirdparty.any" = some none)
    (suT : PySem.W.ks_superIn K cT cT "__init__" = some (some (.builtin "ValueError.__init__")))
    (htT : (l.prog.main.scope.names.lookup ("super" : Str)).isSome = false)
    (lT : K.lookup fT = some ⟨ocT, odT, .func (PySem.W.ksFn "__init__" "InvalidText.__init__" (defArgs K6X.sT) (defBody K6X.sT) (defScope K6X.sT) .none kVT dcT pmT anT (.ref cdT) ctT ccT), slT⟩)
    (cT0 : PySem.W.codeIn K (.ref cdT) "InvalidText.__init__" = true)
    (ldT : K.lookup cdT = some ⟨ccl, cdd, .fields cvs, ccs⟩)
    (l2T : cvs[2]? = some (.str file tf))
    (fiT : ((l.prog.main.file : Str) == file) = true)
    (lcT : K.lookup ccT = some ⟨kcl, kcd, .cell (some (.ref cT)), kcs⟩) :
    ∃ fd : FuncData, (∀ (s : Shared) (v : Value), BindsTo s fd ⟨[v], []⟩ [("_law_script", v)]) ∧ ∀ base : Heap, K.In base → base.Ns mainGlobals mg → FnOk l.prog w K mg base CX0 7 fa fd ["_law_script"] (sp_law K) := by
  have e := hfa.symm.trans (PySem.W.mg_of X G a27)
  cases e
  have B : Blt mg := { n_len := PySem.W.mg_none_of X G z_len, n_all := PySem.W.mg_none_of X G z_all, n_int := PySem.W.mg_none_of X G z_int, n_str := PySem.W.mg_none_of X G z_str, n_abs := PySem.W.mg_none_of X G z_abs, n_tuple := PySem.W.mg_none_of X G z_tuple, n_isinstance := PySem.W.mg_none_of X G z_isinstance, n_bool := PySem.W.mg_none_of X G z_bool, n_list := PySem.W.mg_none_of X G z_list, n_range := PySem.W.mg_none_of X G z_range, n_enumerate := PySem.W.mg_none_of X G z_enumerate, n_zip := PySem.W.mg_none_of X G z_zip, n_super := PySem.W.mg_none_of X G z_super, c_MOST_STORES := ⟨_, PySem.W.mg_of X G v_MOST_STORES⟩, c_MOST_NUMBER := ⟨_, PySem.W.mg_of X G v_MOST_NUMBER⟩, c_MOST_RATE := ⟨_, PySem.W.mg_of X G v_MOST_RATE⟩, c_MOST_FIGURES := ⟨_, PySem.W.mg_of X G v_MOST_FIGURES⟩, c_MOST_WISH := ⟨_, PySem.W.mg_of X G v_MOST_WISH⟩, c_MOST_PIECES := ⟨_, PySem.W.mg_of X G v_MOST_PIECES⟩ }
  have TC : ClsTxt K mg cC fC := { g := PySem.W.mg_of X G gC, cl := ⟨pg, hd, po, sa⟩, nRacks := n1, nRooms := n2, nRates := n3, nCount := n4, mak := ⟨mk, iC, fn, kc⟩, ha := ha, hn := hn, htk := htk, hm := hm, kit := kit_self }
  have TT : K6X.TxtT l.prog K mg cT fT := { gC := PySem.W.mg_of X G gT, ox := ⟨⟨_, _, _, _, _, _, _, _, _, _, _, _, _, _, _, xT, by rfl⟩, saT, eT, tT, kT⟩, ga := gaT, gg := ggT, nT := ntT, nA := naT, iC := iT, tI := tfT, hdC := hdT, te := names_self eT icT tT ssT, sup := suT, hB := vbT, hsub := mrT, ho := hoT, sg := PySem.W.mg_none_of X G z_super, htop := htT, fn := ⟨_, _, _, _, _, _, _, _, _, _, lT, cT0, ⟨_, _, _, _, _, _, ldT, l2T, fiT⟩, _, _, _, lcT⟩ }
  have T : Tops l.prog K mg cT fT cC fC _ := { B := B, TT := TT, TC := TC, FC := fun_mk (st := s_Cluster___init) lC cC0 kC, d_integer_told := def_at X G a0 l0 c0 k0, d_lot_told := def_at X G a1 l1 c1 k1, d_lot_text := def_at X G a2 l2 c2 k2, d_begins := def_at X G a3 l3 c3 k3, d_write_world := def_at X G a4 l4 c4 k4, d_read_world := def_at X G a5 l5 c5 k5, d_numbers := def_at X G a6 l6 c6 k6, d_piece := def_at X G a7 l7 c7 k7, d_is_from_to := def_at X G a8 l8 c8 k8, d_l_draws := def_at X G a9 l9 c9 k9, d_l_take := def_at X G a10 l10 c10 k10, d_l_like := def_at X G a11 l11 c11 k11, d_l_cluster := def_at X G a12 l12 c12 k12, d_l_lot := def_at X G a13 l13 c13 k13, d_l_wishes := def_at X G a14 l14 c14 k14, d_l_placing := def_at X G a15 l15 c15 k15, d_l_lines := def_at X G a16 l16 c16 k16, d_l_world_is := def_at X G a17 l17 c17 k17, d_l_figures := def_at X G a18 l18 c18 k18, d_l_numbers := def_at X G a19 l19 c19 k19, d_l_read_lot := def_at X G a20 l20 c20 k20, d_l_read_line := def_at X G a21 l21 c21 k21, d_l_read := def_at X G a22 l22 c22 k22, d_l_word := def_at X G a23 l23 c23 k23, d_l_bent_line := def_at X G a24 l24 c24 k24, d_l_bent := def_at X G a25 l25 c25 k25, d_l_is_right := def_at X G a26 l26 c26 k26 }
  refine ⟨PySem.W.fnOf "law" "law" (defArgs s_law) (defBody s_law) (defScope s_law) .none kV27 dc27 pm27 an27 cd27 ct27, fun s v => .of_eq rfl, fun base _ _ => ?_⟩
  exact tops_law T (fun_mk (st := s_law) l27 c27 k27)
end
end K6

open PySem PySem.W PyProof.Rows
set_option maxHeartbeats 0 in
theorem PySem.Challenge.cw_movedwhole_k06_the_line_where_a_text_is_holds : PySem.Challenge.rw_movedwhole_k06_the_line_where_a_text_is.Holds := by
  w_on; o_law; k_head; (case hw => w_witness2)
  k_fill
  refine L2.walk_of (l := PySem.Challenge.rw_movedwhole_k06_the_line_where_a_text_is) (n := 63) (k := 7) (x := "_law_script") (CX := fun _ => L2.CX0) (sp := fun w => K6.sp_law _) rfl (by decide) rfl ⟨rfl, by decide, by decide⟩ (fun w h Y => PySem.W.kIn_of Y) ?F (fun _ _ a ns hl _ hS => ⟨a, ns, rfl, hS, hl, fun _ => rfl⟩) (fun _ _ _ _ _ h => h)
  case F =>
    intro w mg fa h KX G hmg
    refine' K6.all_mk KX G hmg ?a0 ?l0 ?c0 ?k0 ?a1 ?l1 ?c1 ?k1 ?a2 ?l2 ?c2 ?k2 ?a3 ?l3 ?c3 ?k3 ?a4 ?l4 ?c4 ?k4 ?a5 ?l5 ?c5 ?k5 ?a6 ?l6 ?c6 ?k6 ?a7 ?l7 ?c7 ?k7 ?a8 ?l8 ?c8 ?k8 ?a9 ?l9 ?c9 ?k9 ?a10 ?l10 ?c10 ?k10 ?a11 ?l11 ?c11 ?k11 ?a12 ?l12 ?c12 ?k12 ?a13 ?l13 ?c13 ?k13 ?a14 ?l14 ?c14 ?k14 ?a15 ?l15 ?c15 ?k15 ?a16 ?l16 ?c16 ?k16 ?a17 ?l17 ?c17 ?k17 ?a18 ?l18 ?c18 ?k18 ?a19 ?l19 ?c19 ?k19 ?a20 ?l20 ?c20 ?k20 ?a21 ?l21 ?c21 ?k21 ?a22 ?l22 ?c22 ?k22 ?a23 ?l23 ?c23 ?k23 ?a24 ?l24 ?c24 ?k24 ?a25 ?l25 ?c25 ?k25 ?a26 ?l26 ?c26 ?k26 ?a27 ?l27 ?c27 ?k27 ?z_len ?z_all ?z_int ?z_str ?z_abs ?z_tuple ?z_isinstance ?z_bool ?z_list ?z_range ?z_enumerate ?z_zip ?z_super ?v_MOST_STORES ?v_MOST_NUMBER ?v_MOST_RATE ?v_MOST_FIGURES ?v_MOST_WISH ?v_MOST_PIECES ?gC ?pg ?hd ?po ?sa ?n1 ?n2 ?n3 ?n4 ?mk ?iC ?fn ?kc ?lC ?cC0 ?kC ?ha ?hn ?htk ?hm ?gT ?xT ?saT ?eT ?tT ?kT ?gaT ?ggT ?ntT ?naT ?iT ?tfT ?hdT ?icT ?ssT ?vbT ?mrT ?hoT ?suT ?htT ?lT ?cT0 ?ldT ?l2T ?fiT ?lcT
    (case a0 => k_is)
    (case l0 => k_is)
    (case c0 => k_is)
    (case k0 => k_is)
    (case a1 => k_is)
    (case l1 => k_is)
    (case c1 => k_is)
    (case k1 => k_is)
    (case a2 => k_is)
    (case l2 => k_is)
    (case c2 => k_is)
    (case k2 => k_is)
    (case a3 => k_is)
    (case l3 => k_is)
    (case c3 => k_is)
    (case k3 => k_is)
    (case a4 => k_is)
    (case l4 => k_is)
    (case c4 => k_is)
    (case k4 => k_is)
    (case a5 => k_is)
    (case l5 => k_is)
    (case c5 => k_is)
    (case k5 => k_is)
    (case a6 => k_is)
    (case l6 => k_is)
    (case c6 => k_is)
    (case k6 => k_is)
    (case a7 => k_is)
    (case l7 => k_is)
    (case c7 => k_is)
    (case k7 => k_is)
    (case a8 => k_is)
    (case l8 => k_is)
    (case c8 => k_is)
    (case k8 => k_is)
    (case a9 => k_is)
    (case l9 => k_is)
    (case c9 => k_is)
    (case k9 => k_is)
    (case a10 => k_is)
    (case l10 => k_is)
    (case c10 => k_is)
    (case k10 => k_is)
    (case a11 => k_is)
    (case l11 => k_is)
    (case c11 => k_is)
    (case k11 => k_is)
    (case a12 => k_is)
    (case l12 => k_is)
    (case c12 => k_is)
    (case k12 => k_is)
    (case a13 => k_is)
    (case l13 => k_is)
    (case c13 => k_is)
    (case k13 => k_is)
    (case a14 => k_is)
    (case l14 => k_is)
    (case c14 => k_is)
    (case k14 => k_is)
    (case a15 => k_is)
    (case l15 => k_is)
    (case c15 => k_is)
    (case k15 => k_is)
    (case a16 => k_is)
    (case l16 => k_is)
    (case c16 => k_is)
    (case k16 => k_is)
    (case a17 => k_is)
    (case l17 => k_is)
    (case c17 => k_is)
    (case k17 => k_is)
    (case a18 => k_is)
    (case l18 => k_is)
    (case c18 => k_is)
    (case k18 => k_is)
    (case a19 => k_is)
    (case l19 => k_is)
    (case c19 => k_is)
    (case k19 => k_is)
    (case a20 => k_is)
    (case l20 => k_is)
    (case c20 => k_is)
    (case k20 => k_is)
    (case a21 => k_is)
    (case l21 => k_is)
    (case c21 => k_is)
    (case k21 => k_is)
    (case a22 => k_is)
    (case l22 => k_is)
    (case c22 => k_is)
    (case k22 => k_is)
    (case a23 => k_is)
    (case l23 => k_is)
    (case c23 => k_is)
    (case k23 => k_is)
    (case a24 => k_is)
    (case l24 => k_is)
    (case c24 => k_is)
    (case k24 => k_is)
    (case a25 => k_is)
    (case l25 => k_is)
    (case c25 => k_is)
    (case k25 => k_is)
    (case a26 => k_is)
    (case l26 => k_is)
    (case c26 => k_is)
    (case k26 => k_is)
    (case a27 => k_is)
    (case l27 => k_is)
    (case c27 => k_is)
    (case k27 => k_is)
    (case z_len => k_is)
    (case z_all => k_is)
    (case z_int => k_is)
    (case z_str => k_is)
    (case z_abs => k_is)
    (case z_tuple => k_is)
    (case z_isinstance => k_is)
    (case z_bool => k_is)
    (case z_list => k_is)
    (case z_range => k_is)
    (case z_enumerate => k_is)
    (case z_zip => k_is)
    (case z_super => k_is)
    (case v_MOST_STORES => k_is)
    (case v_MOST_NUMBER => k_is)
    (case v_MOST_RATE => k_is)
    (case v_MOST_FIGURES => k_is)
    (case v_MOST_WISH => k_is)
    (case v_MOST_PIECES => k_is)
    (case gC => k_is)
    (case pg => k_is)
    (case hd => k_is)
    (case po => k_is)
    (case sa => k_is)
    (case n1 => k_is)
    (case n2 => k_is)
    (case n3 => k_is)
    (case n4 => k_is)
    (case mk => k_is)
    (case iC => k_is)
    (case fn => k_is)
    (case kc => k_is)
    (case lC => k_is)
    (case cC0 => k_is)
    (case kC => k_is)
    (case ha => k_is)
    (case hn => k_is)
    (case htk => k_is)
    (case hm => k_is)
    (case gT => k_is)
    (case xT => k_is)
    (case saT => k_is)
    (case eT => k_is)
    (case tT => k_is)
    (case kT => k_is)
    (case gaT => k_is)
    (case ggT => k_is)
    (case ntT => k_is)
    (case naT => k_is)
    (case iT => k_is)
    (case tfT => k_is)
    (case hdT => k_is)
    (case icT => k_is)
    (case ssT => k_is)
    (case vbT => k_is)
    (case mrT => k_is)
    (case hoT => k_is)
    (case suT => ks_is)
    (case htT => decide +kernel)
    (case lT => k_is)
    (case cT0 => k_is)
    (case ldT => k_is)
    (case l2T => rfl)
    (case fiT => decide +kernel)
    (case lcT => k_is)
