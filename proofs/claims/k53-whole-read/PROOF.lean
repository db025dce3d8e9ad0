import PyProof.Rows.All
import HandS.Text
import Wide.All
import OpenK.AllK
import Wide.FinOn
import PyProof.Rows.SetFrom
import HandS.Base
import HandS.Call
import HandS.List
import HandS.Set
import HandS.SetFor
import HandS.SetTxt0
import HandS.ForMost
import HandS.IsInst
import HandS.Zip
import HandS.FStr
import HandS.WideBits
import HandS.NoneIn
import HandS.Steps
import HandS.Evl
import PySem.Challenge.RW_figuretell_k53_whole_read
set_option Elab.async false
set_option linter.all false
set_option maxRecDepth 100000
set_option maxHeartbeats 4000000
/-! The mathematics: statements, their texts, what a reader sees at a place. No program here. -/
namespace K53
open PySem L2 TL

/-! ### signs -/
def sm (c : Nat) : Bool := decide (97 ≤ c) && decide (c ≤ 122)
def gr (c : Nat) : Bool := decide (65 ≤ c) && decide (c ≤ 90)
def dg (c : Nat) : Bool := decide (48 ≤ c) && decide (c ≤ 57)
theorem sm_iff {c : Nat} : sm c = true ↔ 97 ≤ c ∧ c ≤ 122 := by simp [sm]
theorem gr_iff {c : Nat} : gr c = true ↔ 65 ≤ c ∧ c ≤ 90 := by simp [gr]
theorem dg_iff {c : Nat} : dg c = true ↔ 48 ≤ c ∧ c ≤ 57 := by simp [dg]
theorem sm_not {c : Nat} (h : c < 97 ∨ 122 < c) : sm c = false := by
  cases q : sm c with
  | false => rfl
  | true => have := sm_iff.mp q; omega
theorem gr_not {c : Nat} (h : c < 65 ∨ 90 < c) : gr c = false := by
  cases q : gr c with
  | false => rfl
  | true => have := gr_iff.mp q; omega
theorem dg_not {c : Nat} (h : c < 48 ∨ 57 < c) : dg c = false := by
  cases q : dg c with
  | false => rfl
  | true => have := dg_iff.mp q; omega
/-- the first sign of a text, if any, is none of a kind -/
def Off (p : Nat → Bool) (r : List Nat) : Prop := ∀ c t, r = c :: t → p c = false
theorem Off.nil {p : Nat → Bool} : Off p [] := fun c t h => nomatch h
theorem Off.cons {p : Nat → Bool} {c : Nat} {t : List Nat} (h : p c = false) : Off p (c :: t) := fun d u e => by
  rw [← (List.cons.inj e).1]
  exact h
/-- a text behind which no name, no row, no number and no factor goes on -/
structure Brk (r : List Nat) : Prop where
  s : Off sm r
  g : Off gr r
  d : Off dg r
  x : ∀ t, r ≠ 42 :: t
theorem Brk.nil : Brk [] := ⟨.nil, .nil, .nil, fun _ h => nomatch h⟩
theorem Brk.of {c : Nat} {t : List Nat} (h : c = 32 ∨ c = 41 ∨ c = 93 ∨ c = 58 ∨ c = 91) : Brk (c :: t) := by
  refine ⟨.cons (sm_not (by omega)), .cons (gr_not (by omega)), .cons (dg_not (by omega)), fun u e => ?_⟩
  have := (List.cons.inj e).1
  omega

/-! ### the words, names, rows, numbers -/
def W5 : List (List Nat) := [[97, 110, 100], [111, 114], [110, 111, 116], [115, 111, 109, 101], [97, 108, 108]]
structure IsName (w : List Nat) : Prop where
  lo : 1 ≤ w.length
  hi : w.length ≤ 6
  sm : ∀ c ∈ w, sm c = true
  no : w ∉ W5
structure IsRow (w : List Nat) : Prop where
  lo : 1 ≤ w.length
  hi : w.length ≤ 6
  gr : ∀ c ∈ w, gr c = true
theorem IsName.ne {w : List Nat} (h : IsName w) : w ≠ [] := fun e => by
  have := h.lo
  rw [e] at this
  exact absurd this (by decide)
theorem IsRow.ne {w : List Nat} (h : IsRow w) : w ≠ [] := fun e => by
  have := h.lo
  rw [e] at this
  exact absurd this (by decide)
theorem num_dg (n : Nat) : ∀ c ∈ numL n, dg c = true := fun c h => dg_iff.mpr (numL_digits n c h)
theorem num_len6 {n : Nat} (h : n ≤ 999999) : (numL n).length ≤ 6 := numL_len (by decide) (by omega)
theorem num_len2 {n : Nat} (h : n ≤ 20) : (numL n).length ≤ 2 := numL_len (by decide) (by omega)
/-- no nought ahead -/
theorem num_head : ∀ (n : Nat), 1 ≤ n → ∃ c t, numL n = c :: t ∧ c ≠ 48 := by
  intro n
  induction n using Nat.strongRecOn with
  | _ n ih =>
    intro h1
    by_cases h : n < 10
    · rw [numL_lt h]
      exact ⟨_, _, rfl, by omega⟩
    · rw [numL_step (by omega)]
      obtain ⟨c, t, e, hc⟩ := ih (n / 10) (by omega) (by omega)
      rw [e]
      exact ⟨c, t ++ [48 + n % 10], rfl, hc⟩
theorem num_one {n : Nat} (h : 1 < (numL n).length) : ∃ c t, numL n = c :: t ∧ c ≠ 48 := by
  by_cases h0 : n = 0
  · rw [h0, numL_lt (by decide)] at h
    exact absurd h (by decide)
  · exact num_head n (by omega)

/-! ### parts, sums, statements -/
inductive Part where
  | num (n : Nat)
  | nam (f : Nat) (w : List Nat)
def Part.text : Part → List Nat
  | .num n => numL n
  | .nam f w => if f = 1 then w else numL f ++ 42 :: w
def Part.Ok : Part → Prop
  | .num n => n ≤ 999999
  | .nam f w => 1 ≤ f ∧ f ≤ 20 ∧ IsName w
def plus : List Nat := [32, 43, 32]
def tailT : List Part → List Nat
  | [] => []
  | p :: r => plus ++ (p.text ++ tailT r)
def sumT : List Part → List Nat
  | [] => []
  | p :: r => p.text ++ tailT r
structure SumOk (ps : List Part) : Prop where
  ne : ps ≠ []
  hi : ps.length ≤ 8
  ok : ∀ p ∈ ps, p.Ok
inductive Stm where
  | cmp (k : Nat) (a b : List Part)
  | is (r : List Nat) (a : List Part) (n : Nat)
  | like (r : List Nat) (a : List Part) (q : List Nat) (b : List Part)
  | neg (s : Stm)
  | two (o : Bool) (s t : Stm)
  | qu (e : Bool) (w : List Nat) (s : Stm)
/-- =, <=, < -/
def cmpT : Nat → List Nat
  | 0 => [61]
  | 1 => [60, 61]
  | _ => [60]
def twoT : Bool → List Nat
  | true => [97, 110, 100]
  | false => [111, 114]
def quT : Bool → List Nat
  | true => [115, 111, 109, 101]
  | false => [97, 108, 108]
def isT : List Nat := [32, 61, 32]
def placeT (r : List Nat) (a : List Part) : List Nat := r ++ 91 :: (sumT a ++ [93])
def Stm.text : Stm → List Nat
  | .cmp k a b => sumT a ++ (32 :: (cmpT k ++ 32 :: sumT b))
  | .is r a n => placeT r a ++ (isT ++ numL n)
  | .like r a q b => placeT r a ++ (isT ++ placeT q b)
  | .neg s => [110, 111, 116, 32] ++ s.text
  | .two o s t => 40 :: (s.text ++ (32 :: (twoT o ++ 32 :: (t.text ++ [41]))))
  | .qu e w s => quT e ++ 32 :: (w ++ (58 :: 32 :: s.text))
def Stm.depth : Stm → Nat
  | .cmp .. => 0
  | .is .. => 0
  | .like .. => 0
  | .neg s => s.depth + 1
  | .two _ s t => max s.depth t.depth + 1
  | .qu _ _ s => s.depth + 1
def Stm.Ok : Stm → Prop
  | .cmp k a b => k ≤ 2 ∧ SumOk a ∧ SumOk b
  | .is r a n => IsRow r ∧ SumOk a ∧ n ≤ 999999
  | .like r a q b => IsRow r ∧ SumOk a ∧ IsRow q ∧ SumOk b
  | .neg s => s.Ok
  | .two _ s t => s.Ok ∧ t.Ok
  | .qu _ w s => IsName w ∧ s.Ok

/-! ### sizes -/
theorem part_len {p : Part} (h : p.Ok) : p.text.length ≤ 9 := by
  cases p with
  | num n => exact Nat.le_trans (num_len6 h) (by decide)
  | nam f w =>
    obtain ⟨h1, h2, h3⟩ := h
    have a := num_len2 h2
    have b := h3.hi
    show (if f = 1 then w else numL f ++ 42 :: w).length ≤ 9
    split
    · omega
    · rw [List.length_append, List.length_cons]
      omega
theorem part_ne {p : Part} (h : p.Ok) : p.text ≠ [] := by
  cases p with
  | num n => exact numL_ne n
  | nam f w =>
    show (if f = 1 then w else numL f ++ 42 :: w) ≠ []
    split
    · exact h.2.2.ne
    · exact fun e => numL_ne f (List.append_eq_nil_iff.mp e).1
theorem tail_len : ∀ {ps : List Part}, (∀ p ∈ ps, p.Ok) → (tailT ps).length ≤ 12 * ps.length
  | [], _ => Nat.le_refl _
  | p :: r, h => by
    have a := part_len (h p (List.mem_cons_self ..))
    have b := tail_len (ps := r) fun q hq => h q (List.mem_cons_of_mem _ hq)
    unfold tailT plus
    simp only [List.length_append, List.length_cons, List.length_nil]
    omega
theorem sum_len {ps : List Part} (h : SumOk ps) : (sumT ps).length ≤ 93 := by
  cases ps with
  | nil => exact absurd rfl h.ne
  | cons p r =>
    have a := part_len (h.ok p (List.mem_cons_self ..))
    have b := tail_len (ps := r) fun q hq => h.ok q (List.mem_cons_of_mem _ hq)
    have c := h.hi
    unfold sumT
    rw [List.length_cons] at c
    rw [List.length_append]
    omega
theorem cmp_len (k : Nat) : (cmpT k).length ≤ 2 := by
  unfold cmpT
  split <;> decide
def Stm.plain : Stm → Bool
  | .cmp .. => true
  | .is .. => true
  | .like .. => true
  | _ => false
theorem plain_depth {s : Stm} (h : s.plain = true) : s.depth = 0 := by
  cases s <;> first | rfl | exact nomatch h
theorem plain_len {s : Stm} (h : s.Ok) (hp : s.plain = true) : s.text.length ≤ 205 := by
  cases s with
  | cmp k a b =>
    obtain ⟨_, ha, hb⟩ := h
    have := sum_len ha
    have := sum_len hb
    have := cmp_len k
    simp only [Stm.text, List.length_append, List.length_cons, List.length_nil]
    omega
  | is r a n =>
    obtain ⟨hr, ha, hn⟩ := h
    have := sum_len ha
    have := hr.hi
    have := num_len6 hn
    simp only [Stm.text, placeT, isT, List.length_append, List.length_cons, List.length_nil]
    omega
  | like r a q b =>
    obtain ⟨hr, ha, hq, hb⟩ := h
    have := sum_len ha
    have := sum_len hb
    have := hr.hi
    have := hq.hi
    simp only [Stm.text, placeT, isT, List.length_append, List.length_cons, List.length_nil]
    omega
  | _ => exact nomatch hp

/-! ### what stands behind a statement -/
inductive Fin : List Nat → Prop where
  | nil : Fin []
  | br (t) : Fin (41 :: t)
  | an (t) : Fin (32 :: 97 :: 110 :: 100 :: 32 :: t)
  | orr (t) : Fin (32 :: 111 :: 114 :: 32 :: t)
theorem Fin.brk {r : List Nat} (h : Fin r) : Brk r := by
  cases h with
  | nil => exact .nil
  | br t => exact .of (by omega)
  | an t => exact .of (by omega)
  | orr t => exact .of (by omega)
theorem Fin.noPlus {r : List Nat} (h : Fin r) : r.take 3 ≠ plus := by
  unfold plus
  cases h <;> simp
theorem Fin.two (o : Bool) (t : List Nat) : Fin (32 :: (twoT o ++ 32 :: t)) := by
  cases o
  · exact .orr t
  · exact .an t

/-! ### the first signs of a text -/
theorem take_app {α : Type} {a b : List α} {n : Nat} (h : a.length = n) : (a ++ b).take n = a := by
  rw [← h, List.take_left]
/-- a name and a written word: both are the signs up to the first that is none of a name's -/
theorem name_run : ∀ {w v r t : List Nat}, (∀ c ∈ w, sm c = true) → Off sm r → (∀ c ∈ v, sm c = true) → w ++ r = v ++ 32 :: t → w = v
  | [], [], _, _, _, _, _, _ => rfl
  | [], d :: v, r, t, _, hr, hv, e => by
    have z := hr d (v ++ 32 :: t) e
    rw [hv d (List.mem_cons_self ..)] at z
    exact nomatch z
  | c :: w, [], r, t, hw, _, _, e => by
    have z : c = 32 := (List.cons.inj e).1
    have q := sm_iff.mp (hw c (List.mem_cons_self ..))
    omega
  | c :: w, d :: v, r, t, hw, hr, hv, e => by
    obtain ⟨e1, e2⟩ := List.cons.inj e
    rw [e1, name_run (fun c h => hw c (List.mem_cons_of_mem _ h)) hr (fun c h => hv c (List.mem_cons_of_mem _ h)) e2]
theorem W5_sm : ∀ v ∈ W5, ∀ c ∈ v, sm c = true := by decide
theorem take_word {u v : List Nat} (h : u.take (v.length + 1) = v ++ [32]) : ∃ t, u = v ++ 32 :: t :=
  ⟨u.drop (v.length + 1), by
    have e := (List.take_append_drop (v.length + 1) u).symm
    rw [h, List.append_assoc] at e
    exact e⟩
/-- how a plain statement's text may begin -/
inductive Start : List Nat → Prop where
  | gr {c : Nat} {t : List Nat} (h : gr c = true) : Start (c :: t)
  | dg {c : Nat} {t : List Nat} (h : dg c = true) : Start (c :: t)
  | nam {w r : List Nat} (h : IsName w) (hr : Off sm r) : Start (w ++ r)
theorem Start.word {u : List Nat} (h : Start u) {v : List Nat} (hv : v ∈ W5) : u.take (v.length + 1) ≠ v ++ [32] := fun e => by
  obtain ⟨t, e⟩ := take_word e
  have ne : ∃ d v', v = d :: v' ∧ sm d = true := by
    cases v with
    | nil => exact absurd hv (by decide)
    | cons d v' => exact ⟨d, v', rfl, W5_sm _ hv d (List.mem_cons_self ..)⟩
  cases h with
  | gr hc =>
    obtain ⟨d, v', rfl, hd⟩ := ne
    have z := (List.cons.inj e).1
    have a := gr_iff.mp hc
    have b := sm_iff.mp hd
    omega
  | dg hc =>
    obtain ⟨d, v', rfl, hd⟩ := ne
    have z := (List.cons.inj e).1
    have a := dg_iff.mp hc
    have b := sm_iff.mp hd
    omega
  | nam hw hr => exact hw.no (by rw [name_run hw.sm hr (W5_sm v hv) e]; exact hv)
theorem Start.bracket {u : List Nat} (h : Start u) : u.take 1 ≠ [40] := by
  cases h with
  | @gr c t hc =>
    intro e
    have z : c = 40 := (List.cons.inj e).1
    have a := gr_iff.mp hc
    omega
  | @dg c t hc =>
    intro e
    have z : c = 40 := (List.cons.inj e).1
    have a := dg_iff.mp hc
    omega
  | @nam w r hw hr =>
    cases w with
    | nil => exact absurd rfl hw.ne
    | cons c w =>
      intro e
      have z : c = 40 := (List.cons.inj e).1
      have a := sm_iff.mp (hw.sm c (List.mem_cons_self ..))
      omega
theorem num_start (n : Nat) (r : List Nat) : Start (numL n ++ r) := by
  cases e : numL n with
  | nil => exact absurd e (numL_ne n)
  | cons c t => exact .dg (num_dg n c (by rw [e]; exact List.mem_cons_self ..))
theorem part_start {p : Part} (h : p.Ok) {r : List Nat} (hr : Off sm r) : Start (p.text ++ r) := by
  cases p with
  | num n => exact num_start n r
  | nam f w =>
    show Start ((if f = 1 then w else numL f ++ 42 :: w) ++ r)
    split
    · exact .nam h.2.2 hr
    · rw [List.append_assoc]
      exact num_start f _
theorem tail_off {ps : List Part} {r : List Nat} (h : Brk r) : Brk (tailT ps ++ r) := by
  cases ps with
  | nil => exact h
  | cons p ps => exact .of (by omega)
theorem sum_start {ps : List Part} (h : SumOk ps) {r : List Nat} (hr : Brk r) : Start (sumT ps ++ r) := by
  cases ps with
  | nil => exact absurd rfl h.ne
  | cons p ps =>
    unfold sumT
    rw [List.append_assoc]
    exact part_start (h.ok p (List.mem_cons_self ..)) (tail_off hr).s
theorem row_start {w : List Nat} (h : IsRow w) (r : List Nat) : ∃ c t, w ++ r = c :: t ∧ gr c = true := by
  cases w with
  | nil => exact absurd rfl h.ne
  | cons c w => exact ⟨c, w ++ r, rfl, h.gr c (List.mem_cons_self ..)⟩
theorem plain_start {s : Stm} (h : s.Ok) (hp : s.plain = true) (r : List Nat) : Start (s.text ++ r) := by
  cases s with
  | cmp k a b =>
    unfold Stm.text
    rw [List.append_assoc]
    exact sum_start h.2.1 (.of (by omega))
  | is w a n =>
    unfold Stm.text placeT
    rw [List.append_assoc, List.append_assoc]
    obtain ⟨c, t, e, hc⟩ := row_start h.1 _
    rw [e]
    exact .gr hc
  | like w a q b =>
    unfold Stm.text placeT
    rw [List.append_assoc, List.append_assoc]
    obtain ⟨c, t, e, hc⟩ := row_start h.1 _
    rw [e]
    exact .gr hc
  | _ => exact nomatch hp
/-- the first sign of a sum: no capital -/
theorem sum_head {ps : List Part} (h : SumOk ps) (r : List Nat) : ∃ c t, sumT ps ++ r = c :: t ∧ gr c = false := by
  cases ps with
  | nil => exact absurd rfl h.ne
  | cons p ps =>
    have ok := h.ok p (List.mem_cons_self ..)
    unfold sumT
    rw [List.append_assoc]
    cases p with
    | num n =>
      show ∃ c t, numL n ++ (tailT ps ++ r) = c :: t ∧ gr c = false
      cases e : numL n with
      | nil => exact absurd e (numL_ne n)
      | cons c t =>
        refine ⟨c, _, rfl, gr_not ?_⟩
        have := dg_iff.mp (num_dg n c (by rw [e]; exact List.mem_cons_self ..))
        omega
    | nam f w =>
      show ∃ c t, (if f = 1 then w else numL f ++ 42 :: w) ++ (tailT ps ++ r) = c :: t ∧ gr c = false
      split
      · cases w with
        | nil => exact absurd rfl ok.2.2.ne
        | cons c w =>
          refine ⟨c, _, rfl, gr_not ?_⟩
          have := sm_iff.mp (ok.2.2.sm c (List.mem_cons_self ..))
          omega
      · cases e : numL f with
        | nil => exact absurd e (numL_ne f)
        | cons c t =>
          refine ⟨c, _, rfl, gr_not ?_⟩
          have := dg_iff.mp (num_dg f c (by rw [e]; exact List.mem_cons_self ..))
          omega

/-! ### a text read at a place -/
/-- at i there stands u, up to the end -/
structure At (z : Str) (i : Nat) (u : List Nat) : Prop where
  dr : (tl z).drop i = u
  le : i ≤ z.length
  sz : z.length ≤ 1000
theorem At.len {z : Str} {i : Nat} {u : List Nat} (h : At z i u) : i + u.length = z.length := by
  have e := congrArg List.length h.dr
  rw [List.length_drop, ← len_tl] at e
  have := h.le
  omega
theorem At.app {z : Str} {i : Nat} {w r : List Nat} (h : At z i (w ++ r)) : At z (i + w.length) r := by
  refine ⟨?_, ?_, h.sz⟩
  · rw [← List.drop_drop, h.dr, List.drop_left]
  · have := h.len
    rw [List.length_append] at this
    omega
theorem At.cons {z : Str} {i : Nat} {c : Nat} {r : List Nat} (h : At z i (c :: r)) : At z (i + 1) r := At.app (w := [c]) h
theorem At.lt {z : Str} {i : Nat} {c : Nat} {r : List Nat} (h : At z i (c :: r)) : i < z.length := by
  have := h.len
  rw [List.length_cons] at this
  omega
theorem At.get {z : Str} {i : Nat} {c : Nat} {r : List Nat} (h : At z i (c :: r)) : z.cps[i]? = some c := by
  have e : (tl z)[i]? = some c := by
    have q := congrArg (fun l : List Nat => l[0]?) h.dr
    rw [List.getElem?_drop] at q
    exact q
  rw [Array.getElem?_toList] at e
  exact e
theorem At.whole (z : Str) (h : z.length ≤ 1000) : At z 0 (tl z) := ⟨rfl, Nat.zero_le _, h⟩
/-- the slice -/
theorem cut_tl {z : Str} {i k : Nat} (hi : i ≤ z.length) : tl (cutS z (some (i : Int)) (some (((i + k : Nat)) : Int))) = ((tl z).drop i).take k := by
  show ((z.cps.toList.drop (HT.sIx z.length 0 (some (i : Int)))).take (HT.sIx z.length z.length (some ((i + k : Nat) : Int)) - HT.sIx z.length 0 (some (i : Int)))) = _
  rw [HT.sIx_nat, HT.sIx_nat, Nat.min_eq_left hi]
  have hl : (z.cps.toList.drop i).length = z.length - i := by rw [List.length_drop, Array.length_toList] <;> rfl
  by_cases h : i + k ≤ z.length
  · rw [Nat.min_eq_left h, Nat.add_sub_cancel_left]
  · have hl2 : (List.drop i (tl z)).length = z.length - i := hl
    rw [Nat.min_eq_right (by omega), List.take_of_length_le (by omega), List.take_of_length_le (by omega)]
theorem At.cut {z : Str} {i : Nat} {u : List Nat} (h : At z i u) {k : Nat} {j : Int} (e : j = (i : Int) + (k : Int)) : tl (cutS z (some (i : Int)) (some j)) = u.take k := by
  have e2 : j = ((i + k : Nat) : Int) := by omega
  rw [e2, cut_tl h.le, h.dr]
/-- .. is the text w -/
theorem At.cut_eq {z w : Str} {i : Nat} {r : List Nat} (h : At z i (tl w ++ r)) {j : Int} (e : j = (i : Int) + (w.length : Int)) : cutS z (some (i : Int)) (some j) = w := by
  refine ext_tl ?_
  rw [h.cut e, len_tl, List.take_left]
theorem At.cut_ne {z w : Str} {i k : Nat} {u : List Nat} (h : At z i u) {j : Int} (e : j = (i : Int) + (k : Int)) (n : u.take k ≠ tl w) : cutS z (some (i : Int)) (some j) ≠ w := fun q => by
  refine n ?_
  rw [← h.cut e, q]
/-- one sign -/
theorem At.cut1 {z : Str} {i c : Nat} {r : List Nat} (h : At z i (c :: r)) {j : Int} (e : j = (i : Int) + 1) : cutS z (some (i : Int)) (some j) = ⟨#[c]⟩ := by
  refine ext_tl ?_
  rw [h.cut (k := 1) e]
  rfl
theorem ofStr (w : List Nat) : tl (⟨w.toArray⟩ : Str) = w := rfl
end K53

/-! set(list of texts) and sorted(set of texts), as rules of the layer: which texts, and how many; no order. -/
noncomputable section
namespace K53
open PySem PySem.Spec PyProof.Rows L2 PySem.Froz

/-- at a stands a set whose payload is D, of the texts l; it can be walked -/
structure TextSet (P : Program) (w : World) (h : Heap) (a : Addr) (D : SD) (l : List Str) : Prop where
  ob : h.get? a = some (sObj "set" D)
  tx : TxOk P w D l
  nd : l.Nodup
  ri : Ris D.2.2.place.toList
  le : w.params.followText "set-order" = true ∨ D.2.2.led = true

theorem tailTx_table (ep : Nat) (es : Array (Int × Value)) (t : SetTable) (b : Bool) (r : Ris t.place.toList) :
    Ris (tailTx ep es t b).2.2.place.toList ∧ (tailTx ep es t b).2.2.led = t.led := by
  unfold tailTx
  split
  · exact ⟨relayAll_ris t es _, relayAll_led t es _⟩
  · exact ⟨r, rfl⟩
theorem addTx_table (h : Int) (v : Value) (D : SD) (r : Ris D.2.2.place.toList) :
    Ris (addTx h v D).2.2.place.toList ∧ (addTx h v D).2.2.led = D.2.2.led := by
  have a := layNew_ris D.2.2 D.1 h v r
  have b := layNew_led D.2.2 D.1 h v
  unfold addTx
  split
  · have q := tailTx_table D.2.1 (layNew D.2.2 D.1 h v).1 { (layNew D.2.2 D.1 h v).2.1 with plain := false } (layNew D.2.2 D.1 h v).2.2.1 a
    exact ⟨q.1, q.2.trans b⟩
  · have q := tailTx_table D.2.1 (layNew D.2.2 D.1 h v).1 (layNew D.2.2 D.1 h v).2.1 (layNew D.2.2 D.1 h v).2.2.1 a
    exact ⟨q.1, q.2.trans b⟩
section
variable {P : Program} {w : World} {h h' : Heap} {a : Addr} {D : SD} {l : List Str}
theorem TextSet.more {k : Str} {u : Tok} (R : TextSet P w h a D l) (hk : k ∉ l) (ho : h'.get? a = some (sObj "set" (addTx (hashStr w k) (.str k u) D))) :
    TextSet P w h' a (addTx (hashStr w k) (.str k u) D) (k :: l) := by
  have q := addTx_table (hashStr w k) (.str k u) D R.ri
  exact ⟨ho, add_ok u R.tx, List.nodup_cons.mpr ⟨hk, R.nd⟩, q.1, R.le.imp id fun e => q.2.trans e⟩
theorem TextSet.at (R : TextSet P w h a D l) (k : ∀ o, h.get? a = some o → h'.get? a = some o) : TextSet P w h' a D l := ⟨k _ R.ob, R.tx, R.nd, R.ri, R.le⟩
theorem TextSet.first (ho : h.get? a = some { cls := .type "set", dict := none, data := .set #[] 0 (.fresh 0 0 (!w.params.followText "set-order")) }) :
    TextSet P w h a (#[], 0, .fresh 0 0 (!w.params.followText "set-order")) [] := by
  refine ⟨ho, TxOk.nil (by rfl), List.nodup_nil, List.Pairwise.nil, ?_⟩
  cases e : w.params.followText "set-order" with
  | true => exact .inl rfl
  | false => exact .inr rfl
end

section
variable {P : Program} {w : World} {A : Around} {E : Value → Shared → Prop} {s : Shared} {a : Addr} {D : SD} {l : List Str}
/-- a text that is there already -/
theorem add_there {k : Str} {u : Tok} {Q : Bool → Shared → Prop} (R : TextSet P w s.heap a D l) (hk : k ∈ l) (hb : l.length < scanBound) (q : Q false s) :
    wpAny (model P w) A (setAddHashed a (.str k u) (hashStr w k)) Q E s := by
  obtain ⟨es, ep, t⟩ := D
  obtain ⟨e, he, hek⟩ := (R.tx.mem k).mp hk
  have few : es.size < scanBound := by rw [show es.size = l.length from R.tx.sz]; exact hb
  unfold setAddHashed setAddHashedIn
  refine wpAny_holding (wpAny_bind (wpAny_setState_of R.ob rfl R.tx.fit ?_))
  dsimp only
  rw [byScan_of rfl few R.tx.el]
  simp only [↓reduceIte]
  unfold setAddByScan
  refine wpAny_bind (wpAny_bind (wpAny_rule (wpAny_bind (wpAny_setScan_of (knd := strKind P w) (k := k) (is_str k u) R.ob rfl R.tx.fit R.tx.el ?_))))
  cases hfi : List.findIdx? (fun e => (strKind P w).is k e.2) es.toList with
  | none =>
    have no := List.findIdx?_eq_none_iff.mp hfi e he
    rw [hek] at no
    exact nomatch no
  | some j =>
    dsimp only
    exact wpAny_pure (wpAny_pure q)

/-- what the loop has gathered: texts of xs, no more than the turns -/
def Gathered (P : Program) (w : World) (xs : List Str) (a : Addr) (i : Nat) (h : Heap) : Prop := ∃ D l, TextSet P w h a D l ∧ l.length ≤ i ∧ ∀ x ∈ l, x ∈ xs
theorem Gathered.at {h h' : Heap} {xs : List Str} {i : Nat} (g : Gathered P w xs a i h) (k : ∀ o, h.get? a = some o → h'.get? a = some o) : Gathered P w xs a i h' := by
  obtain ⟨D, l, R, r⟩ := g
  exact ⟨D, l, R.at k, r⟩

theorem gather_one {xs : List Str} {i : Nat} {k : Str} {u : Tok} {Q : Bool → Shared → Prop} (g : Gathered P w xs a i s.heap) (hk : k ∈ xs) (hb : i + 1 < scanBound)
    (q : ∀ b h', Heap.SameBut a s.heap h' → Gathered P w xs a (i + 1) h' → Q b { s with heap := h' }) : wpAny (model P w) A (setAddHashed a (.str k u) (hashStr w k)) Q E s := by
  obtain ⟨D, l, R, hl, hx⟩ := g
  by_cases c : k ∈ l
  · exact add_there R c (by omega) (q false s.heap (Heap.SameBut.refl a s.heap) ⟨D, l, R, by omega, hx⟩)
  · refine add_x R.ob R.tx c (by omega) (q true _ (Heap.SameBut.update s.heap a _) ?_)
    refine ⟨_, k :: l, R.more c (get_upd _ R.ob rfl), ?_, fun x hm => ?_⟩
    · rw [List.length_cons]
      omega
    · rcases List.mem_cons.mp hm with e | e
      · rw [e]
        exact hk
      · exact hx x e

theorem gather_all {I : Addr} {fp wr : List Addr} {G : Array GenState → Array GenState → Prop} {n : Nat} {Pv : Nat → Value → Prop} {St : Nat → Shared → Prop} {R : Result → Shared → Prop}
    (W : WalksS P w A.in1 I fp wr G n Pv St) (hfp : a ∉ fp) (xs : List Str) (hv : ∀ i v, Pv i v → ∃ x t, x ∈ xs ∧ v = Value.str x t) (hb : n + 1 < scanBound)
    (done : ∀ s', Moved (a :: wr) G s s' → Gathered P w xs a n s'.heap → R (.ok (.ret .none)) s') :
    ∀ (k i : Nat) (s1 : Shared), i + k = n → St i s1 → Moved (a :: wr) G s s1 → Gathered P w xs a i s1.heap → codeAny (model P w) A (.builtin "set.update.loop" ⟨[.ref a, .ref I], []⟩) R s1 := by
  have awr : a ∉ wr := fun hm => hfp (W.sub a hm)
  have wide : ∀ b ∈ wr, b ∈ a :: wr := fun b hm => List.mem_cons_of_mem a hm
  intro k
  induction k with
  | zero =>
    intro i s1 e st mv g
    have e' : i = n := by omega
    subst e'
    refine codeAny_builtin PyProof.Rows.F.entry_set_update_loop ?_
    rw [Around.under_plainId PyProof.Rows.F.plain_set_update_loop _]
    show wpAny _ A.in1 (pyNext (.ref I) >>= _) _ _ s1
    refine wpAny_bind (W.done s1 _ _ st fun s2 m2 => ?_)
    show wpAny _ A.in1 (ret Value.none) _ _ s2
    exact wpAny_pure (done s2 (Moved.trans W.gtrans mv (m2.mono wide)) (g.at fun o q => m2.heap a o awr q))
  | succ k ih =>
    intro i s1 e st mv g
    refine codeAny_builtin PyProof.Rows.F.entry_set_update_loop ?_
    rw [Around.under_plainId PyProof.Rows.F.plain_set_update_loop _]
    show wpAny _ A.in1 (pyNext (.ref I) >>= _) _ _ s1
    refine wpAny_bind (W.item i s1 _ _ (by omega) st fun v s2 hp st2 m2 => ?_)
    obtain ⟨x, t, hx, rfl⟩ := hv i v hp
    have g2 : Gathered P w xs a i s2.heap := g.at fun o q => m2.heap a o awr q
    show wpAny _ A.in1 (holding [Value.str x t] (setAdd a (.str x t)) >>= _) _ _ s2
    refine wpAny_bind (wpAny_holding ?_)
    unfold setAdd
    refine wpAny_holding (wpAny_bind ((strKind P w).pyHash (k := x) (is_str x t) ?_))
    refine gather_one (s := { s2 with toks := s2.toks + 1 }) g2 hx (by omega) fun b h' sb g3 => ?_
    have m3 : Moved (a :: wr) G s1 { s2 with heap := h', toks := s2.toks + 1 } := (m2.mono wide).then_heap (Nat.le_succ _) fun c o hc q => by
      rw [sb.2 c fun z => hc (by rw [z]; exact List.mem_cons_self)]
      exact q
    refine wpAny_pure ⟨plainId_quiet PyProof.Rows.F.plain_set_update_loop _, ih (i + 1) _ (by omega) (W.frame _ s2 h' _ st2 (Nat.le_succ _) fun c hc o q => ?_) (Moved.trans W.gtrans mv m3) g3⟩
    rw [sb.2 c fun z => hfp (by rw [← z]; exact hc)]
    exact q
end

theorem strs_of {v : Value} : ∀ {vs : List Value} {ys : List Str}, StrsAre vs ys → v ∈ vs → ∃ x t, x ∈ ys ∧ v = Value.str x t
  | _, _, .nil, hm => nomatch hm
  | _, _, .cons x t r, hm => by
    rcases List.mem_cons.mp hm with e | e
    · exact ⟨x, t, List.mem_cons_self, e⟩
    · obtain ⟨y, u, hy, q⟩ := strs_of r e
      exact ⟨y, u, List.mem_cons_of_mem _ hy, q⟩
section
variable {P : Program} {w : World} {A : Around} {E : Value → Shared → Prop} {s : Shared}
/-- the object that set(..) begins with -/
abbrev fresh0 (w : World) : Obj := { cls := .type "set", dict := none, data := .set #[] 0 (.fresh 0 0 (!w.params.followText "set-order")) }
set_option maxHeartbeats 8000000 in
theorem call_setT {l : Addr} {items : Array Value} (xs : List Str) {Q : Value → Shared → Prop} (hh : A.handled = none) (hl : s.heap.IsList l items) (hi : StrsAre items.toList xs) (hb : items.size + 1 < scanBound)
    (q : ∀ (h' : Heap) (tk : Nat), Gathered P w xs s.heap.objs.size items.size h' → (∀ b o, s.heap.get? b = some o → h'.get? b = some o) → Q (.ref s.heap.objs.size) { s with heap := h', toks := tk }) :
    wpAny (model P w) A (call (.type "set") [.ref l]) Q E s := by
  obtain ⟨c, tl, hmro⟩ := PySem.F.called_set.mro
  have hmade := PySem.F.called_set.made
  have hsub := PySem.F.called_set.sub
  refine wpAny_call (codeAny_of_tree ?_)
  show wpAny _ _ (callAny (.type "set") _) _ _ _
  refine wpAny_pure ⟨Code.quiet_builtin _ (by decide +kernel), codeAny_builtin PySem.F.entry_type_call ?_⟩
  rw [Around.under_plain (weight_type_call_type "set" [.ref l] []) rfl]
  have h1 := PySem.F.called_set.notType
  have h2 := PySem.F.called_set.canCreate
  have hct := PySem.F.typeCall_set_1 (.ref l)
  repeat (any_goals (first | assumption | wp_step))
  refine codeAny_mono (code_set_led1 (.ref l) (E := E) (Q₁ := fun obj s1 => obj = .ref s.heap.objs.size ∧ s1 = { s with heap := s.heap.push (fresh0 w) }) ⟨rfl, rfl⟩) fun r s1 hr => ?_
  match r, hr with
  | .error e, hr => exact hr
  | .ok .next, hr => exact hr.elim
  | .ok .brk, hr => exact hr.elim
  | .ok .cont, hr => exact hr.elim
  | .ok (.ret obj), hr =>
    obtain ⟨rfl, rfl⟩ := hr
    have hS : (s.heap.push (fresh0 w)).get? s.heap.objs.size = some (fresh0 w) := Heap.get?_push_size _ rfl
    have hT : Shared.TypeIs { s with heap := s.heap.push (fresh0 w) } (.ref s.heap.objs.size) "set" := ⟨_, hS, rfl⟩
    have hli := PySem.F.called_set.init.lookup
    have hbi := PySem.F.called_set.init.bind (.ref s.heap.objs.size)
    repeat (any_goals (first | assumption | wp_step))
    refine codeAny_mono (codeAny_call_builtin (R := wants (fun r s2 => r = .none ∧ ∃ h' tk, s2 = { s with heap := h', toks := tk } ∧ Gathered P w xs s.heap.objs.size items.size h' ∧
        (∀ b o, s.heap.get? b = some o → h'.get? b = some o)) E) PySem.F.called_set.init.plain PySem.F.entry_set_init (check_set_init_1 hT ?_)) fun r2 s2 hr2 => ?_
    · obtain ⟨ol, hol, hcl, nl, hdl⟩ := hl
      obtain ⟨ocls, odict, odata, oslots⟩ := ol
      simp only at hcl hdl
      subst hcl hdl
      have hol' : (s.heap.push (fresh0 w)).get? l = some { cls := .type "list", dict := odict, data := .seq items nl, slots := oslots } := Heap.get?_push_of_some _ hol
      have hsls := PySem.F.sub_list_set
      have hslf := PySem.F.sub_list_frozenset
      have hne : (Value.type "list" == Value.type "dict") = false := by decide
      have hl1 : (s.heap.push (fresh0 w)).IsList l items := ⟨_, hol', rfl, nl, rfl⟩
      unfold Builtin.«set.__init__» noKeywords Builtin.Frozenset.updateFrom
      generalize hPI : pyIter = PI
      wp_walk
      subst hPI
      refine wpAny_pyIter_list hl1 (wpAny_bind (wpAny_runValue ?_))
      have hlS : l < s.heap.objs.size := Heap.lt_size hol
      have hsz : (s.heap.push (fresh0 w)).objs.size = s.heap.objs.size + 1 := Heap.size_push ..
      have hneI : l ≠ (s.heap.push (fresh0 w)).objs.size := by
        rw [hsz]
        exact Nat.ne_of_lt (Nat.lt_succ_of_lt hlS)
      have hSf : s.heap.objs.size ∉ [(s.heap.push (fresh0 w)).objs.size, l] := fun hm => by
        rcases List.mem_cons.mp hm with e | e
        · rw [hsz] at e
          exact absurd e (Nat.ne_of_lt (Nat.lt_succ_self _))
        · exact absurd (List.mem_singleton.mp e) (Nat.ne_of_gt hlS)
      have hval : ∀ (i : Nat) (v : Value), items[i]? = some v → ∃ x t, x ∈ xs ∧ v = Value.str x t := fun i v hv => by
        exact strs_of hi (List.mem_of_getElem? (by rw [Array.getElem?_toList]; exact hv))
      refine gather_all ((Walks.list (by simp [hh]) _ l hneI items).toS) hSf xs hval hb ?fin (items.size - 0) 0 _ (by omega) ⟨⟨_, Heap.get?_push_size _ rfl, rfl, rfl⟩, hl1.push _⟩
        (Moved.refl fun _ => rfl) ⟨_, [], TextSet.first (Heap.get?_push_of_some _ hS), Nat.le_refl _, fun _ hm => nomatch hm⟩
      case fin =>
        intro s3 mv g
        obtain ⟨h3, g3, d3, t3, o3⟩ := s3
        have eg : g3 = s.gens := mv.gens
        have ed : d3 = s.drawn := mv.drawn
        have eo : o3 = s.os := mv.os
        subst eg ed eo
        show wpAny _ _ _ _ _ _
        refine wpAny_pure ?_
        show wpAny _ _ (ret Value.none) _ _ _
        refine wpAny_pure ⟨rfl, h3, t3, rfl, g, fun b o e => ?_⟩
        have hb0 : b < s.heap.objs.size := Heap.lt_size e
        refine mv.heap b o (fun hm => ?_) (Heap.get?_push_of_some _ (Heap.get?_push_of_some _ e))
        rcases List.mem_cons.mp hm with z | z
        · exact absurd z (Nat.ne_of_lt hb0)
        · have z' := List.mem_singleton.mp z
          rw [hsz] at z'
          exact absurd z' (Nat.ne_of_lt (Nat.lt_succ_of_lt hb0))
    · match r2, hr2 with
      | .error e, hr2 => exact hr2
      | .ok .next, hr2 => exact hr2.elim
      | .ok .brk, hr2 => exact hr2.elim
      | .ok .cont, hr2 => exact hr2.elim
      | .ok (.ret r), hr2 =>
        obtain ⟨rfl, h', tk, rfl, g, k⟩ := hr2
        repeat (any_goals (first | assumption | wp_step))
        exact q _ _ g k

/-- the members' texts, in the walk's order -/
theorem strs_some : ∀ {vs : List Value}, (∀ v ∈ vs, ∃ x t, v = Value.str x t) → ∃ ys, StrsAre vs ys
  | [], _ => ⟨[], .nil⟩
  | v :: vs, h => by
    obtain ⟨x, t, rfl⟩ := h v List.mem_cons_self
    obtain ⟨ys, r⟩ := strs_some (vs := vs) fun u hu => h u (List.mem_cons_of_mem _ hu)
    exact ⟨x :: ys, .cons x t r⟩
theorem strs_mem {y : Str} : ∀ {vs : List Value} {ys : List Str}, StrsAre vs ys → y ∈ ys → ∃ t, Value.str y t ∈ vs
  | _, _, .nil, hm => nomatch hm
  | _, _, .cons x t r, hm => by
    rcases List.mem_cons.mp hm with e | e
    · rw [e]
      exact ⟨t, List.mem_cons_self⟩
    · obtain ⟨t', q⟩ := strs_mem r e
      exact ⟨t', List.mem_cons_of_mem _ q⟩
theorem sorted_setT {a : Addr} {D : SD} {l : List Str} {Q : Value → Shared → Prop} (R : TextSet P w s.heap a D l) (hh : A.handled = none) (h64 : l.length < 64)
    (q : ∀ s' p (out : Array Value) (c : Nat) (ys : List Str), (∀ b o, s.heap.get? b = some o → s'.heap.get? b = some o) → s'.gens = s.gens → s'.os = s.os → s.heap.objs.size ≤ p →
      s'.heap.get? p = some (seqObj "list" out c) → StrsAre out.toList ys → ys.length = l.length → (∀ y ∈ ys, y ∈ l) → Q (.ref p) s') :
    wpAny (model P w) A (call (.builtin "sorted") [.ref a]) Q E s := by
  obtain ⟨es, ep, t⟩ := D
  have hsz : es.size = l.length := R.tx.sz
  refine Calls.call_function_entry kind_sorted plain_sorted entry_sorted (args_sorted1 _) ?_
  unfold Builtin.«sorted»
  refine wpAny_bind (m := checkCount "sorted" 1 1 _) (wpAny_pure ?_)
  refine wpAny_bind (collect_set (A := A.in1) hh ⟨_, R.ob, rfl, rfl⟩ R.tx.fit (by rw [hsz]; unfold scanBound; omega) R.ri R.le fun s1 vs k1 hz g1 o1 pm => ?_)
  have hvl : vs.length = l.length := by rw [pm.length_eq, List.length_map, Array.length_toList, hsz]
  have each : ∀ v ∈ vs, ∃ x t, v = Value.str x t ∧ x ∈ l := fun v hv => by
    obtain ⟨e, he, rfl⟩ := List.mem_map.mp (pm.mem_iff.mp hv)
    obtain ⟨⟨x, hx, _⟩, _⟩ := R.tx.el e he
    obtain ⟨t, ht⟩ := Value.isStrOf_shape (show Value.isStrOf x e.2 = true from hx)
    exact ⟨x, t, ht, (R.tx.mem x).mpr ⟨e, he, hx⟩⟩
  obtain ⟨xs, hX⟩ := strs_some fun v hv => let ⟨x, t, e, _⟩ := each v hv; ⟨x, t, e⟩
  have hxl : ∀ x ∈ xs, x ∈ l := fun x hx => by
    obtain ⟨t, hm⟩ := strs_mem hX hx
    obtain ⟨y, u, e, hy⟩ := each _ hm
    cases e
    exact hy
  refine wpAny_bind (wpAny_newList ?_ (by rw [hvl, sizeLine_eq]; omega))
  have hoL : (s1.heap.push (seqObj "list" vs.toArray 0)).get? s1.heap.objs.size = some (seqObj "list" vs.toArray 0) := Heap.get?_push_size _ rfl
  refine wpAny_bind (wpAny_holding (wpAny_call_entry slot_list_sort ⟨_, hoL, rfl⟩ entry_list_sort
    (list_sort_treeK strKind_oneLt hoL hX.keysOf (fun v1 v2 rest e => keyKind_strs (by rw [← e]; exact hX)) (by rw [hvl]; exact h64) fun st' hp hs => ⟨_, rfl, ?_⟩) (args_list_sort _)))
  obtain ⟨ys, g2, g3, _⟩ := sorted_out_str hX hp hs
  obtain ⟨c, hc⟩ := sortedHeap_at (vs := vs) (out := (arrOf st').map (·.2)) hoL
  have hlen : xs.length = vs.length := (StrsAre.len_eq hX).symm
  refine wpAny_pure ⟨_, rfl, q _ s1.heap.objs.size _ c ys (fun b u e => ?_) g1 o1 hz hc g2 (by rw [g3.length_eq, hlen, hvl]) fun y hy => hxl y (g3.mem_iff.mp hy)⟩
  have e1 := k1 b u e
  have lt := Heap.lt_size e1
  show (sortedHeap (s1.heap.push (seqObj "list" vs.toArray 0)) s1.heap.objs.size vs _).get? b = some u
  rw [sortedHeap_old (Nat.ne_of_lt lt) (by rw [size_push']; exact Nat.lt_succ_of_lt lt)]
  exact Heap.get?_push_of_some _ e1
end

/-! ### as rules -/
/-- a set of texts, as a tracked thing -/
def TSetO (P : Program) (w : World) (a : Addr) (l : List Str) : HO := .ext fun h => ∃ D, TextSet P w h a D l
theorem tsetO_new {P : Program} {w : World} {H : Hp} {h : Heap} {a : Addr} {D : SD} {l : List Str} (R : TextSet P w h a D l) : ObjOk P w H h a (TSetO P w a l) :=
  ⟨⟨D, R⟩, ⟨_, R.ob⟩, fun h1 h2 p k => let ⟨D', R'⟩ := p; ⟨D', R'.at k⟩⟩
def rSetT (K : PySem.W.Frag) (P : Program) (w : World) : List V → Hp → VK → Prop := fun xs H Q => ∃ (a : Addr) (ys : List Str), xs = [.ref a] ∧ SqL K H a (ys.map V.str) ∧ ys.length ≤ 1000 ∧
  ∀ (p : Addr) (l : List Str), H p = none → l.Nodup → (∀ x ∈ l, x ∈ ys) → Q (.ref p) (upd H p (TSetO P w p l))
def rSortedT (P : Program) (w : World) : List V → Hp → VK → Prop := fun xs H Q => ∃ (a : Addr) (l : List Str), xs = [.ref a] ∧ H a = some (TSetO P w a l) ∧ l.length < 64 ∧
  ∀ (p : Addr) (ys : List Str), H p = none → ys.length = l.length → (∀ y ∈ ys, y ∈ l) → Q (.ref p) (upd H p (.lst (ys.map V.str)))
section
variable {X : Cx}
theorem cr_setT (hc : X.calm = true) : CallR X (.type "set") (rSetT X.K X.prog X.w) := by
  intro pins s σ H xs us Q I r h
  obtain ⟨a, ys, rfl, hs, hz, q⟩ := h
  obtain ⟨its, rv, hl, _⟩ := I.list hs
  rw [Vals.ref1 r]
  have hlen : its.toArray.size = ys.length := by
    have e := rv.length
    rw [List.length_map] at e
    rw [List.size_toArray, e]
  refine call_setT ys (I.ok.hd hc) hl.isList (by simpa using rv.strs) (by rw [hlen]; unfold scanBound; omega) fun h' tk g k => ?_
  obtain ⟨D, l, R, _, hx⟩ := g
  exact ⟨.ref s.heap.objs.size, upd H s.heap.objs.size (TSetO X.prog X.w s.heap.objs.size l), I.laid (t' := tk) k (Nat.le_refl _) (tsetO_new R), rfl, q _ l (I.hok.fresh (Nat.le_refl _)) R.nd hx⟩
theorem cr_sortedT (hc : X.calm = true) : CallR X (.builtin "sorted") (rSortedT X.prog X.w) := by
  intro pins s σ H xs us Q I r h
  obtain ⟨a, l, rfl, ha, h64, q⟩ := h
  obtain ⟨D, R⟩ := (I.hok a _ ha).1
  rw [Vals.ref1 r]
  refine sorted_setT R (I.ok.hd hc) h64 fun s' p out c ys k g o hp hg hi hl hm => ?_
  have hn : H p = none := I.hok.fresh hp
  have hlen : (ys.map V.str).length ≤ sizeLine := by rw [List.length_map, hl, sizeLine_eq]; omega
  obtain ⟨h1, g1, d1, t1, o1⟩ := s'
  have eg : g1 = s.gens := g
  have eo : o1 = s.os := o
  subst eg eo
  exact ⟨.ref p, upd H p (.lst (ys.map V.str)), I.call (ch := []) (Un.laid k hp hn) (I.hok.laid k hp ⟨hlen, out.toList, c, vals_of_strs hi, by rw [Array.toArray_toList]; exact hg⟩) I.bare (fun _ z => nomatch z), rfl, q p ys hn hl hm⟩
end
end K53
end

/-! The text by places, data in the heap, what the top leaves. -/
namespace K53
open PySem L2 TL

/-! ### the text by places -/
def tp (i : Nat) : Stmt := PySem.Challenge.pw_figuretell_k53_whole_read.main.body.getD i (.Pass ⟨0, 0, 0, 0⟩)

/-! ### data: whole numbers, texts, tuples -/
inductive T where
  | int (i : Int)
  | str (x : Str)
  | tup (l : List T)
mutual
inductive Rep (K : PySem.W.Frag) (H : Hp) : V → T → Prop where
  | int (i : Int) : Rep K H (.int i) (.int i)
  | str (x : Str) : Rep K H (.str x) (.str x)
  | tup {a : Addr} {xs : List V} {ds : List T} (h : SqT K H a xs) (r : Reps K H xs ds) : Rep K H (.ref a) (.tup ds)
inductive Reps (K : PySem.W.Frag) (H : Hp) : List V → List T → Prop where
  | nil : Reps K H [] []
  | cons {v : V} {vs : List V} {d : T} {ds : List T} (h : Rep K H v d) (r : Reps K H vs ds) : Reps K H (v :: vs) (d :: ds)
end
/-- all tuples stay -/
def Tups (H H' : Hp) : Prop := ∀ a xs, Rd H a (.tup xs) → Rd H' a (.tup xs)
theorem Tups.sq {K : PySem.W.Frag} {H H' : Hp} (k : Tups H H') {a : Addr} {xs : List V} (h : SqT K H a xs) : SqT K H' a xs := h.imp (k a xs) id
mutual
theorem Rep.keep {K : PySem.W.Frag} {H H' : Hp} (k : Tups H H') : ∀ {d : T} {v : V}, Rep K H v d → Rep K H' v d
  | .int i, _, h => by
    cases h
    exact .int i
  | .str x, _, h => by
    cases h
    exact .str x
  | .tup ds, _, h => by
    cases h with
    | tup h r => exact .tup (k.sq h) (Reps.keep k r)
theorem Reps.keep {K : PySem.W.Frag} {H H' : Hp} (k : Tups H H') : ∀ {ds : List T} {vs : List V}, Reps K H vs ds → Reps K H' vs ds
  | [], _, h => by
    cases h
    exact .nil
  | d :: ds, _, h => by
    cases h with
    | cons h r => exact .cons (Rep.keep k h) (Reps.keep k r)
end
theorem _root_.L2.Same.tups {H H' : Hp} (e : Same H H') : Tups H H' := fun a xs h => by
  rcases h with h | ⟨o, h⟩
  · exact .inl (e _ _ h)
  · exact .inr ⟨o, e _ _ h⟩
theorem _root_.L2.Same.sqt {K : PySem.W.Frag} {H H' : Hp} {a : Addr} {xs : List V} (e : Same H H') (h : SqT K H a xs) : SqT K H' a xs := e.tups.sq h
theorem _root_.L2.Same.new {H : Hp} {p : Addr} {o : HO} (h : H p = none) : Same H (upd H p o) := fun b u q => by
  rw [upd_ne (ne_of_none q h)]
  exact q
/-- a thing that H does not know may change -/
theorem _root_.L2.Same.mut {H H' : Hp} {p : Addr} {o : HO} (e : Same H H') (h : H p = none) : Same H (upd H' p o) := fun b u q => by
  rw [upd_ne (ne_of_none q h)]
  exact e b u q
theorem Tups.upd {H : Hp} {p : Addr} {xs : List V} {o : HO} (h : H p = some (.lst xs)) : Tups H (upd H p o) := fun a ys r => by
  rcases r with r | ⟨u, r⟩
  · exact .inl (by rw [upd_ne (ne_of r h (by intro e; cases e))]; exact r)
  · exact .inr ⟨u, by rw [upd_ne (ne_of r h (by intro e; cases e))]; exact r⟩
theorem Reps.length {K : PySem.W.Frag} {H : Hp} : ∀ {vs : List V} {ds : List T}, Reps K H vs ds → vs.length = ds.length
  | _, [], h => by
    cases h
    rfl
  | _, d :: ds, h => by
    cases h with
    | cons h r =>
      rw [List.length_cons, List.length_cons, Reps.length r]
theorem Reps.get {K : PySem.W.Frag} {H : Hp} : ∀ {ds : List T} {vs : List V} {i : Nat} {v : V}, Reps K H vs ds → vs[i]? = some v → ∃ d, ds[i]? = some d ∧ Rep K H v d
  | [], _, i, v, h, e => by
    cases h
    simp at e
  | d :: ds, _, 0, v, h, e => by
    cases h with
    | cons h r =>
      cases e
      exact ⟨d, rfl, h⟩
  | d :: ds, _, i + 1, v, h, e => by
    cases h with
    | cons h r => exact Reps.get (i := i) r (by simpa using e)
theorem Reps.append {K : PySem.W.Frag} {H : Hp} : ∀ {ds es : List T} {vs us : List V}, Reps K H vs ds → Reps K H us es → Reps K H (vs ++ us) (ds ++ es)
  | [], _, _, _, h, g => by
    cases h
    exact g
  | d :: ds, _, _, _, h, g => by
    cases h with
    | cons h r => exact .cons h (Reps.append r g)
theorem Reps.one {K : PySem.W.Frag} {H : Hp} {v : V} {d : T} (h : Rep K H v d) : Reps K H [v] [d] := .cons h .nil
theorem Rep.new {K : PySem.W.Frag} {H' : Hp} {a : Addr} {xs : List V} {ds : List T} (e : H' a = some (.tup xs)) (r : Reps K H' xs ds) : Rep K H' (.ref a) (.tup ds) := .tup (SqT.of e) r

/-! ### what statements are as data -/
def mkS (w : List Nat) : Str := ⟨w.toArray⟩
theorem tl_mkS (w : List Nat) : tl (mkS w) = w := rfl
theorem len_mkS (w : List Nat) : (mkS w).length = w.length := by rw [len_tl, tl_mkS]
theorem mkS_tl (z : Str) : mkS (tl z) = z := ext_tl rfl
theorem mkS_inj {v w : List Nat} (h : mkS v = mkS w) : v = w := congrArg tl h
def Part.dat : Part → T
  | .num n => .tup [.int (n : Int), .str (mkS [])]
  | .nam f w => .tup [.int (f : Int), .str (mkS w)]
def sumD (ps : List Part) : T := .tup (ps.map Part.dat)
def isK : List Nat := [105, 115]
def likeK : List Nat := [108, 105, 107, 101]
def notK : List Nat := [110, 111, 116]
def Stm.dat : Stm → T
  | .cmp k a b => .tup [.str (mkS (cmpT k)), sumD a, sumD b]
  | .is r a n => .tup [.str (mkS isK), .str (mkS r), sumD a, .int (n : Int)]
  | .like r a q b => .tup [.str (mkS likeK), .str (mkS r), sumD a, .str (mkS q), sumD b]
  | .neg s => .tup [.str (mkS notK), s.dat]
  | .two o s t => .tup [.str (mkS (twoT o)), s.dat, t.dat]
  | .qu e w s => .tup [.str (mkS (quT e)), .str (mkS w), s.dat]

/-! ### what the top leaves -/
/-- the module's name x holds v -/
def GV (mg : Str → Option Value) (x : Str) (v : V) : Prop := ∃ u, mg x = some u ∧ RelV v u
structure Tx (K : PySem.W.Frag) (mg : Str → Option Value) : Prop where
  len : mg "len" = none
  tuple : mg "tuple" = none
  str : mg "str" = none
  int : mg "int" = none
  bool : mg "bool" = none
  isi : mg "isinstance" = none
  range : mg "range" = none
  divmod : mg "divmod" = none
  sorted : mg "sorted" = none
  set : mg "set" = none
  sum : mg "sum" = none
  max : mg "max" = none
  min : mg "min" = none
  zip : mg "zip" = none
  figs : GV mg "FIGURES" (.str (Str.ofString "0123456789"))
  small : GV mg "SMALL" (.str (Str.ofString "abcdefghijklmnopqrstuvwxyz"))
  great : GV mg "GREAT" (.str (Str.ofString "ABCDEFGHIJKLMNOPQRSTUVWXYZ"))
  longest : GV mg "LONGEST" (.int 1000)
  deepest : GV mg "DEEPEST" (.int 20)
  parts : GV mg "PARTS" (.int 8)
  words : ∃ a, mg "WORDS" = some (.ref a) ∧ ∀ H, SqT K H a (W5.map fun w => V.str (mkS w))
/-- a def of the text, as it stands -/
structure Def (K : PySem.W.Frag) (mg : Str → Option Value) (x : Str) (st : Stmt) (ps : List Str) (f : Addr) (fd : FuncData) : Prop where
  F : Fun K x x st f fd
  m : mg x = some (.ref f)
  b : Binds K fd ps []

/-! ### menus -/
theorem menu_small (c : Nat) : decide (c ∈ tl (Str.ofString "abcdefghijklmnopqrstuvwxyz")) = sm c := by
  have e : tl (Str.ofString "abcdefghijklmnopqrstuvwxyz") = (List.range 26).map (97 + ·) := by decide +kernel
  rw [e, Bool.eq_iff_iff, decide_eq_true_iff, sm_iff, List.mem_map]
  constructor
  · rintro ⟨k, hk, rfl⟩
    have := List.mem_range.mp hk
    omega
  · intro h
    exact ⟨c - 97, List.mem_range.mpr (by omega), by omega⟩
theorem menu_great (c : Nat) : decide (c ∈ tl (Str.ofString "ABCDEFGHIJKLMNOPQRSTUVWXYZ")) = gr c := by
  have e : tl (Str.ofString "ABCDEFGHIJKLMNOPQRSTUVWXYZ") = (List.range 26).map (65 + ·) := by decide +kernel
  rw [e, Bool.eq_iff_iff, decide_eq_true_iff, gr_iff, List.mem_map]
  constructor
  · rintro ⟨k, hk, rfl⟩
    have := List.mem_range.mp hk
    omega
  · intro h
    exact ⟨c - 65, List.mem_range.mpr (by omega), by omega⟩
theorem menu_figs (c : Nat) : decide (c ∈ tl (Str.ofString "0123456789")) = dg c := by
  have e : tl (Str.ofString "0123456789") = (List.range 10).map (48 + ·) := by decide +kernel
  rw [e, Bool.eq_iff_iff, decide_eq_true_iff, dg_iff, List.mem_map]
  constructor
  · rintro ⟨k, hk, rfl⟩
    have := List.mem_range.mp hk
    omega
  · intro h
    exact ⟨c - 48, List.mem_range.mpr (by omega), by omega⟩

/-! ### comparisons -/
theorem dec_str {a b : Str} : decide (V.str a = V.str b) = decide (a = b) := by
  rw [Bool.eq_iff_iff, decide_eq_true_iff, decide_eq_true_iff]
  exact ⟨fun e => V.str.inj e, fun e => by rw [e]⟩
theorem dec_ints {a b : Int} : decide (V.int a = V.int b) = decide (a = b) := by
  rw [Bool.eq_iff_iff, decide_eq_true_iff, decide_eq_true_iff]
  exact ⟨fun e => V.int.inj e, fun e => by rw [e]⟩
theorem str_yes {a b : Str} (h : a = b) : decide (V.str a = V.str b) = true := decide_eq_true (by rw [h])
theorem str_no {a b : Str} (h : a ≠ b) : decide (V.str a = V.str b) = false := decide_eq_false fun e => h (V.str.inj e)
theorem int_no {a b : Int} (h : a ≠ b) : decide (V.int a = V.int b) = false := decide_eq_false fun e => h (V.int.inj e)
/-- an if whose answer is known -/
theorem ifT {c : Bool} {A B : Prop} (h : c = true) (a : A) : if c = true then A else B := by
  rw [if_pos h]
  exact a
theorem ifF {c : Bool} {A B : Prop} (h : c = false) (b : B) : if c = true then A else B := by
  rw [if_neg (by rw [h]; decide)]
  exact b
/-- a test whose answer is known -/
theorem use {t : TT} {σ : St} {H : Hp} {Q : Bool → Hp → Prop} (b : Bool) (a : Ans t σ H b) (q : Q b H) : t σ H Q := a Q q
theorem useT {t : TT} {σ : St} {H : Hp} {A B : Hp → Prop} (a : Ans t σ H true) (q : A H) : t σ H (fun b H1 => if b = true then A H1 else B H1) := a _ (ifT rfl q)
theorem useF {t : TT} {σ : St} {H : Hp} {A B : Hp → Prop} (a : Ans t σ H false) (q : B H) : t σ H (fun b H1 => if b = true then A H1 else B H1) := a _ (ifF rfl q)
theorem dT {p : Prop} [Decidable p] {Q : Bool → Hp → Prop} {H : Hp} (h : p) (q : Q true H) : Q (decide p) H := by
  rw [decide_eq_true h]
  exact q
theorem dF {p : Prop} [Decidable p] {Q : Bool → Hp → Prop} {H : Hp} (h : ¬ p) (q : Q false H) : Q (decide p) H := by
  rw [decide_eq_false h]
  exact q
theorem bT {b : Bool} {Q : Bool → Hp → Prop} {H : Hp} (h : b = true) (q : Q true H) : Q b H := by
  rw [h]
  exact q
theorem bF {b : Bool} {Q : Bool → Hp → Prop} {H : Hp} (h : b = false) (q : Q false H) : Q b H := by
  rw [h]
  exact q
theorem bE {b c : Bool} {Q : Bool → Hp → Prop} {H : Hp} (h : b = c) (q : Q c H) : Q b H := by
  rw [h]
  exact q
theorem two1000 : 2 ≤ sizeLine := by decide
theorem sz {n : Nat} (h : n ≤ 1000) : n ≤ sizeLine := Nat.le_of_lt (small1000 h)

/-! ### whole numbers, readings that show what comes out -/
def zMod : R2 := fun x y H Q => ∃ i j, x = .int i ∧ y = .int j ∧ 0 < j ∧ Q (.int (i % j)) H
def zDiv : R2 := fun x y H Q => ∃ i j, x = .int i ∧ y = .int j ∧ (0 < j ∧ j < 1073741824) ∧ Q (.int (i / j)) H
def zAdd : R2 := fun x y H Q => ∃ i j, x = .int i ∧ y = .int j ∧ Q (.int (i + j)) H
def zSub : R2 := fun x y H Q => ∃ i j, x = .int i ∧ y = .int j ∧ Q (.int (i - j)) H
def zMul : R2 := fun x y H Q => ∃ i j, x = .int i ∧ y = .int j ∧ (-(2 ^ 64) < i ∧ i < 2 ^ 64) ∧ Q (.int (i * j)) H
theorem o_mod {X : Cx} : OpR X (binaryOp .Mod) zMod := fun pins s σ H x y v u Q I rx ry h => op_mod pins s σ H x y v u Q I rx ry h
theorem o_div {X : Cx} : OpR X (binaryOp .FloorDiv) zDiv := fun pins s σ H x y v u Q I rx ry h => op_fdiv pins s σ H x y v u Q I rx ry h
theorem o_add {X : Cx} : OpR X (binaryOp .Add) zAdd := fun pins s σ H x y v u Q I rx ry h => op_add pins s σ H x y v u Q I rx ry h
theorem o_sub {X : Cx} : OpR X (binaryOp .Sub) zSub := fun pins s σ H x y v u Q I rx ry h => op_sub pins s σ H x y v u Q I rx ry h
theorem o_mul {X : Cx} : OpR X (binaryOp .Mult) zMul := fun pins s σ H x y v u Q I rx ry h => by
  obtain ⟨i, j, e1, e2, c, q⟩ := h
  exact op_mul pins s σ H x y v u Q I rx ry ⟨i, j, e1, e2, .inl c, q⟩

/-! ### what is handed back -/
/-- a new pair of a value and a place -/
def Ret2 (Q : VK) (H : Hp) (x : V) (j : Nat) : Prop := ∀ (t : Addr) (H' : Hp), Same H H' → H' t = some (.tup [x, .int (j : Int)]) → Q (.ref t) H'
/-- a new pair of a datum and a place -/
def RetD (K : PySem.W.Frag) (Q : VK) (H : Hp) (d : T) (j : Nat) : Prop :=
  ∀ (x : V) (t : Addr) (H' : Hp), Same H H' → Rep K H' x d → H' t = some (.tup [x, .int (j : Int)]) → Q (.ref t) H'
end K53

/-! The reader, from below: run_at, past, name_at, number_at, part_at. -/
namespace K53
open PySem L2 TL

abbrev sRun : Stmt := tp 11
abbrev sPast : Stmt := tp 12
abbrev sName : Stmt := tp 13
abbrev sNum : Stmt := tp 14
abbrev sPart : Stmt := tp 15

def spRun : Sp := fun vs H Q _ => ∃ (z m : Str) (i : Nat) (w r : List Nat) (p : Nat → Bool), vs = [.str z, .int (i : Int), .str m] ∧ At z i (w ++ r) ∧ (1 ≤ w.length ∧ w.length ≤ 6) ∧ (∀ c ∈ w, p c = true) ∧ Off p r ∧
  (∀ c, decide (c ∈ tl m) = p c) ∧ Ret2 Q H (.str (mkS w)) (i + w.length)
def spPast : Sp := fun vs H Q _ => ∃ (z w : Str) (i : Nat) (r : List Nat), vs = [.str z, .int (i : Int), .str w] ∧ At z i (tl w ++ r) ∧ Q (.int ((i + w.length : Nat) : Int)) H
def spName : Sp := fun vs H Q _ => ∃ (z : Str) (i : Nat) (w r : List Nat), vs = [.str z, .int (i : Int)] ∧ At z i (w ++ r) ∧ IsName w ∧ Off sm r ∧ Ret2 Q H (.str (mkS w)) (i + w.length)
def spNum : Sp := fun vs H Q _ => ∃ (z : Str) (i n : Nat) (r : List Nat), vs = [.str z, .int (i : Int)] ∧ At z i (numL n ++ r) ∧ n ≤ 999999 ∧ Off dg r ∧ Ret2 Q H (.int (n : Int)) (i + (numL n).length)
def spPart (K : PySem.W.Frag) : Sp := fun vs H Q _ => ∃ (z : Str) (i : Nat) (p : Part) (r : List Nat), vs = [.str z, .int (i : Int)] ∧ At z i (p.text ++ r) ∧ p.Ok ∧ Brk r ∧ RetD K Q H p.dat (i + p.text.length)

section
variable {P : Program} {w : World} {K : PySem.W.Frag} {mg : Str → Option Value} {base : Heap} {f g h : Addr} {fd gd hd : FuncData}
theorem scRun : FnScope ["text", "at", "menu", "end"] ["text", "at", "menu"] (defScope sRun) := ⟨rfl, rfl, rfl, by decide +kernel, rfl, by decide +kernel, by decide +kernel⟩
theorem ok_run (D : Def K mg "run_at" sRun ["text", "at", "menu"] f fd) (X : Tx K mg) : FnOk P w K mg base CX0 1 f fd ["text", "at", "menu"] spRun := by
  refine D.F.ok scRun (fun vs H Q E h => ?_) (fun cdv A outer s H vs Q E hr h => ?_)
  · obtain ⟨z, m, i, w, r, p, rfl, _⟩ := h
    rfl
  obtain ⟨z, m, i, w, r, p, rfl, at0, ⟨h1, h6⟩, hw, hoff, hm, q⟩ := h
  refine ⟨_, pss_cons (ps_set (i := 3) scRun.nd rfl (Or.inl rfl) (pv 1))
    (pss_cons (ps_while PassesOwn.never (PW.pt (pw_and (pt_cmpR op_lt (pv 3) (pe_callB call_len_str rfl X.len PySem.boot_len (pa_cons (pv 0) pa_nil)) (nomark _))
        (pw_and1 (pt_cmpR op_in_sign (pe_item_str (pv 0) (pv 3) (fun _ _ => rfl)) (pv 2) (by rfl)))))
      (pss_one (ps_aug (i := 3) scRun.nd rfl (Or.inl rfl) pe_int ip_add)))
    (pss_cons (ps_if (PW.pt (pw_or (pt_cmpR op_eq (pv 3) (pv 1) (nomark _)) (pw_or1 (pt_cmpR op_gt (pv 3) (pe_op op_add (pv 1) pe_int) (nomark _))))) (pss_one ps_never) pss_nil)
    (pss_one (ps_ret (pe_tup (pa_cons (pe_slice sl_str (pv 0) (po_some (pv 1)) (po_some (pv 3))) (pa_cons (pv 3) pa_nil))))))), ?_⟩
  refine ⟨_, rfl, ?_⟩
  refine ⟨fun n σ H' => ∃ k : Nat, k ≤ w.length ∧ n = w.length - k ∧ σ = [some (.str z), some (.int (i : Int)), some (.str m), some (.int ((i + k : Nat) : Int))] ∧ H = H', ⟨w.length, 0, Nat.zero_le _, rfl, rfl, rfl⟩, ?_⟩
  rintro n σ H' ⟨k, hk, rfl, rfl, rfl⟩
  have at1 : At z (i + k) (w.drop k ++ r) := by
    have e : w ++ r = w.take k ++ (w.drop k ++ r) := by rw [← List.append_assoc, List.take_append_drop]
    rw [e] at at0
    have q := at0.app
    rw [List.length_take, Nat.min_eq_left hk] at q
    exact q
  have hz : ((z.length : Nat) : Int) < 2 ^ 63 := by
    have := at0.sz
    omega
  by_cases hk2 : k < w.length
  · -- one sign more
    have ed : w.drop k = w[k] :: w.drop (k + 1) := List.drop_eq_getElem_cons hk2
    rw [ed, List.cons_append] at at1
    have lt := at1.lt
    refine useT (ans_and (fun Q q => ⟨_, rfl, _, rfl, _, rfl, sz at0.sz, _, _, rfl, rfl, _, rfl, dT (by omega) q⟩)
      fun Q q => ⟨_, rfl, _, rfl, z, _, _, rfl, rfl, by omega, by omega, by omega, by rw [Int.toNat_natCast]; exact at1.get, _, rfl, _, m, rfl, rfl, _, rfl, bT (by rw [hm, hw _ (List.getElem_mem hk2)]) q⟩) ?_
    refine ⟨fun σ' H' => ∃ k' : Nat, k' ≤ w.length ∧ w.length - k' < w.length - k ∧ σ' = [some (.str z), some (.int (i : Int)), some (.str m), some (.int ((i + k' : Nat) : Int))] ∧ H = H',
      fun σ' H' ⟨k', a, b, c, d⟩ => ⟨_, b, k', a, rfl, c, d⟩, ?_⟩
    refine ⟨_, rfl, _, _, rfl, rfl, k + 1, by omega, by omega, ?_, rfl⟩
    rw [show ((i + (k + 1) : Nat) : Int) = ((i + k : Nat) : Int) + 1 by omega]
    rfl
  · have ek : k = w.length := by omega
    subst ek
    rw [List.drop_length, List.nil_append] at at1
    refine useF ?_ ?_
    · cases r with
      | nil =>
        have e := at1.len
        exact ans_and0 fun Q q => ⟨_, rfl, _, rfl, _, rfl, sz at0.sz, _, _, rfl, rfl, _, rfl, dF (by rw [List.length_nil] at e; omega) q⟩
      | cons c r =>
        have lt := at1.lt
        exact ans_and (fun Q q => ⟨_, rfl, _, rfl, _, rfl, sz at0.sz, _, _, rfl, rfl, _, rfl, dT (by omega) q⟩)
          fun Q q => ⟨_, rfl, _, rfl, z, _, _, rfl, rfl, by omega, by omega, by omega, by rw [Int.toNat_natCast]; exact at1.get, _, rfl, _, m, rfl, rfl, _, rfl, bF (by rw [hm, hoff c r rfl]) q⟩
    · dsimp only
      refine st_seq (st_no (ans_or (fun Q q => ⟨_, rfl, _, rfl, rfl, _, rfl, bF (int_no (by omega)) q⟩) fun Q q => ⟨_, rfl, _, rfl, _, _, rfl, rfl, _, _, rfl, rfl, _, rfl, dF (by omega) q⟩) ?_)
      refine ⟨_, rfl, _, rfl, _, rfl, _, rfl, _, rfl, z, rfl, sz at0.sz, _, rfl, by show 2 ≤ sizeLine; decide, fun t ht => ?_⟩
      refine q t _ (Same.new ht) ?_
      rw [At.cut_eq (w := mkS w) at0 (by rw [len_mkS]; omega)]
      exact upd_same
theorem scPast : FnScope ["text", "at", "sign"] ["text", "at", "sign"] (defScope sPast) := ⟨rfl, rfl, rfl, by decide +kernel, rfl, by decide +kernel, by decide +kernel⟩
theorem ok_past (D : Def K mg "past" sPast ["text", "at", "sign"] f fd) (X : Tx K mg) : FnOk P w K mg base CX0 1 f fd ["text", "at", "sign"] spPast := by
  refine D.F.ok scPast (fun vs H Q E h => ?_) (fun cdv A outer s H vs Q E hr h => ?_)
  · obtain ⟨z, w, i, r, rfl, _⟩ := h
    rfl
  obtain ⟨z, w, i, r, rfl, at0, q⟩ := h
  have hw : w.length ≤ 1000 := by
    have a := at0.len
    have b := at0.sz
    rw [List.length_append, ← len_tl] at a
    omega
  refine ⟨_, pss_cons (ps_if (pt_cmpR op_ne (pe_slice sl_str (pv 0) (po_some (pv 1)) (po_some (pe_op op_add (pv 1) (pe_callB call_len_str rfl X.len PySem.boot_len (pa_cons (pv 2) pa_nil))))) (pv 2) (nomark _)) (pss_one ps_never) pss_nil)
    (pss_one (ps_ret (pe_op op_add (pv 1) (pe_callB call_len_str rfl X.len PySem.boot_len (pa_cons (pv 2) pa_nil))))), ?_⟩
  refine st_seq (st_no (fun Q q => ⟨_, rfl, _, rfl, _, rfl, _, rfl, _, rfl, _, rfl, sz hw, _, _, rfl, rfl, _, rfl, z, rfl, sz at0.sz, _, rfl, rfl, _, rfl,
    bF (by rw [At.cut_eq at0 rfl, str_yes rfl]; rfl) q⟩) ?_)
  refine ⟨_, rfl, _, rfl, _, rfl, sz hw, _, _, rfl, rfl, ?_⟩
  have e : (i : Int) + (w.length : Int) = ((i + w.length : Nat) : Int) := by omega
  show Q (.int ((i : Int) + (w.length : Int))) H
  rw [e]
  exact q
theorem notWord {w : List Nat} (h : w ∉ W5) : inV (V.str (mkS w)) (W5.map fun w => V.str (mkS w)) = false := by
  unfold inV
  rw [List.any_map, List.any_eq_false]
  intro v hv
  show ¬ (mkS v == mkS w) = true
  rw [beq_iff_eq]
  intro e
  rw [mkS_inj e] at hv
  exact h hv
theorem scName : FnScope ["text", "at", "name"] ["text", "at"] (defScope sName) := ⟨rfl, rfl, rfl, by decide +kernel, rfl, by decide +kernel, by decide +kernel⟩
theorem ok_name (D : Def K mg "name_at" sName ["text", "at"] f fd) (X : Tx K mg) (DR : Def K mg "run_at" sRun ["text", "at", "menu"] g gd) : FnOk P w K mg base CX0 2 f fd ["text", "at"] spName := by
  have GR : FnOk P w K mg base CX0 1 g gd ["text", "at", "menu"] spRun := ok_run DR X
  obtain ⟨um, hm, rm⟩ := X.small
  obtain ⟨wa, hwa, hws⟩ := X.words
  refine D.F.ok scName (fun vs H Q E h => ?_) (fun cdv A outer s H vs Q E hr h => ?_)
  · obtain ⟨z, i, w, r, rfl, _⟩ := h
    rfl
  obtain ⟨z, i, w, r, rfl, at0, hn, hoff, q⟩ := h
  refine ⟨_, pss_cons (ps_asg (pe_call GR hr rfl DR.m DR.F.kp DR.b .nil pass0 (pa_cons (pv 0) (pa_cons (pv 1) (pa_cons (pe_glob rfl hm rm) pa_nil))))
      (pg_tup rfl (pgs_cons (pg_name (i := 2) scName.nd rfl (Or.inl rfl)) (pgs_cons (pg_name (i := 1) scName.nd rfl (Or.inl rfl)) pgs_nil))))
    (pss_cons (ps_if (pt_cmpR op_in_seq (pv 2) (pe_glob (v := .ref wa) rfl hwa rfl) (by rfl)) (pss_one ps_never) pss_nil)
    (pss_one (ps_ret (pe_tup (pa_cons (pv 2) (pa_cons (pv 1) pa_nil)))))), ?_⟩
  refine ⟨_, rfl, _, rfl, z, _, i, w, r, sm, rfl, at0, ⟨hn.lo, hn.hi⟩, hn.sm, hoff, menu_small, fun t H1 s1 e1 => ?_⟩
  refine ⟨t, _, rfl, SqT.of e1, rfl, _, _, rfl, _, _, rfl, rfl, ?_⟩
  dsimp only
  refine st_seq (st_no (fun Q q => ⟨_, rfl, wa, _, rfl, .inr (hws _), rfl, by decide, _, rfl, bF (notWord hn.no) q⟩) ?_)
  refine ⟨_, rfl, _, rfl, by show 2 ≤ sizeLine; decide, fun t2 ht2 => ?_⟩
  exact q t2 _ (s1.trans (Same.new ht2)) upd_same
theorem scNum : FnScope ["text", "at", "number"] ["text", "at"] (defScope sNum) := ⟨rfl, rfl, rfl, by decide +kernel, rfl, by decide +kernel, by decide +kernel⟩
theorem ok_num (D : Def K mg "number_at" sNum ["text", "at"] f fd) (X : Tx K mg) (DR : Def K mg "run_at" sRun ["text", "at", "menu"] g gd) : FnOk P w K mg base CX0 2 f fd ["text", "at"] spNum := by
  have GR : FnOk P w K mg base CX0 1 g gd ["text", "at", "menu"] spRun := ok_run DR X
  obtain ⟨um, hm, rm⟩ := X.figs
  refine D.F.ok scNum (fun vs H Q E h => ?_) (fun cdv A outer s H vs Q E hr h => ?_)
  · obtain ⟨z, i, n, r, rfl, _⟩ := h
    rfl
  obtain ⟨z, i, n, r, rfl, at0, hn, hoff, q⟩ := h
  have h6 := num_len6 hn
  have h1 : 1 ≤ (numL n).length := List.length_pos_iff.mpr (numL_ne n)
  have hl : (mkS (numL n)).length = (numL n).length := len_mkS _
  refine ⟨_, pss_cons (ps_asg (pe_call GR hr rfl DR.m DR.F.kp DR.b .nil pass0 (pa_cons (pv 0) (pa_cons (pv 1) (pa_cons (pe_glob rfl hm rm) pa_nil))))
      (pg_tup rfl (pgs_cons (pg_name (i := 2) scNum.nd rfl (Or.inl rfl)) (pgs_cons (pg_name (i := 1) scNum.nd rfl (Or.inl rfl)) pgs_nil))))
    (pss_cons (ps_if (PW.pt (pw_and (pt_cmpR op_gt (pe_callB call_len_str rfl X.len PySem.boot_len (pa_cons (pv 2) pa_nil)) pe_int (nomark _))
        (pw_and1 (pt_cmpR op_eq (pe_item_str (pv 2) pe_int (fun _ _ => rfl)) pe_str (nomark _))))) (pss_one ps_never) pss_nil)
    (pss_one (ps_ret (pe_tup (pa_cons (pe_callTy call_int_str rfl X.int (by decide +kernel) (pa_cons (pv 2) pa_nil)) (pa_cons (pv 1) pa_nil)))))), ?_⟩
  refine ⟨_, rfl, _, rfl, z, _, i, numL n, r, dg, rfl, at0, ⟨h1, h6⟩, num_dg n, hoff, menu_figs, fun t H1 s1 e1 => ?_⟩
  refine ⟨t, _, rfl, SqT.of e1, rfl, _, _, rfl, _, _, rfl, rfl, ?_⟩
  dsimp only
  refine st_seq (st_no ?_ ?_)
  · by_cases c : 1 < (numL n).length
    · obtain ⟨d, u, ed, hd⟩ := num_one c
      refine ans_and (fun Q q => ⟨_, rfl, _, rfl, sz (by omega), _, _, rfl, rfl, _, rfl, dT (by omega) q⟩)
        fun Q q => ⟨_, rfl, _, _, d, rfl, rfl, by decide, by decide, by show (0 : Int) < ((mkS (numL n)).length : Nat); omega, by show (mkS (numL n)).cps[0]? = some d; rw [ed]; rfl, rfl, _, rfl, bF (str_no ?_) q⟩
      intro e
      have e2 : [d] = [48] := (congrArg tl e).trans (by decide +kernel)
      exact hd (List.cons.inj e2).1
    · exact ans_and0 fun Q q => ⟨_, rfl, _, rfl, sz (by omega), _, _, rfl, rfl, _, rfl, dF (by omega) q⟩
  have hint : PySem.intText? (mkS (numL n)) = some (n : Int) := by
    have e : mkS (numL n) = Str.ofString (toString ((n : Nat) : Int)) := ext_tl (tl_num n).symm
    rw [e]
    exact int_num (by omega)
  refine ⟨_, rfl, mkS (numL n), _, rfl, hint, by omega, _, rfl, by show 2 ≤ sizeLine; decide, fun t2 ht2 => ?_⟩
  exact q t2 _ (s1.trans (Same.new ht2)) upd_same
theorem one_sign {u : List Nat} {c : Nat} {t : List Nat} (e : u = c :: t) : u.take 1 = [c] := by
  rw [e]
  rfl
theorem scPart : FnScope ["text", "at", "name", "number"] ["text", "at"] (defScope sPart) := ⟨rfl, rfl, rfl, by decide +kernel, rfl, by decide +kernel, by decide +kernel⟩
theorem ok_part (D : Def K mg "part_at" sPart ["text", "at"] f fd) (X : Tx K mg) (DN : Def K mg "name_at" sName ["text", "at"] g gd) (GN : FnOk P w K mg base CX0 2 g gd ["text", "at"] spName)
    (DM : Def K mg "number_at" sNum ["text", "at"] h hd) (GM : FnOk P w K mg base CX0 2 h hd ["text", "at"] spNum) : FnOk P w K mg base CX0 3 f fd ["text", "at"] (spPart K) := by
  obtain ⟨um, hm, rm⟩ := X.small
  refine D.F.ok scPart (fun vs H Q E h => ?_) (fun cdv A outer s H vs Q E hr h => ?_)
  · obtain ⟨z, i, p, r, rfl, _⟩ := h
    rfl
  obtain ⟨z, i, p, r, rfl, at0, hp, hb, q⟩ := h
  refine ⟨_, pss_cons (ps_if (pt_cmpR op_in_sign (pe_slice sl_str (pv 0) (po_some (pv 1)) (po_some (pe_op op_add (pv 1) pe_int))) (pe_glob rfl hm rm) (by rfl))
      (pss_cons (ps_asg (pe_call GN hr rfl DN.m DN.F.kp DN.b .nil pass0 (pa_cons (pv 0) (pa_cons (pv 1) pa_nil))) (pg_tup rfl (pgs_cons (pg_name (i := 2) scPart.nd rfl (Or.inl rfl)) (pgs_cons (pg_name (i := 1) scPart.nd rfl (Or.inl rfl)) pgs_nil))))
        (pss_one (ps_ret (pe_tup (pa_cons (pe_tup (pa_cons pe_int (pa_cons (pv 2) pa_nil))) (pa_cons (pv 1) pa_nil)))))) pss_nil)
    (pss_cons (ps_asg (pe_call GM hr rfl DM.m DM.F.kp DM.b .nil pass0 (pa_cons (pv 0) (pa_cons (pv 1) pa_nil))) (pg_tup rfl (pgs_cons (pg_name (i := 3) scPart.nd rfl (Or.inl rfl)) (pgs_cons (pg_name (i := 1) scPart.nd rfl (Or.inl rfl)) pgs_nil))))
    (pss_cons (ps_if (pt_cmpR op_ne (pe_slice sl_str (pv 0) (po_some (pv 1)) (po_some (pe_op op_add (pv 1) pe_int))) pe_str (nomark _))
      (pss_one (ps_ret (pe_tup (pa_cons (pe_tup (pa_cons (pv 3) (pa_cons pe_str pa_nil))) (pa_cons (pv 1) pa_nil))))) pss_nil)
    (pss_cons (ps_if (PW.pt (pw_or (pt_cmpR op_lt (pv 3) pe_int (nomark _)) (pw_or1 (pt_cmpR op_gt (pv 3) pe_int (nomark _))))) (pss_one ps_never) pss_nil)
    (pss_cons (ps_asg (pe_call GN hr rfl DN.m DN.F.kp DN.b .nil pass0 (pa_cons (pv 0) (pa_cons (pe_op op_add (pv 1) pe_int) pa_nil))) (pg_tup rfl (pgs_cons (pg_name (i := 2) scPart.nd rfl (Or.inl rfl)) (pgs_cons (pg_name (i := 1) scPart.nd rfl (Or.inl rfl)) pgs_nil))))
    (pss_one (ps_ret (pe_tup (pa_cons (pe_tup (pa_cons (pv 3) (pa_cons (pv 2) pa_nil))) (pa_cons (pv 1) pa_nil))))))))), ?_⟩
  have starS : tl (Str.ofString "*") = [42] := by decide +kernel
  -- the first sign
  obtain ⟨c, u, eu⟩ : ∃ c u, p.text ++ r = c :: u := by
    cases e : p.text ++ r with
    | nil => exact absurd (List.append_eq_nil_iff.mp e).1 (part_ne hp)
    | cons c u => exact ⟨c, u, rfl⟩
  have at1 : At z i (c :: u) := by
    rw [← eu]
    exact at0
  cases p with
  | num n =>
    have at0 : At z i (numL n ++ r) := at0
    have hc : sm c = false := by
      cases e : numL n with
      | nil => exact absurd e (numL_ne n)
      | cons d v =>
        have eu' : numL n ++ r = c :: u := eu
        rw [e] at eu'
        have ed := (List.cons.inj eu').1
        rw [← ed]
        have := dg_iff.mp (num_dg n d (by rw [e]; exact List.mem_cons_self ..))
        exact sm_not (by omega)
    refine st_seq (st_no (fun Q q => ⟨_, rfl, _, rfl, _, rfl, _, rfl, _, _, rfl, rfl, _, rfl, z, rfl, sz at0.sz, c, _, by rw [At.cut1 at1 rfl], rfl, _, rfl, bE ((menu_small c).trans hc) q⟩) ?_)
    refine ⟨_, rfl, _, rfl, z, i, n, r, rfl, at0, hp, hb.d, fun t H1 s1 e1 => ?_⟩
    refine ⟨t, _, rfl, SqT.of e1, rfl, _, _, rfl, _, _, rfl, rfl, ?_⟩
    have at2 := at0.app
    have hne : cutS z (some ((i + (numL n).length : Nat) : Int)) (some (((i + (numL n).length : Nat) : Int) + 1)) ≠ Str.ofString "*" := At.cut_ne at2 (k := 1) (by omega) (by
      rw [starS]
      intro e
      cases r with
      | nil => exact nomatch e
      | cons d v => exact hb.x v (by rw [(List.cons.inj e).1]))
    dsimp only
    refine st_seq (st_yes (fun Q q => ⟨_, rfl, _, rfl, _, rfl, _, rfl, _, _, rfl, rfl, _, rfl, z, rfl, sz at0.sz, rfl, _, rfl, bE (c := true) (by rw [str_no hne]; rfl) q⟩) ?_)
    refine ⟨_, rfl, two1000, fun t1 ht1 => ⟨_, rfl, two1000, fun t2 ht2 => ?_⟩⟩
    refine q (.ref t1) t2 _ (s1.trans ((Same.new ht1).trans (Same.new ht2))) ?_ upd_same
    exact .new ((Same.new ht2) _ _ upd_same) (.cons (.int _) (.cons (.str _) .nil))
  | nam f w =>
    obtain ⟨f1, f2, hn⟩ := hp
    by_cases hf : f = 1
    · subst hf
      have at0 : At z i (w ++ r) := at0
      have eu : w ++ r = c :: u := eu
      have hc : sm c = true := by
        cases w with
        | nil => exact absurd rfl hn.ne
        | cons d v =>
          rw [← (List.cons.inj eu).1]
          exact hn.sm d (List.mem_cons_self ..)
      refine st_seq (st_yes (fun Q q => ⟨_, rfl, _, rfl, _, rfl, _, rfl, _, _, rfl, rfl, _, rfl, z, rfl, sz at0.sz, c, _, by rw [At.cut1 at1 rfl], rfl, _, rfl, bE ((menu_small c).trans hc) q⟩) ?_)
      refine ⟨_, rfl, _, rfl, z, i, w, r, rfl, at0, hn, hb.s, fun t H1 s1 e1 => ?_⟩
      refine ⟨t, _, rfl, SqT.of e1, rfl, _, _, rfl, _, _, rfl, rfl, ?_⟩
      dsimp only
      refine ⟨_, rfl, two1000, fun t1 ht1 => ⟨_, rfl, two1000, fun t2 ht2 => ?_⟩⟩
      refine q (.ref t1) t2 _ (s1.trans ((Same.new ht1).trans (Same.new ht2))) ?_ upd_same
      exact .new ((Same.new ht2) _ _ upd_same) (.cons (.int _) (.cons (.str _) .nil))
    · have et : (Part.nam f w).text = numL f ++ 42 :: w := if_neg hf
      rw [et] at at0 eu q
      rw [List.append_assoc] at at0 eu
      have hc : sm c = false := by
        cases e : numL f with
        | nil => exact absurd e (numL_ne f)
        | cons d v =>
          rw [e] at eu
          have ed := (List.cons.inj eu).1
          rw [← ed]
          have := dg_iff.mp (num_dg f d (by rw [e]; exact List.mem_cons_self ..))
          exact sm_not (by omega)
      refine st_seq (st_no (fun Q q => ⟨_, rfl, _, rfl, _, rfl, _, rfl, _, _, rfl, rfl, _, rfl, z, rfl, sz at0.sz, c, _, by rw [At.cut1 at1 rfl], rfl, _, rfl, bE ((menu_small c).trans hc) q⟩) ?_)
      refine ⟨_, rfl, _, rfl, z, i, f, (42 :: w ++ r), rfl, at0, by omega, .cons (dg_not (by omega)), fun t H1 s1 e1 => ?_⟩
      refine ⟨t, _, rfl, SqT.of e1, rfl, _, _, rfl, _, _, rfl, rfl, ?_⟩
      have at2 : At z (i + (numL f).length) (42 :: (w ++ r)) := at0.app
      dsimp only
      refine st_seq (st_no (fun Q q => ⟨_, rfl, _, rfl, _, rfl, _, rfl, _, _, rfl, rfl, _, rfl, z, rfl, sz at0.sz, rfl, _, rfl, bE (c := false) ?_ q⟩) ?_)
      · rw [At.cut1 at2 rfl, str_yes (ext_tl (starS.symm ▸ rfl))]
        rfl
      dsimp only [tNext]
      refine st_seq (st_no (ans_or (fun Q q => ⟨_, rfl, _, _, rfl, rfl, _, rfl, dF (by omega) q⟩) fun Q q => ⟨_, rfl, _, _, rfl, rfl, _, rfl, dF (by omega) q⟩) ?_)
      refine ⟨_, rfl, _, rfl, _, _, rfl, rfl, z, i + (numL f).length + 1, w, r, rfl, at2.cons, hn, hb.s, fun t3 H3 s3 e3 => ?_⟩
      refine ⟨t3, _, rfl, SqT.of e3, rfl, _, _, rfl, _, _, rfl, rfl, ?_⟩
      dsimp only
      refine ⟨_, rfl, _, rfl, two1000, fun t1 ht1 => ⟨_, rfl, two1000, fun t2 ht2 => ?_⟩⟩
      refine q (.ref t1) t2 _ (s1.trans (s3.trans ((Same.new ht1).trans (Same.new ht2)))) ?_ ?_
      · exact .new ((Same.new ht2) _ _ upd_same) (.cons (.int _) (.cons (.str _) .nil))
      · rw [upd_same, List.length_append, List.length_cons]
        have e5 : i + ((numL f).length + (w.length + 1)) = i + (numL f).length + 1 + w.length := by omega
        rw [e5]
end
end K53

/-! The reader: sum_at, place_at, is_row_at. -/
namespace K53
open PySem L2 TL

abbrev sSum : Stmt := tp 16
abbrev sPlace : Stmt := tp 17
abbrev sIsRow : Stmt := tp 18

def spSum (K : PySem.W.Frag) : Sp := fun vs H Q _ => ∃ (z : Str) (i : Nat) (ps : List Part) (r : List Nat), vs = [.str z, .int (i : Int)] ∧ At z i (sumT ps ++ r) ∧ SumOk ps ∧ Brk r ∧ r.take 3 ≠ plus ∧ RetD K Q H (sumD ps) (i + (sumT ps).length)
def spPlace (K : PySem.W.Frag) : Sp := fun vs H Q _ => ∃ (z : Str) (i : Nat) (w : List Nat) (ps : List Part) (r : List Nat), vs = [.str z, .int (i : Int)] ∧ At z i (placeT w ps ++ r) ∧ IsRow w ∧ SumOk ps ∧
  ∀ (x : V) (t : Addr) (H' : Hp), Same H H' → Rep K H' x (sumD ps) → H' t = some (.tup [.str (mkS w), x, .int ((i + (placeT w ps).length : Nat) : Int)]) → Q (.ref t) H'
/-- whether a row's name may begin -/
def rowHead : List Nat → Bool
  | [] => false
  | c :: _ => gr c
def spIsRow : Sp := fun vs H Q _ => ∃ (z : Str) (i : Nat) (u : List Nat), vs = [.str z, .int (i : Int)] ∧ At z i u ∧ Q (.bl (rowHead u)) H

theorem plusS : tl (Str.ofString " + ") = plus := by decide +kernel
theorem tailT_drop {ps : List Part} {k : Nat} (h : k < ps.length) : tailT (ps.drop k) = plus ++ (ps[k].text ++ tailT (ps.drop (k + 1))) := by
  rw [List.drop_eq_getElem_cons h]
  rfl
theorem take_map_more {α β : Type} {l : List α} {f : α → β} {k : Nat} (h : k < l.length) : (l.take (k + 1)).map f = (l.take k).map f ++ [f l[k]] := by
  rw [List.take_succ_eq_append_getElem h, List.map_append]
  rfl

section
variable {P : Program} {w : World} {K : PySem.W.Frag} {mg : Str → Option Value} {base : Heap} {f g h e : Addr} {fd gd hd ed : FuncData}
theorem scSum : FnScope ["text", "at", "part", "parts"] ["text", "at"] (defScope sSum) := ⟨rfl, rfl, rfl, by decide +kernel, rfl, by decide +kernel, by decide +kernel⟩
theorem ok_sum (D : Def K mg "sum_at" sSum ["text", "at"] f fd) (X : Tx K mg) (DP : Def K mg "part_at" sPart ["text", "at"] g gd) (GP : FnOk P w K mg base CX0 3 g gd ["text", "at"] (spPart K)) :
    FnOk P w K mg base CX0 4 f fd ["text", "at"] (spSum K) := by
  obtain ⟨um, hm, rm⟩ := X.parts
  refine D.F.ok scSum (fun vs H Q E h => ?_) (fun cdv A outer s H vs Q E hr h => ?_)
  · obtain ⟨z, i, ps, r, rfl, _⟩ := h
    rfl
  obtain ⟨z, i, ps, r, rfl, at0, hp, hb, hnp, q⟩ := h
  refine ⟨_, pss_cons (ps_asg (pe_call GP hr rfl DP.m DP.F.kp DP.b .nil pass0 (pa_cons (pv 0) (pa_cons (pv 1) pa_nil))) (pg_tup rfl (pgs_cons (pg_name (i := 2) scSum.nd rfl (Or.inl rfl)) (pgs_cons (pg_name (i := 1) scSum.nd rfl (Or.inl rfl)) pgs_nil))))
    (pss_cons (ps_set (i := 3) scSum.nd rfl (Or.inl rfl) (pe_lst (pa_cons (pv 2) pa_nil)))
    (pss_cons (ps_while PassesOwn.never (pt_cmpR op_eq (pe_slice sl_str (pv 0) (po_some (pv 1)) (po_some (pe_op op_add (pv 1) pe_int))) pe_str (nomark _))
      (pss_cons (ps_asg (pe_call GP hr rfl DP.m DP.F.kp DP.b .nil pass0 (pa_cons (pv 0) (pa_cons (pe_op op_add (pv 1) pe_int) pa_nil))) (pg_tup rfl (pgs_cons (pg_name (i := 2) scSum.nd rfl (Or.inl rfl)) (pgs_cons (pg_name (i := 1) scSum.nd rfl (Or.inl rfl)) pgs_nil))))
      (pss_one (ps_expr (pe_bm PySem.F.plainAttrs_list PySem.F.slot_list_append PySem.F.type_list_append mt_append (pv 3) (pa_cons (pv 2) pa_nil))))))
    (pss_cons (ps_if (pt_cmpR op_gt (pe_callB call_len_seq rfl X.len PySem.boot_len (pa_cons (pv 3) pa_nil)) (pe_glob rfl hm rm) (nomark _)) (pss_one ps_never) pss_nil)
    (pss_one (ps_ret (pe_tup (pa_cons (pe_callTy call_tuple_of rfl X.tuple (by decide +kernel) (pa_cons (pv 3) pa_nil)) (pa_cons (pv 1) pa_nil)))))))), ?_⟩
  obtain ⟨p0, ps0, rfl⟩ : ∃ p0 ps0, ps = p0 :: ps0 := by
    cases ps with
    | nil => exact absurd rfl hp.ne
    | cons p0 ps0 => exact ⟨p0, ps0, rfl⟩
  have at1 : At z i (p0.text ++ (tailT ps0 ++ r)) := by
    have q := at0
    unfold sumT at q
    rw [List.append_assoc] at q
    exact q
  refine ⟨_, rfl, _, rfl, z, i, p0, _, rfl, at1, hp.ok p0 (List.mem_cons_self ..), tail_off hb, fun x t H1 s1 r1 e1 => ?_⟩
  refine ⟨t, _, rfl, SqT.of e1, rfl, _, _, rfl, _, _, rfl, rfl, ?_⟩
  dsimp only
  refine ⟨_, rfl, by show 1 ≤ sizeLine; decide, fun l hl => ?_⟩
  have n8 := hp.hi
  refine ⟨fun m σ H' => ∃ (k j : Nat) (x : V) (vs : List V), 1 ≤ k ∧ k ≤ (p0 :: ps0).length ∧ m = (p0 :: ps0).length - k ∧ σ = [some (.str z), some (.int (j : Int)), some x, some (.ref l)] ∧
      H' l = some (.lst vs) ∧ vs.length = k ∧ Reps K H' vs (((p0 :: ps0).take k).map Part.dat) ∧ Same H1 H' ∧ At z j (tailT ((p0 :: ps0).drop k) ++ r) ∧ j + (tailT ((p0 :: ps0).drop k)).length = i + (sumT (p0 :: ps0)).length,
    ⟨ps0.length, 1, i + p0.text.length, x, [x], Nat.le_refl _, by simp, by simp, rfl, upd_same, rfl, ?_, Same.new hl, at1.app, ?_⟩, ?_⟩
  · exact .one (r1.keep (Same.new hl).tups)
  · show i + p0.text.length + (tailT ps0).length = i + (p0.text ++ tailT ps0).length
    rw [List.length_append]
    omega
  rintro m σ H2 ⟨k, j, y, vs, k1, k2, rfl, rfl, el, lv, rv, s2, atj, ej⟩
  by_cases hk : k < (p0 :: ps0).length
  · have et := tailT_drop hk
    rw [et, List.append_assoc] at atj
    have cut := At.cut_eq (w := Str.ofString " + ") (z := z) (i := j) (by rw [plusS]; exact atj) (j := (j : Int) + 3) (by rw [len_tl, plusS]; rfl)
    refine useT (fun Q q => ⟨_, rfl, _, rfl, _, rfl, _, rfl, _, _, rfl, rfl, _, rfl, z, rfl, sz at0.sz, rfl, _, rfl, bE (str_yes cut) q⟩) ?_
    refine ⟨fun σ' H' => ∃ (k' j : Nat) (x : V) (vs : List V), (p0 :: ps0).length - k' < (p0 :: ps0).length - k ∧ 1 ≤ k' ∧ k' ≤ (p0 :: ps0).length ∧ σ' = [some (.str z), some (.int (j : Int)), some x, some (.ref l)] ∧
      H' l = some (.lst vs) ∧ vs.length = k' ∧ Reps K H' vs (((p0 :: ps0).take k').map Part.dat) ∧ Same H1 H' ∧ At z j (tailT ((p0 :: ps0).drop k') ++ r) ∧ j + (tailT ((p0 :: ps0).drop k')).length = i + (sumT (p0 :: ps0)).length,
      fun σ' H' ⟨k', j, x, vs, a, b, c, d⟩ => ⟨_, a, k', j, x, vs, b, c, rfl, d⟩, ?_⟩
    have atp : At z (j + 3) ((p0 :: ps0)[k].text ++ (tailT ((p0 :: ps0).drop (k + 1)) ++ r)) := by
      have q := atj.app
      rw [List.append_assoc] at q
      exact q
    refine ⟨_, rfl, _, rfl, _, _, rfl, rfl, z, j + 3, _, _, rfl, atp, hp.ok _ (List.getElem_mem hk), tail_off hb, fun x t3 H3 s3 r3 e3 => ?_⟩
    refine ⟨t3, _, rfl, SqT.of e3, rfl, _, _, rfl, _, _, rfl, rfl, ?_⟩
    dsimp only
    have el3 := s3 _ _ el
    refine ⟨_, rfl, .inl ⟨rfl, _, SqL.of el3⟩, _, rfl, l, _, _, rfl, rfl, el3, by rw [lv]; exact small1000 (by omega), ?_⟩
    refine ⟨k + 1, j + 3 + (p0 :: ps0)[k].text.length, x, vs ++ [x], by omega, by omega, hk, rfl, upd_same, by rw [List.length_append, lv]; rfl, ?_, ?_, atp.app, ?_⟩
    · rw [take_map_more hk]
      exact (rv.keep s3.tups |>.append (.one r3)).keep (Tups.upd el3)
    · exact (s2.trans s3).mut hl
    · rw [et] at ej
      simp only [List.length_append] at ej
      have e3' : plus.length = 3 := rfl
      omega
  · have ek : k = (p0 :: ps0).length := by omega
    subst ek
    have hcut : cutS z (some (j : Int)) (some ((j : Int) + 3)) ≠ Str.ofString " + " := by
      refine At.cut_ne atj (k := 3) rfl ?_
      rw [List.drop_length, plusS]
      exact hnp
    refine useF (fun Q q => ⟨_, rfl, _, rfl, _, rfl, _, rfl, _, _, rfl, rfl, _, rfl, z, rfl, sz at0.sz, rfl, _, rfl, bE (str_no hcut) q⟩) ?_
    dsimp only
    refine st_seq (st_no (fun Q q => ⟨_, rfl, l, _, rfl, .inl (SqL.of el), _, _, rfl, rfl, _, rfl, dF (by rw [lv]; omega) q⟩) ?_)
    refine ⟨_, rfl, l, _, rfl, .inl ⟨SqL.of el, fun t4 ht4 => ?_⟩⟩
    refine ⟨_, rfl, two1000, fun t5 ht5 => ?_⟩
    have s5 : Same H (upd (upd H2 t4 (.tup vs)) t5 (.tup [.ref t4, .int (j : Int)])) := s1.trans (s2.trans ((Same.new ht4).trans (Same.new ht5)))
    refine q (.ref t4) t5 _ s5 (.new ((Same.new ht5) _ _ upd_same) ?_) ?_
    · rw [List.take_length] at rv
      exact rv.keep ((Same.new ht4).trans (Same.new ht5)).tups
    · rw [upd_same]
      rw [List.drop_length] at ej
      have e6 : j = i + (sumT (p0 :: ps0)).length := ej
      rw [e6]
theorem scPlace : FnScope ["text", "at", "row", "parts"] ["text", "at"] (defScope sPlace) := ⟨rfl, rfl, rfl, by decide +kernel, rfl, by decide +kernel, by decide +kernel⟩
theorem ok_place (D : Def K mg "place_at" sPlace ["text", "at"] f fd) (X : Tx K mg) (DR : Def K mg "run_at" sRun ["text", "at", "menu"] g gd) (GR : FnOk P w K mg base CX0 1 g gd ["text", "at", "menu"] spRun)
    (DS : Def K mg "sum_at" sSum ["text", "at"] h hd) (GS : FnOk P w K mg base CX0 4 h hd ["text", "at"] (spSum K)) (DP : Def K mg "past" sPast ["text", "at", "sign"] e ed) (GP : FnOk P w K mg base CX0 1 e ed ["text", "at", "sign"] spPast) :
    FnOk P w K mg base CX0 5 f fd ["text", "at"] (spPlace K) := by
  obtain ⟨um, hm, rm⟩ := X.great
  refine D.F.ok scPlace (fun vs H Q E h => ?_) (fun cdv A outer s H vs Q E hr h => ?_)
  · obtain ⟨z, i, w, ps, r, rfl, _⟩ := h
    rfl
  obtain ⟨z, i, w, ps, r, rfl, at0, hw, hp, q⟩ := h
  have h1 : Room 1 _ := hr.mono (by decide)
  refine ⟨_, pss_cons (ps_asg (pe_call GR h1 rfl DR.m DR.F.kp DR.b .nil pass0 (pa_cons (pv 0) (pa_cons (pv 1) (pa_cons (pe_glob rfl hm rm) pa_nil)))) (pg_tup rfl (pgs_cons (pg_name (i := 2) scPlace.nd rfl (Or.inl rfl)) (pgs_cons (pg_name (i := 1) scPlace.nd rfl (Or.inl rfl)) pgs_nil))))
    (pss_cons (ps_asg (pe_call GS hr rfl DS.m DS.F.kp DS.b .nil pass0 (pa_cons (pv 0) (pa_cons (pe_call GP h1 rfl DP.m DP.F.kp DP.b .nil pass0 (pa_cons (pv 0) (pa_cons (pv 1) (pa_cons pe_str pa_nil)))) pa_nil)))
      (pg_tup rfl (pgs_cons (pg_name (i := 3) scPlace.nd rfl (Or.inl rfl)) (pgs_cons (pg_name (i := 1) scPlace.nd rfl (Or.inl rfl)) pgs_nil))))
    (pss_one (ps_ret (pe_tup (pa_cons (pv 2) (pa_cons (pv 3) (pa_cons (pe_call GP h1 rfl DP.m DP.F.kp DP.b .nil pass0 (pa_cons (pv 0) (pa_cons (pv 1) (pa_cons pe_str pa_nil)))) pa_nil))))))), ?_⟩
  have bS : tl (Str.ofString "[") = [91] := by decide +kernel
  have eS : tl (Str.ofString "]") = [93] := by decide +kernel
  have bL : (Str.ofString "[").length = 1 := by rw [len_tl, bS]; rfl
  have eL : (Str.ofString "]").length = 1 := by rw [len_tl, eS]; rfl
  unfold placeT at at0
  rw [List.append_assoc] at at0
  have at1 := at0.app
  have at2 : At z (i + w.length + 1) (sumT ps ++ (93 :: r)) := by
    have q : At z (i + w.length + 1) ((sumT ps ++ [93]) ++ r) := at1.cons
    rw [List.append_assoc] at q
    exact q
  have at3 := at2.app
  refine ⟨_, rfl, _, rfl, z, _, i, w, _, gr, rfl, at0, ⟨hw.lo, hw.hi⟩, hw.gr, .cons (gr_not (by omega)), menu_great, fun t H1 s1 e1 => ?_⟩
  refine ⟨t, _, rfl, SqT.of e1, rfl, _, _, rfl, _, _, rfl, rfl, ?_⟩
  dsimp only
  refine ⟨_, rfl, _, rfl, _, rfl, z, Str.ofString "[", _, _, rfl, by rw [bS]; exact at1, ?_⟩
  rw [bL]
  refine ⟨z, _, ps, 93 :: r, rfl, at2, hp, .of (by omega), by unfold plus; simp, fun x t2 H2 s2 r2 e2 => ?_⟩
  refine ⟨t2, _, rfl, SqT.of e2, rfl, _, _, rfl, _, _, rfl, rfl, ?_⟩
  dsimp only
  refine ⟨_, rfl, _, rfl, _, rfl, _, rfl, z, Str.ofString "]", _, r, rfl, by rw [eS]; exact at3, ?_⟩
  rw [eL]
  refine ⟨by show 3 ≤ sizeLine; decide, fun t3 ht3 => ?_⟩
  refine q x t3 _ (s1.trans (s2.trans (Same.new ht3))) (r2.keep (Same.new ht3).tups) ?_
  rw [upd_same]
  have e6 : i + w.length + 1 + (sumT ps).length + 1 = i + (placeT w ps).length := by
    unfold placeT
    simp only [List.length_append, List.length_cons, List.length_nil]
    omega
  rw [e6]
theorem scIsRow : FnScope ["text", "at"] ["text", "at"] (defScope sIsRow) := ⟨rfl, rfl, rfl, by decide +kernel, rfl, by decide +kernel, by decide +kernel⟩
theorem ok_isrow (D : Def K mg "is_row_at" sIsRow ["text", "at"] f fd) (X : Tx K mg) : FnOk P w K mg base CX0 1 f fd ["text", "at"] spIsRow := by
  obtain ⟨um, hm, rm⟩ := X.great
  refine D.F.ok scIsRow (fun vs H Q E h => ?_) (fun cdv A outer s H vs Q E hr h => ?_)
  · obtain ⟨z, i, u, rfl, _⟩ := h
    rfl
  obtain ⟨z, i, u, rfl, at0, q⟩ := h
  refine ⟨_, pss_one (ps_ret (pe_and (pe_cmpR op_lt (pv 1) (pe_callB call_len_str rfl X.len PySem.boot_len (pa_cons (pv 0) pa_nil)) (nomark _))
    (pe_one (pe_cmpR op_in_sign (pe_item_str (pv 0) (pv 1) (fun _ _ => rfl)) (pe_glob rfl hm rm) (by rfl))))), ?_⟩
  have hz := at0.sz
  refine ⟨_, rfl, _, rfl, _, rfl, sz hz, _, _, rfl, rfl, _, rfl, ?_⟩
  cases u with
  | nil =>
    have l := at0.len
    rw [List.length_nil] at l
    exact ifF (decide_eq_false (by omega)) q
  | cons c u =>
    have l := at0.lt
    refine ifT (decide_eq_true (by omega)) ⟨_, rfl, _, rfl, z, _, c, rfl, rfl, by omega, by omega, by omega, by rw [Int.toNat_natCast]; exact at0.get, c, _, rfl, rfl, ?_⟩
    have em : decide (c ∈ (Str.ofString "ABCDEFGHIJKLMNOPQRSTUVWXYZ").cps.toList) = gr c := menu_great c
    show Q (.bl (decide (c ∈ (Str.ofString "ABCDEFGHIJKLMNOPQRSTUVWXYZ").cps.toList))) H
    rw [em]
    exact q
end
end K53

/-! The reader: plain_at. -/
namespace K53
open PySem L2 TL

abbrev sPlain : Stmt := tp 19
def spPlain (K : PySem.W.Frag) : Sp := fun vs H Q _ => ∃ (z : Str) (i : Nat) (s : Stm) (r : List Nat), vs = [.str z, .int (i : Int)] ∧ At z i (s.text ++ r) ∧ s.Ok ∧ s.plain = true ∧ Fin r ∧ RetD K Q H s.dat (i + s.text.length)

/-- the three words of comparison, with the blanks -/
def cmpW (k : Nat) : List Nat := 32 :: (cmpT k ++ [32])
theorem cmpS0 : Str.ofString " = " = mkS (cmpW 0) := by decide +kernel
theorem cmpS1 : Str.ofString " <= " = mkS (cmpW 1) := by decide +kernel
theorem cmpS2 : Str.ofString " < " = mkS (cmpW 2) := by decide +kernel
theorem cmpStrip {k : Nat} (h : k ≤ 2) : Txt.strip (mkS (cmpW k)) = mkS (cmpT k) := by
  match k, h with
  | 0, _ => decide +kernel
  | 1, _ => decide +kernel
  | 2, _ => decide +kernel
theorem cmpW_no {n k : Nat} (h : n < k) (hk : k ≤ 2) (u : List Nat) : (cmpW k ++ u).take (cmpW n).length ≠ cmpW n := by
  match n, k, h, hk with
  | 0, 1, _, _ => simp [cmpW, cmpT]
  | 0, 2, _, _ => simp [cmpW, cmpT]
  | 1, 2, _, _ => simp [cmpW, cmpT]
  | n + 2, k, h, hk => omega
theorem cmpW_get {n : Nat} {x : V} (h : [V.str (mkS (cmpW 0)), V.str (mkS (cmpW 1)), V.str (mkS (cmpW 2))][n]? = some x) : n ≤ 2 ∧ x = .str (mkS (cmpW n)) := by
  match n, h with
  | 0, h => exact ⟨by omega, (Option.some.inj h).symm⟩
  | 1, h => exact ⟨by omega, (Option.some.inj h).symm⟩
  | 2, h => exact ⟨by omega, (Option.some.inj h).symm⟩
  | n + 3, h => simp at h
theorem cmpW_len (n : Nat) : (cmpW n).length ≤ 4 := by
  have := cmp_len n
  unfold cmpW
  rw [List.length_cons, List.length_append, List.length_singleton]
  omega
section
variable {P : Program} {w : World} {K : PySem.W.Frag} {mg : Str → Option Value} {base : Heap} {f f1 f2 f3 f4 f5 : Addr} {fd d1 d2 d3 d4 d5 : FuncData}
theorem scPlain : FnScope ["text", "at", "row", "parts", "other", "more", "number", "one", "word"] ["text", "at"] (defScope sPlain) := ⟨rfl, rfl, rfl, by decide +kernel, rfl, by decide +kernel, by decide +kernel⟩
theorem ok_plain (D : Def K mg "plain_at" sPlain ["text", "at"] f fd) (X : Tx K mg) (D1 : Def K mg "is_row_at" sIsRow ["text", "at"] f1 d1) (G1 : FnOk P w K mg base CX0 1 f1 d1 ["text", "at"] spIsRow)
    (D2 : Def K mg "place_at" sPlace ["text", "at"] f2 d2) (G2 : FnOk P w K mg base CX0 5 f2 d2 ["text", "at"] (spPlace K)) (D3 : Def K mg "past" sPast ["text", "at", "sign"] f3 d3) (G3 : FnOk P w K mg base CX0 1 f3 d3 ["text", "at", "sign"] spPast)
    (D4 : Def K mg "number_at" sNum ["text", "at"] f4 d4) (G4 : FnOk P w K mg base CX0 2 f4 d4 ["text", "at"] spNum) (D5 : Def K mg "sum_at" sSum ["text", "at"] f5 d5) (G5 : FnOk P w K mg base CX0 4 f5 d5 ["text", "at"] (spSum K)) :
    FnOk P w K mg base CX0 6 f fd ["text", "at"] (spPlain K) := by
  refine D.F.ok scPlain (fun vs H Q E h => ?_) (fun cdv A outer s H vs Q E hr h => ?_)
  · obtain ⟨z, i, st, r, rfl, _⟩ := h
    rfl
  obtain ⟨z, i, st, r, rfl, at0, ok, pl, hfin, q⟩ := h
  have h1 : Room 1 _ := hr.mono (by decide)
  have h2 : Room 2 _ := hr.mono (by decide)
  have h4 : Room 4 _ := hr.mono (by decide)
  have nd := scPlain.nd
  refine ⟨_, pss_cons (ps_if (pt_val (pe_call G1 h1 rfl D1.m D1.F.kp D1.b .nil pass0 (pa_cons (pv 0) (pa_cons (pv 1) pa_nil))))
      (pss_cons (ps_asg (pe_call G2 hr rfl D2.m D2.F.kp D2.b .nil pass0 (pa_cons (pv 0) (pa_cons (pv 1) pa_nil))) (pg_tup rfl (pgs_cons (pg_name (i := 2) nd rfl (Or.inl rfl)) (pgs_cons (pg_name (i := 3) nd rfl (Or.inl rfl)) (pgs_cons (pg_name (i := 1) nd rfl (Or.inl rfl)) pgs_nil)))))
      (pss_cons (ps_set (i := 1) nd rfl (Or.inl rfl) (pe_call G3 h1 rfl D3.m D3.F.kp D3.b .nil pass0 (pa_cons (pv 0) (pa_cons (pv 1) (pa_cons pe_str pa_nil)))))
      (pss_cons (ps_if (pt_val (pe_call G1 h1 rfl D1.m D1.F.kp D1.b .nil pass0 (pa_cons (pv 0) (pa_cons (pv 1) pa_nil))))
        (pss_cons (ps_asg (pe_call G2 hr rfl D2.m D2.F.kp D2.b .nil pass0 (pa_cons (pv 0) (pa_cons (pv 1) pa_nil))) (pg_tup rfl (pgs_cons (pg_name (i := 4) nd rfl (Or.inl rfl)) (pgs_cons (pg_name (i := 5) nd rfl (Or.inl rfl)) (pgs_cons (pg_name (i := 1) nd rfl (Or.inl rfl)) pgs_nil)))))
        (pss_one (ps_ret (pe_tup (pa_cons (pe_tup (pa_cons pe_str (pa_cons (pv 2) (pa_cons (pv 3) (pa_cons (pv 4) (pa_cons (pv 5) pa_nil)))))) (pa_cons (pv 1) pa_nil)))))) pss_nil)
      (pss_cons (ps_asg (pe_call G4 h2 rfl D4.m D4.F.kp D4.b .nil pass0 (pa_cons (pv 0) (pa_cons (pv 1) pa_nil))) (pg_tup rfl (pgs_cons (pg_name (i := 6) nd rfl (Or.inl rfl)) (pgs_cons (pg_name (i := 1) nd rfl (Or.inl rfl)) pgs_nil))))
      (pss_one (ps_ret (pe_tup (pa_cons (pe_tup (pa_cons pe_str (pa_cons (pv 2) (pa_cons (pv 3) (pa_cons (pv 6) pa_nil))))) (pa_cons (pv 1) pa_nil))))))))) pss_nil)
    (pss_cons (ps_asg (pe_call G5 h4 rfl D5.m D5.F.kp D5.b .nil pass0 (pa_cons (pv 0) (pa_cons (pv 1) pa_nil))) (pg_tup rfl (pgs_cons (pg_name (i := 7) nd rfl (Or.inl rfl)) (pgs_cons (pg_name (i := 1) nd rfl (Or.inl rfl)) pgs_nil))))
    (pss_cons (ps_for PassesOwn.never rfl (pi_tup (pe_tup (pa_cons pe_str (pa_cons pe_str (pa_cons pe_str pa_nil))))) (pg_name (i := 8) nd rfl (Or.inl rfl))
      (pss_one (ps_if (pt_cmpR op_eq (pe_slice sl_str (pv 0) (po_some (pv 1)) (po_some (pe_op op_add (pv 1) (pe_callB call_len_str rfl X.len PySem.boot_len (pa_cons (pv 8) pa_nil))))) (pv 8) (nomark _))
        (pss_cons (ps_asg (pe_call G5 h4 rfl D5.m D5.F.kp D5.b .nil pass0 (pa_cons (pv 0) (pa_cons (pe_op op_add (pv 1) (pe_callB call_len_str rfl X.len PySem.boot_len (pa_cons (pv 8) pa_nil))) pa_nil))) (pg_tup rfl (pgs_cons (pg_name (i := 4) nd rfl (Or.inl rfl)) (pgs_cons (pg_name (i := 1) nd rfl (Or.inl rfl)) pgs_nil))))
        (pss_one (ps_ret (pe_tup (pa_cons (pe_tup (pa_cons (pe_strip (pv 8)) (pa_cons (pv 7) (pa_cons (pv 4) pa_nil)))) (pa_cons (pv 1) pa_nil)))))) pss_nil)))
    (pss_one ps_never))), ?_⟩
  have isS : tl (Str.ofString " = ") = isT := by decide +kernel
  have isL : (Str.ofString " = ").length = 3 := by rw [len_tl, isS]; rfl
  have hz := at0.sz
  cases st with
  | cmp k a b =>
    obtain ⟨hk, ha, hb⟩ := ok
    have at1 : At z i (sumT a ++ (cmpW k ++ (sumT b ++ r))) := by
      have e : (Stm.cmp k a b).text ++ r = sumT a ++ (cmpW k ++ (sumT b ++ r)) := by simp [Stm.text, cmpW]
      rw [← e]
      exact at0
    obtain ⟨c, u, eu, hc⟩ := sum_head ha (cmpW k ++ (sumT b ++ r))
    have at2 := at1.app
    refine st_seq (st_no (fun Q q => ⟨_, rfl, _, rfl, z, i, c :: u, rfl, by rw [← eu]; exact at1, _, rfl, bE hc q⟩) ?_)
    refine ⟨_, rfl, _, rfl, z, i, a, _, rfl, at1, ha, .of (by omega), ?_, fun x t H1 s1 r1 e1 => ?_⟩
    · unfold plus cmpW cmpT
      split <;> simp
    refine ⟨t, _, rfl, SqT.of e1, rfl, _, _, rfl, _, _, rfl, rfl, ?_⟩
    dsimp only
    refine ⟨by show 3 ≤ sizeLine; decide, fun T hT => ⟨T, rfl, ⟨_, SqT.of upd_same⟩, ?_⟩⟩
    refine for_tup (K := K) (a := T) (xs := [V.str (mkS (cmpW 0)), V.str (mkS (cmpW 1)), V.str (mkS (cmpW 2))])
      (fun n σ H' => n ≤ k ∧ ∃ wv, σ = [some (.str z), some (.int ((i + (sumT a).length : Nat) : Int)), none, none, none, none, none, some x, wv] ∧ Same (upd H1 T (.tup [V.str (Str.ofString " = "), V.str (Str.ofString " <= "), V.str (Str.ofString " < ")])) H')
      ⟨Nat.zero_le _, none, rfl, Same.refl _⟩ (fun n σ H' _ ⟨_, _, _, s2⟩ => SqT.of (s2 _ _ (by rw [upd_same, cmpS0, cmpS1, cmpS2]))) ?_ (fun σ H' ⟨h, _⟩ => absurd h (by show ¬ 3 ≤ k; omega))
    rintro n y σ H' hx ⟨hn, wv, rfl, s2⟩
    obtain ⟨n2, rfl⟩ := cmpW_get hx
    have hl : (mkS (cmpW n)).length ≤ 1000 := by rw [len_mkS]; have := cmpW_len n; omega
    by_cases hnk : n < k
    · have ne : cutS z (some ((i + (sumT a).length : Nat) : Int)) (some (((i + (sumT a).length : Nat) : Int) + ((mkS (cmpW n)).length : Int))) ≠ mkS (cmpW n) :=
        At.cut_ne at2 rfl (by rw [len_mkS]; exact cmpW_no hnk hk _)
      refine st_no (fun Q q => ⟨_, rfl, _, rfl, _, rfl, _, rfl, _, rfl, _, rfl, sz hl, _, _, rfl, rfl, _, rfl, z, rfl, sz hz, _, rfl, rfl, _, rfl, bE (str_no ne) q⟩) ?_
      exact ⟨by omega, _, rfl, s2⟩
    · have enk : n = k := by omega
      subst enk
      have yes : cutS z (some ((i + (sumT a).length : Nat) : Int)) (some (((i + (sumT a).length : Nat) : Int) + ((mkS (cmpW n)).length : Int))) = mkS (cmpW n) := At.cut_eq (w := mkS (cmpW n)) at2 rfl
      refine st_yes (fun Q q => ⟨_, rfl, _, rfl, _, rfl, _, rfl, _, rfl, _, rfl, sz hl, _, _, rfl, rfl, _, rfl, z, rfl, sz hz, _, rfl, rfl, _, rfl, bE (str_yes yes) q⟩) ?_
      have at3 := at2.app
      refine ⟨_, rfl, _, rfl, _, rfl, _, rfl, sz hl, _, _, rfl, rfl, z, i + (sumT a).length + (cmpW n).length, b, r, rfl, at3, hb, hfin.brk, hfin.noPlus, fun x3 t3 H3 s3 r3 e3 => ?_⟩
      refine ⟨t3, _, rfl, SqT.of e3, rfl, _, _, rfl, _, _, rfl, rfl, ?_⟩
      dsimp only
      refine ⟨_, rfl, ⟨_, rfl⟩, _, rfl, rfl, sz hl, _, rfl, _, rfl, by show 3 ≤ sizeLine; decide, fun t4 ht4 => ⟨_, rfl, two1000, fun t5 ht5 => ?_⟩⟩
      have s6 := (Same.new (o := .tup [.str (Txt.strip (mkS (cmpW n))), x, x3]) ht4).trans (Same.new (o := .tup [.ref t4, .int ((i + (sumT a).length + (cmpW n).length + (sumT b).length : Nat) : Int)]) ht5)
      refine q (.ref t4) t5 _ (s1.trans ((Same.new hT).trans (s2.trans (s3.trans s6)))) ?_ ?_
      · refine .new ((Same.new ht5) _ _ upd_same) ?_
        rw [cmpStrip hk] at s6 ⊢
        exact .cons (.str _) (.cons (r1.keep ((Same.new hT).trans (s2.trans (s3.trans s6))).tups) (.cons (r3.keep s6.tups) .nil))
      · rw [upd_same]
        have e6 : i + (sumT a).length + (cmpW n).length + (sumT b).length = i + (Stm.cmp n a b).text.length := by
          simp only [Stm.text, cmpW, List.length_append, List.length_cons, List.length_nil]
          omega
        rw [e6]
  | is v a n =>
    obtain ⟨hv, ha, hn⟩ := ok
    have at1 : At z i (placeT v a ++ (isT ++ (numL n ++ r))) := by
      have e : (Stm.is v a n).text ++ r = placeT v a ++ (isT ++ (numL n ++ r)) := by simp [Stm.text]
      rw [← e]
      exact at0
    obtain ⟨c, u, eu, hc⟩ := row_start hv (91 :: (sumT a ++ [93]) ++ (isT ++ (numL n ++ r)))
    have eu2 : placeT v a ++ (isT ++ (numL n ++ r)) = c :: u := by
      unfold placeT
      rw [List.append_assoc]
      exact eu
    have at2 := at1.app
    have at3 := at2.app
    refine st_seq (st_yes (fun Q q => ⟨_, rfl, _, rfl, z, i, c :: u, rfl, by rw [← eu2]; exact at1, _, rfl, bE hc q⟩) ?_)
    refine ⟨_, rfl, _, rfl, z, i, v, a, _, rfl, at1, hv, ha, fun x t H1 s1 r1 e1 => ?_⟩
    refine ⟨t, _, rfl, SqT.of e1, rfl, _, _, rfl, _, _, rfl, _, _, rfl, rfl, ?_⟩
    dsimp only
    refine ⟨_, rfl, _, rfl, z, Str.ofString " = ", _, _, rfl, by rw [isS]; exact at2, ?_⟩
    rw [isL]
    have hd : rowHead (numL n ++ r) = false := by
      cases e : numL n with
      | nil => exact absurd e (numL_ne n)
      | cons d y =>
        have := dg_iff.mp (num_dg n d (by rw [e]; exact List.mem_cons_self ..))
        exact gr_not (by omega)
    dsimp only [gName]
    refine st_seq (st_no (fun Q q => ⟨_, rfl, _, rfl, z, _, numL n ++ r, rfl, at3, _, rfl, bE hd q⟩) ?_)
    refine ⟨_, rfl, _, rfl, z, _, n, r, rfl, at3, hn, hfin.brk.d, fun t2 H2 s2 e2 => ?_⟩
    refine ⟨t2, _, rfl, SqT.of e2, rfl, _, _, rfl, _, _, rfl, rfl, ?_⟩
    dsimp only
    refine ⟨_, rfl, _, rfl, _, rfl, by show 4 ≤ sizeLine; decide, fun t4 ht4 => ⟨_, rfl, two1000, fun t5 ht5 => ?_⟩⟩
    refine q (.ref t4) t5 _ (s1.trans (s2.trans ((Same.new ht4).trans (Same.new ht5)))) ?_ ?_
    · refine .new ((Same.new ht5) _ _ upd_same) ?_
      rw [show Str.ofString "is" = mkS isK by decide +kernel]
      exact .cons (.str _) (.cons (.str _) (.cons (r1.keep (s2.trans ((Same.new ht4).trans (Same.new ht5))).tups) (.cons (.int _) .nil)))
    · rw [upd_same]
      have e6 : i + (placeT v a).length + 3 + (numL n).length = i + (Stm.is v a n).text.length := by
        simp only [Stm.text, isT, List.length_append, List.length_cons, List.length_nil]
        omega
      rw [e6]
  | like v a y b =>
    obtain ⟨hv, ha, hy, hb⟩ := ok
    have at1 : At z i (placeT v a ++ (isT ++ (placeT y b ++ r))) := by
      have e : (Stm.like v a y b).text ++ r = placeT v a ++ (isT ++ (placeT y b ++ r)) := by simp [Stm.text]
      rw [← e]
      exact at0
    obtain ⟨c, u, eu, hc⟩ := row_start hv (91 :: (sumT a ++ [93]) ++ (isT ++ (placeT y b ++ r)))
    have eu2 : placeT v a ++ (isT ++ (placeT y b ++ r)) = c :: u := by
      unfold placeT
      rw [List.append_assoc]
      exact eu
    have at2 := at1.app
    have at3 := at2.app
    obtain ⟨d, u', ed, hd⟩ := row_start hy (91 :: (sumT b ++ [93]) ++ r)
    have ed2 : placeT y b ++ r = d :: u' := by
      unfold placeT
      rw [List.append_assoc]
      exact ed
    refine st_seq (st_yes (fun Q q => ⟨_, rfl, _, rfl, z, i, c :: u, rfl, by rw [← eu2]; exact at1, _, rfl, bE hc q⟩) ?_)
    refine ⟨_, rfl, _, rfl, z, i, v, a, _, rfl, at1, hv, ha, fun x t H1 s1 r1 e1 => ?_⟩
    refine ⟨t, _, rfl, SqT.of e1, rfl, _, _, rfl, _, _, rfl, _, _, rfl, rfl, ?_⟩
    dsimp only
    refine ⟨_, rfl, _, rfl, z, Str.ofString " = ", _, _, rfl, by rw [isS]; exact at2, ?_⟩
    rw [isL]
    dsimp only [gName]
    refine st_seq (st_yes (fun Q q => ⟨_, rfl, _, rfl, z, _, d :: u', rfl, by rw [← ed2]; exact at3, _, rfl, bE hd q⟩) ?_)
    refine ⟨_, rfl, _, rfl, z, _, y, b, _, rfl, at3, hy, hb, fun x2 t2 H2 s2 r2 e2 => ?_⟩
    refine ⟨t2, _, rfl, SqT.of e2, rfl, _, _, rfl, _, _, rfl, _, _, rfl, rfl, ?_⟩
    dsimp only
    refine ⟨_, rfl, _, rfl, _, rfl, _, rfl, by show 5 ≤ sizeLine; decide, fun t4 ht4 => ⟨_, rfl, two1000, fun t5 ht5 => ?_⟩⟩
    have s6 := (Same.new (o := .tup [.str (Str.ofString "like"), .str (mkS v), x, .str (mkS y), x2]) ht4).trans (Same.new (o := .tup [.ref t4, .int ((i + (placeT v a).length + 3 + (placeT y b).length : Nat) : Int)]) ht5)
    refine q (.ref t4) t5 _ (s1.trans (s2.trans s6)) ?_ ?_
    · refine .new ((Same.new ht5) _ _ upd_same) ?_
      rw [show Str.ofString "like" = mkS likeK by decide +kernel] at s6 ⊢
      exact .cons (.str _) (.cons (.str _) (.cons (r1.keep (s2.trans s6).tups) (.cons (.str _) (.cons (r2.keep s6.tups) .nil))))
    · rw [upd_same]
      have e6 : i + (placeT v a).length + 3 + (placeT y b).length = i + (Stm.like v a y b).text.length := by
        simp only [Stm.text, isT, List.length_append, List.length_cons, List.length_nil]
        omega
      rw [e6]
  | _ => exact nomatch pl
end
end K53

/-! The reader: two_at, statement_at (each calls the other), read. -/
namespace K53
open PySem L2 TL

abbrev sTwo : Stmt := tp 20
abbrev sSt : Stmt := tp 21
abbrev sRead : Stmt := tp 22
abbrev ps3 : List Str := ["text", "at", "deep"]

def spSt (K : PySem.W.Frag) (n : Nat) : Sp := fun vs H Q _ => ∃ (z : Str) (i deep : Nat) (s : Stm) (r : List Nat), vs = [.str z, .int (i : Int), .int (deep : Int)] ∧ At z i (s.text ++ r) ∧ s.Ok ∧ Fin r ∧ s.depth < n ∧ deep + s.depth ≤ 20 ∧
  RetD K Q H s.dat (i + s.text.length)
def spTw (K : PySem.W.Frag) (n : Nat) : Sp := fun vs H Q _ => ∃ (z : Str) (i deep : Nat) (o : Bool) (s t : Stm) (r : List Nat), vs = [.str z, .int (i : Int), .int (deep : Int)] ∧ At z i (s.text ++ (32 :: (twoT o ++ 32 :: (t.text ++ 41 :: r)))) ∧
  s.Ok ∧ t.Ok ∧ s.depth < n ∧ t.depth < n ∧ deep + s.depth ≤ 20 ∧ deep + t.depth ≤ 20 ∧ RetD K Q H (Stm.two o s t).dat (i + (s.text.length + (twoT o).length + t.text.length + 3))

/-- the two words that join, with the blanks -/
def twoW (o : Bool) : List Nat := 32 :: (twoT o ++ [32])
theorem twoS1 : Str.ofString " and " = mkS (twoW true) := by decide +kernel
theorem twoS0 : Str.ofString " or " = mkS (twoW false) := by decide +kernel
theorem twoStrip (o : Bool) : Txt.strip (mkS (twoW o)) = mkS (twoT o) := by
  cases o <;> decide +kernel
theorem twoW_len (o : Bool) : (twoW o).length ≤ 5 := by
  cases o <;> decide
theorem two_get {n : Nat} {x : V} (h : [V.str (mkS (twoW true)), V.str (mkS (twoW false))][n]? = some x) : (n = 0 ∧ x = .str (mkS (twoW true))) ∨ (n = 1 ∧ x = .str (mkS (twoW false))) := by
  match n, h with
  | 0, h => exact .inl ⟨rfl, (Option.some.inj h).symm⟩
  | 1, h => exact .inr ⟨rfl, (Option.some.inj h).symm⟩
  | n + 2, h => simp at h
/-- some, all -/
theorem quS1 : Str.ofString "some" = mkS (quT true) := by decide +kernel
theorem quS0 : Str.ofString "all" = mkS (quT false) := by decide +kernel
theorem blankS : tl (Str.ofString " ") = [32] := by decide +kernel
theorem quT_len (e : Bool) : (quT e).length ≤ 4 := by
  cases e <;> decide
theorem quT_W5 (e : Bool) : quT e ∈ W5 := by
  cases e <;> decide
theorem qu_get {n : Nat} {x : V} (h : [V.str (mkS (quT true)), V.str (mkS (quT false))][n]? = some x) : (n = 0 ∧ x = .str (mkS (quT true))) ∨ (n = 1 ∧ x = .str (mkS (quT false))) := by
  match n, h with
  | 0, h => exact .inl ⟨rfl, (Option.some.inj h).symm⟩
  | 1, h => exact .inr ⟨rfl, (Option.some.inj h).symm⟩
  | n + 2, h => simp at h
theorem qu_blank (e : Bool) : mkS (quT e) ++ Str.ofString " " = mkS (quT e ++ [32]) := by
  refine ext_tl ?_
  rw [tl_append, blankS]
  rfl
section
variable {P : Program} {w : World} {K : PySem.W.Frag} {mg : Str → Option Value} {base : Heap} {f f1 f2 f3 f4 f5 : Addr} {fd d1 d2 d3 d4 d5 : FuncData}
theorem scTwo : FnScope ["text", "at", "deep", "one", "word", "other"] ps3 (defScope sTwo) := ⟨rfl, rfl, rfl, by decide +kernel, rfl, by decide +kernel, by decide +kernel⟩
theorem ok_two {n : Nat} (D : Def K mg "two_at" sTwo ps3 f fd) (X : Tx K mg) (D1 : Def K mg "statement_at" sSt ps3 f1 d1) (G1 : FnOk P w K mg base CX0 (2 * n + 7) f1 d1 ps3 (spSt K n))
    (D3 : Def K mg "past" sPast ["text", "at", "sign"] f3 d3) (G3 : FnOk P w K mg base CX0 1 f3 d3 ["text", "at", "sign"] spPast) : FnOk P w K mg base CX0 (2 * n + 8) f fd ps3 (spTw K n) := by
  refine D.F.ok scTwo (fun vs H Q E h => ?_) (fun cdv A outer s H vs Q E hr h => ?_)
  · obtain ⟨z, i, deep, o, a, b, r, rfl, _⟩ := h
    rfl
  obtain ⟨z, i, deep, o, a, b, r, rfl, at0, oka, okb, da, db, da2, db2, q⟩ := h
  have h1 : Room 1 _ := hr.mono (by omega)
  have nd := scTwo.nd
  refine ⟨_, pss_cons (ps_asg (pe_call G1 hr rfl D1.m D1.F.kp D1.b .nil pass0 (pa_cons (pv 0) (pa_cons (pv 1) (pa_cons (pv 2) pa_nil)))) (pg_tup rfl (pgs_cons (pg_name (i := 3) nd rfl (Or.inl rfl)) (pgs_cons (pg_name (i := 1) nd rfl (Or.inl rfl)) pgs_nil))))
    (pss_cons (ps_for PassesOwn.never rfl (pi_tup (pe_tup (pa_cons pe_str (pa_cons pe_str pa_nil)))) (pg_name (i := 4) nd rfl (Or.inl rfl))
      (pss_one (ps_if (pt_cmpR op_eq (pe_slice sl_str (pv 0) (po_some (pv 1)) (po_some (pe_op op_add (pv 1) (pe_callB call_len_str rfl X.len PySem.boot_len (pa_cons (pv 4) pa_nil))))) (pv 4) (nomark _))
        (pss_cons (ps_asg (pe_call G1 hr rfl D1.m D1.F.kp D1.b .nil pass0 (pa_cons (pv 0) (pa_cons (pe_op op_add (pv 1) (pe_callB call_len_str rfl X.len PySem.boot_len (pa_cons (pv 4) pa_nil))) (pa_cons (pv 2) pa_nil)))) (pg_tup rfl (pgs_cons (pg_name (i := 5) nd rfl (Or.inl rfl)) (pgs_cons (pg_name (i := 1) nd rfl (Or.inl rfl)) pgs_nil))))
        (pss_one (ps_ret (pe_tup (pa_cons (pe_tup (pa_cons (pe_strip (pv 4)) (pa_cons (pv 3) (pa_cons (pv 5) pa_nil)))) (pa_cons (pe_call G3 h1 rfl D3.m D3.F.kp D3.b .nil pass0 (pa_cons (pv 0) (pa_cons (pv 1) (pa_cons pe_str pa_nil)))) pa_nil)))))) pss_nil)))
    (pss_one ps_never)), ?_⟩
  have hz := at0.sz
  have clS : tl (Str.ofString ")") = [41] := by decide +kernel
  have clL : (Str.ofString ")").length = 1 := by rw [len_tl, clS]; rfl
  have at1 : At z (i + a.text.length) (twoW o ++ (b.text ++ 41 :: r)) := by
    have q := at0.app
    have e : 32 :: (twoT o ++ 32 :: (b.text ++ 41 :: r)) = twoW o ++ (b.text ++ 41 :: r) := by simp [twoW]
    rw [e] at q
    exact q
  have at2 := at1.app
  have at3 := at2.app
  refine ⟨_, rfl, _, rfl, _, rfl, z, i, deep, a, _, rfl, at0, oka, Fin.two o _, da, da2, fun x t H1 s1 r1 e1 => ?_⟩
  refine ⟨t, _, rfl, SqT.of e1, rfl, _, _, rfl, _, _, rfl, rfl, ?_⟩
  dsimp only
  refine ⟨two1000, fun T hT => ⟨T, rfl, ⟨_, SqT.of upd_same⟩, ?_⟩⟩
  refine for_tup (K := K) (a := T) (xs := [V.str (mkS (twoW true)), V.str (mkS (twoW false))])
    (fun n σ H' => (n = 0 ∨ (n = 1 ∧ o = false)) ∧ ∃ wv, σ = [some (.str z), some (.int ((i + a.text.length : Nat) : Int)), some (.int (deep : Int)), some x, wv, none] ∧ Same (upd H1 T (.tup [V.str (Str.ofString " and "), V.str (Str.ofString " or ")])) H')
    ⟨.inl rfl, none, rfl, Same.refl _⟩ (fun n σ H' _ ⟨_, _, _, s2⟩ => SqT.of (s2 _ _ (by rw [upd_same, twoS1, twoS0]))) ?_ (fun σ H' ⟨h, _⟩ => by
      have h' : 2 = 0 ∨ (2 = 1 ∧ o = false) := h
      omega)
  rintro m y σ H' hx ⟨hm, wv, rfl, s2⟩
  have hl : ∀ o, (mkS (twoW o)).length ≤ 1000 := fun o => by rw [len_mkS]; have := twoW_len o; omega
  have yes : cutS z (some ((i + a.text.length : Nat) : Int)) (some (((i + a.text.length : Nat) : Int) + ((mkS (twoW o)).length : Int))) = mkS (twoW o) := At.cut_eq (w := mkS (twoW o)) at1 rfl
  by_cases hit : y = .str (mkS (twoW o))
  · subst hit
    refine st_yes (fun Q q => ⟨_, rfl, _, rfl, _, rfl, _, rfl, _, rfl, _, rfl, sz (hl o), _, _, rfl, rfl, _, rfl, z, rfl, sz hz, _, rfl, rfl, _, rfl, bE (str_yes yes) q⟩) ?_
    refine ⟨_, rfl, _, rfl, _, rfl, _, rfl, sz (hl o), _, _, rfl, rfl, _, rfl, z, i + a.text.length + (twoW o).length, deep, b, _, rfl, at2, okb, .br r, db, db2, fun x3 t3 H3 s3 r3 e3 => ?_⟩
    refine ⟨t3, _, rfl, SqT.of e3, rfl, _, _, rfl, _, _, rfl, rfl, ?_⟩
    dsimp only
    refine ⟨_, rfl, ⟨_, rfl⟩, _, rfl, rfl, sz (hl o), _, rfl, _, rfl, by show 3 ≤ sizeLine; decide, fun t4 ht4 => ?_⟩
    refine ⟨_, rfl, _, rfl, z, Str.ofString ")", _, r, rfl, by rw [clS]; exact at3, ?_⟩
    rw [clL]
    refine ⟨two1000, fun t5 ht5 => ?_⟩
    have s6 := (Same.new (o := .tup [.str (Txt.strip (mkS (twoW o))), x, x3]) ht4).trans (Same.new (o := .tup [.ref t4, .int ((i + a.text.length + (twoW o).length + b.text.length + 1 : Nat) : Int)]) ht5)
    refine q (.ref t4) t5 _ (s1.trans ((Same.new hT).trans (s2.trans (s3.trans s6)))) ?_ ?_
    · refine .new ((Same.new ht5) _ _ upd_same) ?_
      rw [twoStrip o] at s6 ⊢
      exact .cons (.str _) (.cons (r1.keep ((Same.new hT).trans (s2.trans (s3.trans s6))).tups) (.cons (r3.keep s6.tups) .nil))
    · rw [upd_same]
      have e6 : i + a.text.length + (twoW o).length + b.text.length + 1 = i + (a.text.length + (twoT o).length + b.text.length + 3) := by
        simp only [twoW, List.length_append, List.length_cons, List.length_nil]
        omega
      rw [e6]
  · rcases two_get hx with ⟨rfl, rfl⟩ | ⟨rfl, rfl⟩
    · have eo : o = false := by
        cases o with
        | false => rfl
        | true => exact absurd rfl hit
      subst eo
      have ne : cutS z (some ((i + a.text.length : Nat) : Int)) (some (((i + a.text.length : Nat) : Int) + ((mkS (twoW true)).length : Int))) ≠ mkS (twoW true) :=
        At.cut_ne at1 rfl (by rw [len_mkS]; simp [twoW, twoT, tl_mkS])
      refine st_no (fun Q q => ⟨_, rfl, _, rfl, _, rfl, _, rfl, _, rfl, _, rfl, sz (hl true), _, _, rfl, rfl, _, rfl, z, rfl, sz hz, _, rfl, rfl, _, rfl, bE (str_no ne) q⟩) ?_
      exact ⟨.inr ⟨rfl, rfl⟩, _, rfl, s2⟩
    · exfalso
      rcases hm with h | ⟨_, h⟩
      · omega
      · exact hit (by rw [h])
theorem scSt : FnScope ["text", "at", "deep", "one", "word", "name"] ps3 (defScope sSt) := ⟨rfl, rfl, rfl, by decide +kernel, rfl, by decide +kernel, by decide +kernel⟩
theorem ok_st {n : Nat} (D : Def K mg "statement_at" sSt ps3 f fd) (X : Tx K mg) (GS : FnOk P w K mg base CX0 (2 * n + 7) f fd ps3 (spSt K n)) (D1 : Def K mg "two_at" sTwo ps3 f1 d1) (G1 : FnOk P w K mg base CX0 (2 * n + 8) f1 d1 ps3 (spTw K n))
    (D2 : Def K mg "name_at" sName ["text", "at"] f2 d2) (G2 : FnOk P w K mg base CX0 2 f2 d2 ["text", "at"] spName)
    (D3 : Def K mg "past" sPast ["text", "at", "sign"] f3 d3) (G3 : FnOk P w K mg base CX0 1 f3 d3 ["text", "at", "sign"] spPast)
    (D4 : Def K mg "plain_at" sPlain ["text", "at"] f4 d4) (G4 : FnOk P w K mg base CX0 6 f4 d4 ["text", "at"] (spPlain K)) : FnOk P w K mg base CX0 (2 * (n + 1) + 7) f fd ps3 (spSt K (n + 1)) := by
  obtain ⟨um, hm, rm⟩ := X.deepest
  refine FnOk.mono (j := (2 * n + 8) + 1) ?_ (by omega)
  refine D.F.ok scSt (fun vs H Q E h => ?_) (fun cdv A outer s H vs Q E hr h => ?_)
  · obtain ⟨z, i, deep, st, r, rfl, _⟩ := h
    rfl
  obtain ⟨z, i, deep, st, r, rfl, at0, ok, hfin, hd, hd2, q⟩ := h
  have h1 : Room 1 _ := hr.mono (by omega)
  have h2 : Room 2 _ := hr.mono (by omega)
  have h6 : Room 6 _ := hr.mono (by omega)
  have hS : Room (2 * n + 7) _ := hr.mono (by omega)
  have nd := scSt.nd
  refine ⟨_, pss_cons (ps_if (pt_cmpR op_gt (pv 2) (pe_glob rfl hm rm) (nomark _)) (pss_one ps_never) pss_nil)
    (pss_cons (ps_if (pt_cmpR op_eq (pe_slice sl_str (pv 0) (po_some (pv 1)) (po_some (pe_op op_add (pv 1) pe_int))) pe_str (nomark _))
      (pss_one (ps_ret (pe_call G1 hr rfl D1.m D1.F.kp D1.b .nil pass0 (pa_cons (pv 0) (pa_cons (pe_op op_add (pv 1) pe_int) (pa_cons (pe_op op_add (pv 2) pe_int) pa_nil)))))) pss_nil)
    (pss_cons (ps_if (pt_cmpR op_eq (pe_slice sl_str (pv 0) (po_some (pv 1)) (po_some (pe_op op_add (pv 1) pe_int))) pe_str (nomark _))
      (pss_cons (ps_asg (pe_call GS hS rfl D.m D.F.kp D.b .nil pass0 (pa_cons (pv 0) (pa_cons (pe_op op_add (pv 1) pe_int) (pa_cons (pe_op op_add (pv 2) pe_int) pa_nil)))) (pg_tup rfl (pgs_cons (pg_name (i := 3) nd rfl (Or.inl rfl)) (pgs_cons (pg_name (i := 1) nd rfl (Or.inl rfl)) pgs_nil))))
      (pss_one (ps_ret (pe_tup (pa_cons (pe_tup (pa_cons pe_str (pa_cons (pv 3) pa_nil))) (pa_cons (pv 1) pa_nil)))))) pss_nil)
    (pss_cons (ps_for PassesOwn.never rfl (pi_tup (pe_tup (pa_cons pe_str (pa_cons pe_str pa_nil)))) (pg_name (i := 4) nd rfl (Or.inl rfl))
      (pss_one (ps_if (pt_cmpR op_eq (pe_slice sl_str (pv 0) (po_some (pv 1)) (po_some (pe_op op_add (pe_op op_add (pv 1) (pe_callB call_len_str rfl X.len PySem.boot_len (pa_cons (pv 4) pa_nil))) pe_int))) (pe_op op_add_str (pv 4) pe_str) (nomark _))
        (pss_cons (ps_asg (pe_call G2 h2 rfl D2.m D2.F.kp D2.b .nil pass0 (pa_cons (pv 0) (pa_cons (pe_op op_add (pe_op op_add (pv 1) (pe_callB call_len_str rfl X.len PySem.boot_len (pa_cons (pv 4) pa_nil))) pe_int) pa_nil))) (pg_tup rfl (pgs_cons (pg_name (i := 5) nd rfl (Or.inl rfl)) (pgs_cons (pg_name (i := 1) nd rfl (Or.inl rfl)) pgs_nil))))
        (pss_cons (ps_asg (pe_call GS hS rfl D.m D.F.kp D.b .nil pass0 (pa_cons (pv 0) (pa_cons (pe_call G3 h1 rfl D3.m D3.F.kp D3.b .nil pass0 (pa_cons (pv 0) (pa_cons (pv 1) (pa_cons pe_str pa_nil)))) (pa_cons (pe_op op_add (pv 2) pe_int) pa_nil)))) (pg_tup rfl (pgs_cons (pg_name (i := 3) nd rfl (Or.inl rfl)) (pgs_cons (pg_name (i := 1) nd rfl (Or.inl rfl)) pgs_nil))))
        (pss_one (ps_ret (pe_tup (pa_cons (pe_tup (pa_cons (pv 4) (pa_cons (pv 5) (pa_cons (pv 3) pa_nil)))) (pa_cons (pv 1) pa_nil))))))) pss_nil)))
    (pss_one (ps_ret (pe_call G4 h6 rfl D4.m D4.F.kp D4.b .nil pass0 (pa_cons (pv 0) (pa_cons (pv 1) pa_nil)))))))), ?_⟩
  have hz := at0.sz
  have opS : tl (Str.ofString "(") = [40] := by decide +kernel
  have noS : tl (Str.ofString "not ") = [110, 111, 116, 32] := by decide +kernel
  have coS : tl (Str.ofString ": ") = [58, 32] := by decide +kernel
  have coL : (Str.ofString ": ").length = 2 := by rw [len_tl, coS]; rfl
  have hql : ∀ e, (mkS (quT e)).length ≤ 1000 := fun e => by rw [len_mkS]; have := quT_len e; omega
  have blL : (Str.ofString " ").length = 1 := by rw [len_tl, blankS]; rfl
  refine st_seq (st_no (fun Q q => ⟨_, rfl, _, _, rfl, rfl, _, rfl, dF (by omega) q⟩) ?_)
  dsimp only [tNext]
  -- the tests that fail
  have no1 : (st.text ++ r).take 1 ≠ [40] → cutS z (some (i : Int)) (some ((i : Int) + 1)) ≠ Str.ofString "(" := fun h => At.cut_ne at0 (k := 1) rfl (by rw [opS]; exact h)
  have no4 : (st.text ++ r).take 4 ≠ [110, 111, 116, 32] → cutS z (some (i : Int)) (some ((i : Int) + 4)) ≠ Str.ofString "not " := fun h => At.cut_ne at0 (k := 4) rfl (by rw [noS]; exact h)
  have noq : ∀ e, (st.text ++ r).take ((quT e).length + 1) ≠ quT e ++ [32] → cutS z (some (i : Int)) (some ((i : Int) + ((mkS (quT e)).length : Int) + 1)) ≠ mkS (quT e) ++ Str.ofString " " := fun e h =>
    At.cut_ne at0 (k := (quT e).length + 1) (by rw [len_mkS]; omega) (by rw [qu_blank]; exact h)
  by_cases hpl : st.plain = true
  · have start := plain_start ok hpl r
    refine st_seq (st_no (fun Q q => ⟨_, rfl, _, rfl, _, rfl, _, rfl, _, _, rfl, rfl, _, rfl, z, rfl, sz hz, rfl, _, rfl, bE (str_no (no1 start.bracket)) q⟩) ?_)
    dsimp only [tNext]
    refine st_seq (st_no (fun Q q => ⟨_, rfl, _, rfl, _, rfl, _, rfl, _, _, rfl, rfl, _, rfl, z, rfl, sz hz, rfl, _, rfl, bE (str_no (no4 (start.word (v := [110, 111, 116]) (by decide)))) q⟩) ?_)
    refine ⟨two1000, fun T hT => ⟨T, rfl, ⟨_, SqT.of upd_same⟩, ?_⟩⟩
    refine for_tup (K := K) (a := T) (xs := [V.str (mkS (quT true)), V.str (mkS (quT false))])
      (fun n σ H' => ∃ wv, σ = [some (.str z), some (.int (i : Int)), some (.int (deep : Int)), none, wv, none] ∧ Same (upd H T (.tup [V.str (Str.ofString "some"), V.str (Str.ofString "all")])) H')
      ⟨none, rfl, Same.refl _⟩ (fun n σ H' _ ⟨_, _, s2⟩ => SqT.of (s2 _ _ (by rw [upd_same, quS1, quS0]))) ?_ ?_
    · rintro m y σ H' hx ⟨wv, rfl, s2⟩
      obtain ⟨e, rfl⟩ : ∃ e, y = V.str (mkS (quT e)) := by
        rcases qu_get hx with ⟨_, rfl⟩ | ⟨_, rfl⟩
        · exact ⟨true, rfl⟩
        · exact ⟨false, rfl⟩
      refine st_no (fun Q q => ⟨_, rfl, _, rfl, _, rfl, _, rfl, _, rfl, _, rfl, sz (hql e), _, _, rfl, rfl, _, _, rfl, rfl, _, rfl, z, rfl, sz hz, _, rfl, _, _, rfl, rfl, sz (by rw [blL, len_mkS]; have := quT_len e; omega), rfl, _, rfl,
        bE (str_no (noq e (start.word (quT_W5 e)))) q⟩) ?_
      exact ⟨_, rfl, s2⟩
    · rintro σ H' ⟨wv, rfl, s2⟩
      refine ⟨_, rfl, _, rfl, z, i, st, r, rfl, at0, ok, hpl, hfin, fun x t H1 s1 r1 e1 => ?_⟩
      exact q x t H1 ((Same.new hT).trans (s2.trans s1)) r1 e1
  cases st with
  | cmp _ _ _ => exact absurd rfl hpl
  | is _ _ _ => exact absurd rfl hpl
  | like _ _ _ _ => exact absurd rfl hpl
  | neg st =>
    have at1 : At z i (tl (Str.ofString "not ") ++ (st.text ++ r)) := by
      rw [noS]
      exact at0
    have noL : (Str.ofString "not ").length = 4 := by rw [len_tl, noS]; rfl
    have yes := At.cut_eq at1 (j := (i : Int) + 4) (by rw [noL]; rfl)
    have at2 : At z (i + 4) (st.text ++ r) := by
      have q := at1.app
      rw [noS] at q
      exact q
    refine st_seq (st_no (fun Q q => ⟨_, rfl, _, rfl, _, rfl, _, rfl, _, _, rfl, rfl, _, rfl, z, rfl, sz hz, rfl, _, rfl, bE (str_no (no1 (by simp [Stm.text]))) q⟩) ?_)
    dsimp only [tNext]
    refine st_seq (st_yes (fun Q q => ⟨_, rfl, _, rfl, _, rfl, _, rfl, _, _, rfl, rfl, _, rfl, z, rfl, sz hz, rfl, _, rfl, bE (str_yes yes) q⟩) ?_)
    have hdn : st.depth + 1 < n + 1 := hd
    have hdn2 : deep + (st.depth + 1) ≤ 20 := hd2
    refine ⟨_, rfl, _, rfl, _, _, rfl, rfl, _, rfl, _, _, rfl, rfl, z, i + 4, deep + 1, st, r, rfl, at2, ok, hfin, by omega, by omega, fun x t H1 s1 r1 e1 => ?_⟩
    refine ⟨t, _, rfl, SqT.of e1, rfl, _, _, rfl, _, _, rfl, rfl, ?_⟩
    dsimp only
    refine ⟨_, rfl, two1000, fun t4 ht4 => ⟨_, rfl, two1000, fun t5 ht5 => ?_⟩⟩
    refine q (.ref t4) t5 _ (s1.trans ((Same.new ht4).trans (Same.new ht5))) ?_ ?_
    · refine .new ((Same.new ht5) _ _ upd_same) ?_
      rw [show Str.ofString "not" = mkS notK by decide +kernel]
      exact .cons (.str _) (.cons (r1.keep ((Same.new ht4).trans (Same.new ht5)).tups) .nil)
    · rw [upd_same]
      have e6 : i + 4 + st.text.length = i + (Stm.neg st).text.length := by
        simp only [Stm.text, List.length_append, List.length_cons, List.length_nil]
        omega
      rw [e6]
  | two o a b =>
    have at1 : At z i (40 :: (a.text ++ (32 :: (twoT o ++ 32 :: (b.text ++ 41 :: r))))) := by
      have e : (Stm.two o a b).text ++ r = 40 :: (a.text ++ (32 :: (twoT o ++ 32 :: (b.text ++ 41 :: r)))) := by simp [Stm.text]
      rw [← e]
      exact at0
    have yes : cutS z (some (i : Int)) (some ((i : Int) + 1)) = Str.ofString "(" := by
      rw [At.cut1 at1 rfl]
      exact ext_tl opS.symm
    refine st_seq (st_yes (fun Q q => ⟨_, rfl, _, rfl, _, rfl, _, rfl, _, _, rfl, rfl, _, rfl, z, rfl, sz hz, rfl, _, rfl, bE (str_yes yes) q⟩) ?_)
    have hdn : max a.depth b.depth + 1 < n + 1 := hd
    have hdn2 : deep + (max a.depth b.depth + 1) ≤ 20 := hd2
    refine ⟨_, rfl, _, rfl, _, _, rfl, rfl, _, rfl, _, _, rfl, rfl, z, i + 1, deep + 1, o, a, b, r, rfl, at1.cons, ok.1, ok.2, by omega, by omega, by omega, by omega, fun x t H1 s1 r1 e1 => ?_⟩
    refine q x t H1 s1 r1 ?_
    rw [e1]
    have e6 : i + 1 + (a.text.length + (twoT o).length + b.text.length + 3) = i + (Stm.two o a b).text.length := by
      simp only [Stm.text, List.length_append, List.length_cons, List.length_nil]
      omega
    rw [e6]
  | qu e v st =>
    have at1 : At z i (tl (mkS (quT e ++ [32])) ++ (v ++ (58 :: 32 :: (st.text ++ r)))) := by
      have e : (Stm.qu e v st).text ++ r = tl (mkS (quT e ++ [32])) ++ (v ++ (58 :: 32 :: (st.text ++ r))) := by
        rw [tl_mkS]
        simp [Stm.text]
      rw [← e]
      exact at0
    have yes : cutS z (some (i : Int)) (some ((i : Int) + ((mkS (quT e)).length : Int) + 1)) = mkS (quT e) ++ Str.ofString " " := by
      rw [qu_blank]
      exact At.cut_eq at1 (by rw [len_mkS, len_mkS, List.length_append, List.length_singleton]; omega)
    have at2 : At z (i + (quT e).length + 1) (v ++ (58 :: 32 :: (st.text ++ r))) := by
      have q := at1.app
      rw [tl_mkS, List.length_append, List.length_singleton, ← Nat.add_assoc] at q
      exact q
    have at3 := at2.app
    have at4 : At z (i + (quT e).length + 1 + v.length + 2) (st.text ++ r) := at3.cons.cons
    have hdn : st.depth + 1 < n + 1 := hd
    have hdn2 : deep + (st.depth + 1) ≤ 20 := hd2
    refine st_seq (st_no (fun Q q => ⟨_, rfl, _, rfl, _, rfl, _, rfl, _, _, rfl, rfl, _, rfl, z, rfl, sz hz, rfl, _, rfl, bE (str_no (no1 (by cases e <;> simp [Stm.text, quT]))) q⟩) ?_)
    dsimp only [tNext]
    refine st_seq (st_no (fun Q q => ⟨_, rfl, _, rfl, _, rfl, _, rfl, _, _, rfl, rfl, _, rfl, z, rfl, sz hz, rfl, _, rfl, bE (str_no (no4 (by cases e <;> simp [Stm.text, quT]))) q⟩) ?_)
    refine ⟨two1000, fun T hT => ⟨T, rfl, ⟨_, SqT.of upd_same⟩, ?_⟩⟩
    refine for_tup (K := K) (a := T) (xs := [V.str (mkS (quT true)), V.str (mkS (quT false))])
      (fun n σ H' => (n = 0 ∨ (n = 1 ∧ e = false)) ∧ ∃ wv, σ = [some (.str z), some (.int (i : Int)), some (.int (deep : Int)), none, wv, none] ∧ Same (upd H T (.tup [V.str (Str.ofString "some"), V.str (Str.ofString "all")])) H')
      ⟨.inl rfl, none, rfl, Same.refl _⟩ (fun n σ H' _ ⟨_, _, _, s2⟩ => SqT.of (s2 _ _ (by rw [upd_same, quS1, quS0]))) ?_ (fun σ H' ⟨h, _⟩ => by
        have h' : 2 = 0 ∨ (2 = 1 ∧ e = false) := h
        omega)
    rintro m y σ H' hx ⟨hm, wv, rfl, s2⟩
    by_cases hit : y = .str (mkS (quT e))
    · subst hit
      refine st_yes (fun Q q => ⟨_, rfl, _, rfl, _, rfl, _, rfl, _, rfl, _, rfl, sz (hql e), _, _, rfl, rfl, _, _, rfl, rfl, _, rfl, z, rfl, sz hz, _, rfl, _, _, rfl, rfl, sz (by rw [blL, len_mkS]; have := quT_len e; omega), rfl, _, rfl, bE (str_yes yes) q⟩) ?_
      refine ⟨_, rfl, _, rfl, _, rfl, _, rfl, sz (hql e), _, _, rfl, rfl, _, _, rfl, rfl, z, i + (quT e).length + 1, v, _, rfl, at2, ok.1, .cons (sm_not (by omega)), fun t3 H3 s3 e3 => ?_⟩
      refine ⟨t3, _, rfl, SqT.of e3, rfl, _, _, rfl, _, _, rfl, rfl, ?_⟩
      dsimp only
      refine ⟨_, rfl, _, rfl, _, rfl, z, Str.ofString ": ", _, _, rfl, by rw [coS]; exact at3, ?_⟩
      rw [coL]
      refine ⟨_, rfl, _, _, rfl, rfl, z, _, deep + 1, st, r, rfl, at4, ok.2, hfin, by omega, by omega, fun x t H1 s1 r1 e1 => ?_⟩
      refine ⟨t, _, rfl, SqT.of e1, rfl, _, _, rfl, _, _, rfl, rfl, ?_⟩
      dsimp only
      refine ⟨_, rfl, _, rfl, _, rfl, by show 3 ≤ sizeLine; decide, fun t4 ht4 => ⟨_, rfl, two1000, fun t5 ht5 => ?_⟩⟩
      have s6 := (Same.new (o := .tup [.str (mkS (quT e)), .str (mkS v), x]) ht4).trans (Same.new (o := .tup [.ref t4, .int ((i + (quT e).length + 1 + v.length + 2 + st.text.length : Nat) : Int)]) ht5)
      refine q (.ref t4) t5 _ ((Same.new hT).trans (s2.trans (s3.trans (s1.trans s6)))) ?_ ?_
      · exact .new ((Same.new ht5) _ _ upd_same) (.cons (.str _) (.cons (.str _) (.cons (r1.keep s6.tups) .nil)))
      · rw [upd_same]
        have e6 : i + (quT e).length + 1 + v.length + 2 + st.text.length = i + (Stm.qu e v st).text.length := by
          simp only [Stm.text, List.length_append, List.length_cons, List.length_nil]
          omega
        rw [e6]
    · rcases qu_get hx with ⟨rfl, rfl⟩ | ⟨rfl, rfl⟩
      · have eo : e = false := by
          cases e with
          | false => rfl
          | true => exact absurd rfl hit
        subst eo
        refine st_no (fun Q q => ⟨_, rfl, _, rfl, _, rfl, _, rfl, _, rfl, _, rfl, sz (hql true), _, _, rfl, rfl, _, _, rfl, rfl, _, rfl, z, rfl, sz hz, _, rfl, _, _, rfl, rfl, sz (by rw [blL, len_mkS]; have := quT_len true; omega), rfl, _, rfl,
          bE (str_no (noq true (by simp [Stm.text, quT]))) q⟩) ?_
        exact ⟨.inr ⟨rfl, rfl⟩, _, rfl, s2⟩
      · exfalso
        rcases hm with h | ⟨_, h⟩
        · omega
        · exact hit (by rw [h])
theorem st_none {k : Nat} : FnOk P w K mg base CX0 k f fd ps3 (spSt K 0) := by
  have no : ∀ vs H Q E, ¬ spSt K 0 vs H Q E := fun vs H Q E ⟨_, _, _, _, _, _, _, _, _, h, _⟩ => absurd h (Nat.not_lt_zero _)
  exact ⟨fun vs H Q E h => absurd h (no vs H Q E), fun A outer s H args us vs Q E _ _ _ _ h => absurd h (no vs H Q E)⟩
theorem st_all (D : Def K mg "statement_at" sSt ps3 f fd) (X : Tx K mg) (D1 : Def K mg "two_at" sTwo ps3 f1 d1)
    (D2 : Def K mg "name_at" sName ["text", "at"] f2 d2) (G2 : FnOk P w K mg base CX0 2 f2 d2 ["text", "at"] spName)
    (D3 : Def K mg "past" sPast ["text", "at", "sign"] f3 d3) (G3 : FnOk P w K mg base CX0 1 f3 d3 ["text", "at", "sign"] spPast)
    (D4 : Def K mg "plain_at" sPlain ["text", "at"] f4 d4) (G4 : FnOk P w K mg base CX0 6 f4 d4 ["text", "at"] (spPlain K)) : ∀ n : Nat, FnOk P w K mg base CX0 (2 * n + 7) f fd ps3 (spSt K n)
  | 0 => st_none
  | n + 1 => by
    have ih := st_all D X D1 D2 G2 D3 G3 D4 G4 n
    exact ok_st D X ih D1 (ok_two D1 X D ih D3 G3) D2 G2 D3 G3 D4 G4
end

def spRead (K : PySem.W.Frag) : Sp := fun vs H Q _ => ∃ (z : Str) (s : Stm), vs = [.str z] ∧ tl z = s.text ∧ s.Ok ∧ s.depth ≤ 20 ∧ z.length ≤ 1000 ∧ ∀ (x : V) (H' : Hp), Same H H' → Rep K H' x s.dat → Q x H'
section
variable {P : Program} {w : World} {K : PySem.W.Frag} {mg : Str → Option Value} {base : Heap} {f f1 : Addr} {fd d1 : FuncData}
theorem scRead : FnScope ["text", "statement", "at"] ["text"] (defScope sRead) := ⟨rfl, rfl, rfl, by decide +kernel, rfl, by decide +kernel, by decide +kernel⟩
theorem ok_read (D : Def K mg "read" sRead ["text"] f fd) (X : Tx K mg) (D1 : Def K mg "statement_at" sSt ps3 f1 d1) (G1 : FnOk P w K mg base CX0 (2 * 21 + 7) f1 d1 ps3 (spSt K 21)) : FnOk P w K mg base CX0 50 f fd ["text"] (spRead K) := by
  obtain ⟨um, hm, rm⟩ := X.longest
  refine D.F.ok scRead (fun vs H Q E h => ?_) (fun cdv A outer s H vs Q E hr h => ?_)
  · obtain ⟨z, st, rfl, _⟩ := h
    rfl
  obtain ⟨z, st, rfl, et, ok, hd, hz, q⟩ := h
  have nd := scRead.nd
  refine ⟨_, pss_cons (ps_if (PW.pt (pw_or (pt_not (pt_val (pe_callB call_isi rfl X.isi (by decide +kernel) (pa_cons (pv 0) (pa_cons (pe_bltn (v := .ty "str") (u := .type "str") rfl X.str (by decide +kernel) rfl) pa_nil)))))
        (pw_or1 (pt_cmpR op_gt (pe_callB call_len_str rfl X.len PySem.boot_len (pa_cons (pv 0) pa_nil)) (pe_glob rfl hm rm) (nomark _))))) (pss_one ps_never) pss_nil)
    (pss_cons (ps_asg (pe_call G1 hr rfl D1.m D1.F.kp D1.b .nil pass0 (pa_cons (pv 0) (pa_cons pe_int (pa_cons pe_int pa_nil)))) (pg_tup rfl (pgs_cons (pg_name (i := 1) nd rfl (Or.inl rfl)) (pgs_cons (pg_name (i := 2) nd rfl (Or.inl rfl)) pgs_nil))))
    (pss_cons (ps_if (pt_cmpR op_ne (pv 2) (pe_callB call_len_str rfl X.len PySem.boot_len (pa_cons (pv 0) pa_nil)) (nomark _)) (pss_one ps_never) pss_nil)
    (pss_one (ps_ret (pv 1))))), ?_⟩
  refine st_seq (st_no (ans_or (ans_not (b := true) fun Q q => ⟨_, rfl, _, _, _, _, true, rfl, .ty "str", .base (.str _), kit_ty (by decide +kernel), _, rfl, q⟩) fun Q q => ⟨_, rfl, _, rfl, sz hz, _, _, rfl, rfl, _, rfl, dF (by omega) q⟩) ?_)
  have at0 : At z 0 (st.text ++ []) := by
    rw [List.append_nil, ← et]
    exact At.whole z hz
  refine ⟨_, rfl, z, 0, 0, st, [], rfl, at0, ok, .nil, by omega, by omega, fun x t H1 s1 r1 e1 => ?_⟩
  refine ⟨t, _, rfl, SqT.of e1, rfl, _, _, rfl, _, _, rfl, rfl, ?_⟩
  dsimp only
  have el : (0 + st.text.length : Nat) = z.length := by rw [len_tl, et]; omega
  refine st_seq (st_no (fun Q q => ⟨_, rfl, _, rfl, _, rfl, sz hz, rfl, _, rfl, bE (by rw [el, decide_eq_true (rfl : V.int ((z.length : Nat) : Int) = _)]; rfl) q⟩) ?_)
  exact ⟨_, rfl, q x H1 s1 r1⟩
end
end K53

/-! The texts: sum_shown, place_shown. -/
namespace K53
open PySem L2 TL

abbrev sSumS : Stmt := tp 24
abbrev sPlaceS : Stmt := tp 25
abbrev sShown : Stmt := tp 26
def spSumS (K : PySem.W.Frag) : Sp := fun vs H Q _ => ∃ (x : V) (ps : List Part), vs = [x] ∧ Rep K H x (sumD ps) ∧ SumOk ps ∧ ∀ H', Same H H' → Q (.str (mkS (sumT ps))) H'
def spPlaceS (K : PySem.W.Frag) : Sp := fun vs H Q _ => ∃ (w : List Nat) (x : V) (ps : List Part), vs = [.str (mkS w), x] ∧ Rep K H x (sumD ps) ∧ SumOk ps ∧ w.length ≤ 6 ∧ ∀ H', Same H H' → Q (.str (mkS (placeT w ps))) H'

theorem log_ok {n : Nat} (h : n ≤ 999999) : ((n : Nat) : Int).natAbs.log2 < 1920 := by
  rw [Int.natAbs_natCast]
  by_cases h0 : n = 0
  · rw [h0]
    decide
  · exact Nat.lt_of_lt_of_le ((Nat.log2_lt h0).mpr (show n < 2 ^ 20 by omega)) (by decide)
theorem strNum (n : Nat) : (Str.ofString (toString ((n : Nat) : Int))) = mkS (numL n) := ext_tl (tl_num n)
theorem join_sum : ∀ ps : List Part, joinL plus (ps.map Part.text) = sumT ps
  | [] => rfl
  | [p] => by
    show p.text = p.text ++ []
    rw [List.append_nil]
  | p :: q :: r => by
    have ih := join_sum (q :: r)
    show p.text ++ (plus ++ joinL plus ((q :: r).map Part.text)) = p.text ++ (plus ++ (q.text ++ tailT r))
    rw [ih]
    rfl
theorem plusS2 : tl (Str.ofString " + ") = plus := by decide +kernel
theorem join_is (ps : List Part) : Txt.join (Str.ofString " + ") (ps.map fun p => mkS p.text) = mkS (sumT ps) := by
  refine ext_tl ?_
  rw [join_eq, tl_join, plusS2, List.map_map, ← join_sum ps]
  rfl
theorem dat_tup {K : PySem.W.Frag} {H : Hp} {x : V} {ds : List T} (h : Rep K H x (.tup ds)) : ∃ a xs, x = .ref a ∧ SqT K H a xs ∧ Reps K H xs ds := by
  cases h with
  | tup h r => exact ⟨_, _, rfl, h, r⟩
theorem rep_int {K : PySem.W.Frag} {H : Hp} {x : V} {i : Int} (h : Rep K H x (.int i)) : x = .int i := by
  cases h
  rfl
theorem rep_str {K : PySem.W.Frag} {H : Hp} {x : V} {z : Str} (h : Rep K H x (.str z)) : x = .str z := by
  cases h
  rfl
theorem reps1 {K : PySem.W.Frag} {H : Hp} {vs : List V} {d : T} {ds : List T} (h : Reps K H vs (d :: ds)) : ∃ v r, vs = v :: r ∧ Rep K H v d ∧ Reps K H r ds := by
  cases h with
  | cons h r => exact ⟨_, _, rfl, h, r⟩
theorem reps0 {K : PySem.W.Frag} {H : Hp} {vs : List V} (h : Reps K H vs []) : vs = [] := by
  cases h
  rfl
/-- a part's pair -/
theorem part_rep {K : PySem.W.Frag} {H : Hp} {x : V} {p : Part} (h : Rep K H x p.dat) : ∃ a f z, x = .ref a ∧ SqT K H a [.int f, .str z] ∧ p.dat = .tup [.int f, .str z] := by
  have : ∃ f z, p.dat = .tup [.int f, .str z] := by
    cases p <;> exact ⟨_, _, rfl⟩
  obtain ⟨f, z, e⟩ := this
  rw [e] at h
  obtain ⟨a, xs, rfl, hs, r⟩ := dat_tup h
  obtain ⟨v1, r1, rfl, q1, r⟩ := reps1 r
  obtain ⟨v2, r2, rfl, q2, r⟩ := reps1 r
  rw [rep_int q1, rep_str q2, reps0 r] at hs
  exact ⟨a, f, z, rfl, hs, e⟩
section
variable {P : Program} {w : World} {K : PySem.W.Frag} {mg : Str → Option Value} {base : Heap} {f f1 : Addr} {fd d1 : FuncData}
theorem scSumS : FnScope ["parts", "texts", "factor", "name"] ["parts"] (defScope sSumS) := ⟨rfl, rfl, rfl, by decide +kernel, rfl, by decide +kernel, by decide +kernel⟩
theorem ok_sums (D : Def K mg "sum_shown" sSumS ["parts"] f fd) (X : Tx K mg) : FnOk P w K mg base CX0 1 f fd ["parts"] (spSumS K) := by
  refine D.F.ok scSumS (fun vs H Q E h => ?_) (fun cdv A outer s H vs Q E hr h => ?_)
  · obtain ⟨x, ps, rfl, _⟩ := h
    rfl
  obtain ⟨x, ps, rfl, hx, ok, q⟩ := h
  have nd := scSumS.nd
  refine ⟨_, pss_cons (ps_set (i := 1) nd rfl (Or.inl rfl) (pe_lst pa_nil))
    (pss_cons (ps_for PassesOwn.never rfl (pi_tup (pv 0)) (pg_tup rfl (pgs_cons (pg_name (i := 2) nd rfl (Or.inl rfl)) (pgs_cons (pg_name (i := 3) nd rfl (Or.inl rfl)) pgs_nil)))
      (pss_one (ps_if (pt_cmpR op_eq (pv 3) pe_str (nomark _))
        (pss_one (ps_expr (pe_bm PySem.F.plainAttrs_list PySem.F.slot_list_append PySem.F.type_list_append mt_append (pv 1) (pa_cons (pe_callTy call_str_int rfl X.str (by decide +kernel) (pa_cons (pv 2) pa_nil)) pa_nil))))
        (pss_one (ps_if (pt_cmpR op_eq (pv 2) pe_int (nomark _))
          (pss_one (ps_expr (pe_bm PySem.F.plainAttrs_list PySem.F.slot_list_append PySem.F.type_list_append mt_append (pv 1) (pa_cons (pv 3) pa_nil))))
          (pss_one (ps_expr (pe_bm PySem.F.plainAttrs_list PySem.F.slot_list_append PySem.F.type_list_append mt_append (pv 1)
            (pa_cons (pe_joined (.cons (pe_fmt (pv 2)) (.cons pe_str (.cons (pe_fmt (pv 3)) .nil)))) pa_nil)))))))))
    (pss_one (ps_ret (pe_join pe_str (pv 1))))), ?_⟩
  obtain ⟨a, xs, rfl, hs, hr1⟩ := dat_tup hx
  have hl8 := ok.hi
  have hxl : xs.length = ps.length := by rw [hr1.length, List.length_map]
  refine ⟨Nat.zero_le _, fun l hl => ?_⟩
  refine ⟨_, rfl, a, rfl, ⟨_, (Same.new hl).sqt hs⟩, ?_⟩
  refine for_tup (K := K) (a := a) (xs := xs)
    (fun n σ H' => ∃ o1 o2, σ = [some (.ref a), some (.ref l), o1, o2] ∧ H' l = some (.lst ((ps.take n).map fun p => V.str (mkS p.text))) ∧ Same H H')
    ⟨none, none, rfl, upd_same, Same.new hl⟩ (fun n σ H' _ ⟨_, _, _, _, s2⟩ => s2.sqt hs) ?_ ?_
  · rintro n y σ H' hy ⟨o1, o2, rfl, el, s2⟩
    obtain ⟨d, hd, ry⟩ := hr1.get hy
    have hn : n < ps.length := by
      have := (List.getElem?_eq_some_iff.mp hy).1
      omega
    have ed : d = ps[n].dat := by
      rw [List.getElem?_map, List.getElem?_eq_getElem hn] at hd
      exact (Option.some.inj hd).symm
    subst ed
    have okp := ok.ok _ (List.getElem_mem hn)
    have more : (ps.take (n + 1)).map (fun p => V.str (mkS p.text)) = (ps.take n).map (fun p => V.str (mkS p.text)) ++ [V.str (mkS ps[n].text)] := by
      rw [List.take_succ_eq_append_getElem hn, List.map_append]
      rfl
    obtain ⟨b, ff, z, rfl, hb, eb⟩ := part_rep ry
    generalize ps[n] = p at okp more eb
    have hlen : ((ps.take n).map fun p => V.str (mkS p.text)).length < sizeLine := by
      rw [List.length_map, List.length_take]
      exact small1000 (by omega)
    refine ⟨b, _, rfl, s2.sqt hb, rfl, _, _, rfl, _, _, rfl, rfl, ?_⟩
    cases p with
    | num k =>
      injection eb with eb
      injection eb with e1 eb
      injection eb with e2 eb
      injection e1 with e1
      injection e2 with e2
      subst e1 e2
      refine st_yes (fun Q q => ⟨_, rfl, rfl, _, rfl, bE (str_yes (by decide +kernel)) q⟩) ?_
      refine ⟨_, rfl, .inl ⟨rfl, _, SqL.of el⟩, _, rfl, _, rfl, log_ok okp, l, _, _, rfl, rfl, el, hlen, ?_⟩
      refine ⟨_, _, rfl, ?_, s2.mut hl⟩
      rw [upd_same, more, strNum]
      rfl
    | nam k v =>
      injection eb with eb
      injection eb with e1 eb
      injection eb with e2 eb
      injection e1 with e1
      injection e2 with e2
      subst e1 e2
      obtain ⟨k1, k2, hv⟩ := okp
      have vne : mkS v ≠ Str.ofString "" := fun e => hv.ne ((congrArg tl e).trans (by decide +kernel))
      refine st_no (fun Q q => ⟨_, rfl, rfl, _, rfl, bE (str_no vne) q⟩) ?_
      by_cases hk : k = 1
      · subst hk
        refine st_yes (fun Q q => ⟨_, rfl, rfl, _, rfl, bE (decide_eq_true rfl) q⟩) ?_
        refine ⟨_, rfl, .inl ⟨rfl, _, SqL.of el⟩, _, rfl, l, _, _, rfl, rfl, el, hlen, ?_⟩
        refine ⟨_, _, rfl, ?_, s2.mut hl⟩
        rw [upd_same, more]
        rfl
      · have et : (Part.nam k v).text = numL k ++ 42 :: v := if_neg hk
        have h6 := hv.hi
        have hk2 := num_len2 k2
        have c0 : tl (Str.empty ++ Str.ofString (toString ((k : Nat) : Int))) = numL k := by
          rw [tl_append, strNum]
          rfl
        have c1 : tl (Str.empty ++ Str.ofString (toString ((k : Nat) : Int)) ++ Str.ofString "*") = numL k ++ [42] := by
          rw [tl_append, c0]
          rw [show tl (Str.ofString "*") = [42] by decide +kernel]
        have c2 : tl (Str.empty ++ Str.ofString (toString ((k : Nat) : Int)) ++ Str.ofString "*" ++ mkS v) = numL k ++ 42 :: v := by
          rw [tl_append, c1, tl_mkS, List.append_assoc]
          rfl
        refine st_no (fun Q q => ⟨_, rfl, rfl, _, rfl, bE (int_no (by omega)) q⟩) ?_
        refine ⟨_, rfl, .inl ⟨rfl, _, SqL.of el⟩, _, rfl, .inr ⟨_, rfl, log_ok (by omega), _, rfl, sz (by rw [len_tl, c0]; omega), _, rfl, sz (by rw [len_tl, c1, List.length_append, List.length_singleton]; omega), _, rfl,
          .inl ⟨_, rfl, sz (by rw [len_mkS]; omega), _, rfl, sz (by rw [len_tl, c2, List.length_append, List.length_cons]; omega), l, _, _, rfl, rfl, el, hlen, ?_⟩⟩⟩
        refine ⟨_, _, rfl, ?_, s2.mut hl⟩
        rw [upd_same, more, et, show mkS (numL k ++ 42 :: v) = _ from ext_tl c2.symm]
  · rintro σ H' ⟨o1, o2, rfl, el, s2⟩
    rw [hxl, List.take_length] at el
    have el2 : H' l = some (.lst ((ps.map fun p => mkS p.text).map V.str)) := by
      rw [el, List.map_map]
      rfl
    have small : ∀ ps : List Part, (∀ p ∈ ps, p.Ok) → ((ps.map fun p => mkS p.text).map (·.length)).sum ≤ 9 * ps.length := by
      intro ps
      induction ps with
      | nil => intro _; exact Nat.le_refl _
      | cons p r ih =>
        intro h
        have a := part_len (h p (List.mem_cons_self ..))
        have b := ih fun q hq => h q (List.mem_cons_of_mem _ hq)
        rw [List.map_cons, List.map_cons, List.sum_cons, List.length_cons, len_mkS]
        omega
    refine ⟨⟨_, rfl⟩, _, rfl, _, l, ps.map fun p => mkS p.text, rfl, rfl, .inl (SqL.of el2), ?_, ?_⟩
    · have a := small ps ok.ok
      have b : (Str.ofString " + ").length = 3 := by rw [len_tl, plusS2]; rfl
      rw [List.length_map, b]
      omega
    · rw [join_is]
      exact q H' s2
theorem scPlaceS : FnScope ["row", "parts"] ["row", "parts"] (defScope sPlaceS) := ⟨rfl, rfl, rfl, by decide +kernel, rfl, by decide +kernel, by decide +kernel⟩
theorem ok_places (D : Def K mg "place_shown" sPlaceS ["row", "parts"] f fd) (X : Tx K mg) (D1 : Def K mg "sum_shown" sSumS ["parts"] f1 d1) (G1 : FnOk P w K mg base CX0 1 f1 d1 ["parts"] (spSumS K)) : FnOk P w K mg base CX0 2 f fd ["row", "parts"] (spPlaceS K) := by
  refine D.F.ok scPlaceS (fun vs H Q E h => ?_) (fun cdv A outer s H vs Q E hr h => ?_)
  · obtain ⟨w, x, ps, rfl, _⟩ := h
    rfl
  obtain ⟨w, x, ps, rfl, hx, ok, h6, q⟩ := h
  refine ⟨_, pss_one (ps_ret (pe_op op_add_str (pe_op op_add_str (pe_op op_add_str (pv 0) pe_str) (pe_call G1 hr rfl D1.m D1.F.kp D1.b .nil pass0 (pa_cons (pv 1) pa_nil))) pe_str)), ?_⟩
  have h93 := sum_len ok
  have bS : tl (Str.ofString "[") = [91] := by decide +kernel
  have eS : tl (Str.ofString "]") = [93] := by decide +kernel
  have bL : (Str.ofString "[").length = 1 := by rw [len_tl, bS]; rfl
  have eL : (Str.ofString "]").length = 1 := by rw [len_tl, eS]; rfl
  have c1 : (mkS w ++ Str.ofString "[").length = w.length + 1 := by rw [len_tl, tl_append, bS, List.length_append]; rfl
  have c2 : (mkS w ++ Str.ofString "[" ++ mkS (sumT ps)).length = w.length + 1 + (sumT ps).length := by rw [len_tl, tl_append, List.length_append, ← len_tl, c1]; rfl
  refine ⟨_, rfl, _, _, rfl, rfl, sz (by rw [len_mkS, bL]; omega), _, rfl, x, ps, rfl, hx, ok, fun H1 s1 => ?_⟩
  refine ⟨_, _, rfl, rfl, sz (by rw [c1, len_mkS]; omega), _, _, rfl, rfl, sz (by rw [c2, eL]; omega), ?_⟩
  have e : mkS w ++ Str.ofString "[" ++ mkS (sumT ps) ++ Str.ofString "]" = mkS (placeT w ps) := by
    refine ext_tl ?_
    rw [tl_append, tl_append, tl_append, bS, eS, tl_mkS, tl_mkS, tl_mkS]
    unfold placeT
    simp
  show Q (.str (mkS w ++ Str.ofString "[" ++ mkS (sumT ps) ++ Str.ofString "]")) H1
  rw [e]
  exact q H1 s1
end
end K53

/-! The texts: shown. -/
namespace K53
open PySem L2 TL

def spShown (K : PySem.W.Frag) (n : Nat) : Sp := fun vs H Q _ => ∃ (x : V) (s : Stm), vs = [x] ∧ Rep K H x s.dat ∧ s.Ok ∧ s.depth < n ∧ s.text.length ≤ 1000 ∧ ∀ H', Same H H' → Q (.str (mkS s.text)) H'

theorem in2_no {kd a b : List Nat} {sa sb : Str} (ea : sa = mkS a) (eb : sb = mkS b) (h1 : kd ≠ a) (h2 : kd ≠ b) : inV (V.str (mkS kd)) [V.str sa, V.str sb] = false := by
  subst ea eb
  show ((mkS a == mkS kd) || ((mkS b == mkS kd) || false)) = false
  rw [beq_eq_false_iff_ne.mpr fun e => h1 (mkS_inj e).symm, beq_eq_false_iff_ne.mpr fun e => h2 (mkS_inj e).symm]
  rfl
theorem in2_yes {kd a b : List Nat} {sa sb : Str} (ea : sa = mkS a) (eb : sb = mkS b) (h : kd = a ∨ kd = b) : inV (V.str (mkS kd)) [V.str sa, V.str sb] = true := by
  subst ea eb
  show ((mkS a == mkS kd) || ((mkS b == mkS kd) || false)) = true
  rcases h with e | e
  · rw [beq_iff_eq.mpr (by rw [e])]
    rfl
  · rw [Bool.or_eq_true]
    refine .inr ?_
    rw [beq_iff_eq.mpr (by rw [e])]
    rfl
theorem wAnd : Str.ofString "and" = mkS (twoT true) := by decide +kernel
theorem wOr : Str.ofString "or" = mkS (twoT false) := by decide +kernel
theorem wSome : Str.ofString "some" = mkS (quT true) := by decide +kernel
theorem wAll : Str.ofString "all" = mkS (quT false) := by decide +kernel
theorem wNot : Str.ofString "not" = mkS notK := by decide +kernel
theorem wIs : Str.ofString "is" = mkS isK := by decide +kernel
theorem wLike : Str.ofString "like" = mkS likeK := by decide +kernel
theorem mk_ne {a b : List Nat} {z : Str} (e : z = mkS b) (h : a ≠ b) : mkS a ≠ z := fun q => h (mkS_inj (q.trans e))
theorem cmp_cases {k : Nat} (h : k ≤ 2) : cmpT k = [61] ∨ cmpT k = [60, 61] ∨ cmpT k = [60] := by
  match k, h with
  | 0, _ => exact .inl rfl
  | 1, _ => exact .inr (.inl rfl)
  | 2, _ => exact .inr (.inr rfl)
theorem cmp_ne {k : Nat} {v : List Nat} (h : v.head? ≠ some 61) (h2 : v.head? ≠ some 60) : cmpT k ≠ v := by
  intro e
  have e2 := congrArg List.head? e
  unfold cmpT at e2
  split at e2
  · exact h e2.symm
  · exact h2 e2.symm
  · exact h2 e2.symm
theorem add_mk (a : List Nat) {z : Str} {b : List Nat} (e : tl z = b) : mkS a ++ z = mkS (a ++ b) := ext_tl (by rw [tl_append, e]; rfl)
theorem add_kk (a b : List Nat) : mkS a ++ mkS b = mkS (a ++ b) := ext_tl (tl_append _ _)
section
variable {P : Program} {w : World} {K : PySem.W.Frag} {mg : Str → Option Value} {base : Heap} {f f1 f2 : Addr} {fd d1 d2 : FuncData}
theorem scShown : FnScope ["statement", "kind"] ["statement"] (defScope sShown) := ⟨rfl, rfl, rfl, by decide +kernel, rfl, by decide +kernel, by decide +kernel⟩
theorem ok_shown {n : Nat} (D : Def K mg "shown" sShown ["statement"] f fd) (X : Tx K mg) (GS : FnOk P w K mg base CX0 (n + 2) f fd ["statement"] (spShown K n))
    (D1 : Def K mg "sum_shown" sSumS ["parts"] f1 d1) (G1 : FnOk P w K mg base CX0 1 f1 d1 ["parts"] (spSumS K)) (D2 : Def K mg "place_shown" sPlaceS ["row", "parts"] f2 d2) (G2 : FnOk P w K mg base CX0 2 f2 d2 ["row", "parts"] (spPlaceS K)) :
    FnOk P w K mg base CX0 (n + 1 + 2) f fd ["statement"] (spShown K (n + 1)) := by
  refine D.F.ok scShown (fun vs H Q E h => ?_) (fun cdv A outer s H vs Q E hr h => ?_)
  · obtain ⟨x, st, rfl, _⟩ := h
    rfl
  obtain ⟨x, st, rfl, hx, ok, hd, hlen, q⟩ := h
  have h1 : Room 1 _ := hr.mono (by omega)
  have h2 : Room 2 _ := hr.mono (by omega)
  have hS : Room (n + 2) _ := hr.mono (by omega)
  have nd := scShown.nd
  refine ⟨_, pss_cons (ps_set (i := 1) nd rfl (Or.inl rfl) (pe_ix ix_tup (pv 0) pe_int (fun _ _ => rfl)))
    (pss_cons (ps_if (pt_cmpR op_in_seq (pv 1) (pe_tup (pa_cons pe_str (pa_cons pe_str pa_nil))) (by rfl))
      (pss_one (ps_ret (pe_op op_add_str (pe_op op_add_str (pe_op op_add_str (pe_op op_add_str (pe_op op_add_str (pe_op op_add_str pe_str
        (pe_call GS hS rfl D.m D.F.kp D.b .nil pass0 (pa_cons (pe_ix ix_tup (pv 0) pe_int (fun _ _ => rfl)) pa_nil))) pe_str) (pv 1)) pe_str)
        (pe_call GS hS rfl D.m D.F.kp D.b .nil pass0 (pa_cons (pe_ix ix_tup (pv 0) pe_int (fun _ _ => rfl)) pa_nil))) pe_str))) pss_nil)
    (pss_cons (ps_if (pt_cmpR op_eq (pv 1) pe_str (nomark _)) (pss_one (ps_ret (pe_op op_add_str pe_str (pe_call GS hS rfl D.m D.F.kp D.b .nil pass0 (pa_cons (pe_ix ix_tup (pv 0) pe_int (fun _ _ => rfl)) pa_nil))))) pss_nil)
    (pss_cons (ps_if (pt_cmpR op_in_seq (pv 1) (pe_tup (pa_cons pe_str (pa_cons pe_str pa_nil))) (by rfl))
      (pss_one (ps_ret (pe_op op_add_str (pe_op op_add_str (pe_op op_add_str (pe_op op_add_str (pv 1) pe_str) (pe_ix ix_tup (pv 0) pe_int (fun _ _ => rfl))) pe_str)
        (pe_call GS hS rfl D.m D.F.kp D.b .nil pass0 (pa_cons (pe_ix ix_tup (pv 0) pe_int (fun _ _ => rfl)) pa_nil))))) pss_nil)
    (pss_cons (ps_if (pt_cmpR op_eq (pv 1) pe_str (nomark _)) (pss_one (ps_ret (pe_op op_add_str (pe_op op_add_str
        (pe_call G2 h2 rfl D2.m D2.F.kp D2.b .nil pass0 (pa_cons (pe_ix ix_tup (pv 0) pe_int (fun _ _ => rfl)) (pa_cons (pe_ix ix_tup (pv 0) pe_int (fun _ _ => rfl)) pa_nil))) pe_str)
        (pe_callTy call_str_int rfl X.str (by decide +kernel) (pa_cons (pe_ix ix_tup (pv 0) pe_int (fun _ _ => rfl)) pa_nil))))) pss_nil)
    (pss_cons (ps_if (pt_cmpR op_eq (pv 1) pe_str (nomark _)) (pss_one (ps_ret (pe_op op_add_str (pe_op op_add_str
        (pe_call G2 h2 rfl D2.m D2.F.kp D2.b .nil pass0 (pa_cons (pe_ix ix_tup (pv 0) pe_int (fun _ _ => rfl)) (pa_cons (pe_ix ix_tup (pv 0) pe_int (fun _ _ => rfl)) pa_nil))) pe_str)
        (pe_call G2 h2 rfl D2.m D2.F.kp D2.b .nil pass0 (pa_cons (pe_ix ix_tup (pv 0) pe_int (fun _ _ => rfl)) (pa_cons (pe_ix ix_tup (pv 0) pe_int (fun _ _ => rfl)) pa_nil)))))) pss_nil)
    (pss_one (ps_ret (pe_op op_add_str (pe_op op_add_str (pe_op op_add_str (pe_op op_add_str (pe_call G1 h1 rfl D1.m D1.F.kp D1.b .nil pass0 (pa_cons (pe_ix ix_tup (pv 0) pe_int (fun _ _ => rfl)) pa_nil)) pe_str) (pv 1)) pe_str)
        (pe_call G1 h1 rfl D1.m D1.F.kp D1.b .nil pass0 (pa_cons (pe_ix ix_tup (pv 0) pe_int (fun _ _ => rfl)) pa_nil)))))))))), ?_⟩
  have blank : tl (Str.ofString " ") = [32] := by decide +kernel
  have opS : tl (Str.ofString "(") = [40] := by decide +kernel
  have clS : tl (Str.ofString ")") = [41] := by decide +kernel
  have noS : tl (Str.ofString "not ") = [110, 111, 116, 32] := by decide +kernel
  have coS : tl (Str.ofString ": ") = [58, 32] := by decide +kernel
  have isS : tl (Str.ofString " = ") = isT := by decide +kernel
  have mk : ∀ {z : Str} {v : List Nat}, tl z = v → z = mkS v := fun h => ext_tl h
  rw [mk blank, mk opS, mk clS, mk noS, mk coS, mk isS]
  have lenk : ∀ (a b : List Nat), a.length + b.length ≤ 1000 → (mkS a).length + (mkS b).length ≤ sizeLine := fun a b h => by rw [len_mkS, len_mkS]; exact sz h
  cases st with
  | two o a b =>
    obtain ⟨p, xs, rfl, hs, r0⟩ := dat_tup hx
    obtain ⟨v0, xs, rfl, q0, r0⟩ := reps1 r0
    obtain ⟨v1, xs, rfl, q1, r0⟩ := reps1 r0
    obtain ⟨v2, xs, rfl, q2, r0⟩ := reps1 r0
    rw [rep_str q0, reps0 r0] at hs
    have hdn : max a.depth b.depth + 1 < n + 1 := hd
    have hl : a.text.length + b.text.length + (twoT o).length + 4 ≤ 1000 := by
      have e : (Stm.two o a b).text.length = a.text.length + b.text.length + (twoT o).length + 4 := by
        simp only [Stm.text, List.length_append, List.length_cons, List.length_nil]
        omega
      omega
    refine ⟨_, rfl, p, _, _, _, rfl, rfl, hs, atI_nat rfl, ?_⟩
    dsimp only [gName]
    refine st_seq ?_
    refine ⟨_, rfl, two1000, fun T1 g1 => ⟨T1, _, rfl, .inr (SqT.of upd_same), rfl, by decide, _, rfl, ifT (in2_yes wAnd wOr (by cases o <;> simp)) ?_⟩⟩
    have s1 : Same H (upd H T1 (.tup [V.str (Str.ofString "and"), V.str (Str.ofString "or")])) := Same.new g1
    refine ⟨_, rfl, p, _, _, _, rfl, rfl, s1.sqt hs, atI_nat rfl, v1, a, rfl, q1.keep s1.tups, ok.1, by omega, by omega, fun H2 s2 => ?_⟩
    refine ⟨_, _, rfl, rfl, lenk _ _ (by simp only [List.length_cons, List.length_nil]; omega), _, _, rfl, rfl, ?_, ?_⟩
    · rw [add_kk]
      exact lenk _ _ (by simp only [List.length_append, List.length_cons, List.length_nil]; omega)
    refine ⟨_, rfl, _, _, rfl, rfl, ?_, _, _, rfl, rfl, ?_, ?_⟩
    · rw [add_kk, add_kk]
      exact lenk _ _ (by simp only [List.length_append, List.length_cons, List.length_nil]; omega)
    · rw [add_kk, add_kk, add_kk]
      exact lenk _ _ (by simp only [List.length_append, List.length_cons, List.length_nil]; omega)
    refine ⟨_, rfl, p, _, _, _, rfl, rfl, (s1.trans s2).sqt hs, atI_nat rfl, v2, b, rfl, q2.keep (s1.trans s2).tups, ok.2, by omega, by omega, fun H3 s3 => ?_⟩
    refine ⟨_, _, rfl, rfl, ?_, _, _, rfl, rfl, ?_, ?_⟩
    · rw [add_kk, add_kk, add_kk, add_kk]
      exact lenk _ _ (by simp only [List.length_append, List.length_cons, List.length_nil]; omega)
    · rw [add_kk, add_kk, add_kk, add_kk, add_kk]
      exact lenk _ _ (by simp only [List.length_append, List.length_cons, List.length_nil]; omega)
    rw [add_kk, add_kk, add_kk, add_kk, add_kk, add_kk]
    have e : [40] ++ a.text ++ [32] ++ twoT o ++ [32] ++ b.text ++ [41] = (Stm.two o a b).text := by simp [Stm.text]
    rw [e]
    exact q H3 (s1.trans (s2.trans s3))
  | neg a =>
    obtain ⟨p, xs, rfl, hs, r0⟩ := dat_tup hx
    obtain ⟨v0, xs, rfl, q0, r0⟩ := reps1 r0
    obtain ⟨v1, xs, rfl, q1, r0⟩ := reps1 r0
    rw [rep_str q0, reps0 r0] at hs
    have hdn : a.depth + 1 < n + 1 := hd
    have hl : a.text.length + 4 ≤ 1000 := by
      have e : (Stm.neg a).text.length = a.text.length + 4 := by
        simp only [Stm.text, List.length_append, List.length_cons, List.length_nil]
        omega
      omega
    refine ⟨_, rfl, p, _, _, _, rfl, rfl, hs, atI_nat rfl, ?_⟩
    dsimp only [gName]
    refine st_seq ?_
    refine ⟨_, rfl, two1000, fun T1 g1 => ⟨T1, _, rfl, .inr (SqT.of upd_same), rfl, by decide, _, rfl, ifF (in2_no wAnd wOr (by decide) (by decide)) ?_⟩⟩
    have s1 : Same H (upd H T1 (.tup [V.str (Str.ofString "and"), V.str (Str.ofString "or")])) := Same.new g1
    dsimp only [tNext]
    refine st_seq (st_yes (fun Q q => ⟨_, rfl, rfl, _, rfl, bE (str_yes wNot.symm) q⟩) ?_)
    refine ⟨_, rfl, p, _, _, _, rfl, rfl, s1.sqt hs, atI_nat rfl, v1, a, rfl, q1.keep s1.tups, ok, by omega, by omega, fun H2 s2 => ?_⟩
    refine ⟨_, _, rfl, rfl, lenk _ _ (by simp only [List.length_cons, List.length_nil]; omega), ?_⟩
    rw [add_kk]
    exact q H2 (s1.trans s2)
  | qu e v a =>
    obtain ⟨p, xs, rfl, hs, r0⟩ := dat_tup hx
    obtain ⟨v0, xs, rfl, q0, r0⟩ := reps1 r0
    obtain ⟨v1, xs, rfl, q1, r0⟩ := reps1 r0
    obtain ⟨v2, xs, rfl, q2, r0⟩ := reps1 r0
    rw [rep_str q0, rep_str q1, reps0 r0] at hs
    have hdn : a.depth + 1 < n + 1 := hd
    have hl : a.text.length + (quT e).length + v.length + 3 ≤ 1000 := by
      have e : (Stm.qu e v a).text.length = a.text.length + (quT e).length + v.length + 3 := by
        simp only [Stm.text, List.length_append, List.length_cons, List.length_nil]
        omega
      omega
    refine ⟨_, rfl, p, _, _, _, rfl, rfl, hs, atI_nat rfl, ?_⟩
    dsimp only [gName]
    refine st_seq ?_
    refine ⟨_, rfl, two1000, fun T1 g1 => ⟨T1, _, rfl, .inr (SqT.of upd_same), rfl, by decide, _, rfl, ifF (in2_no wAnd wOr (by cases e <;> decide) (by cases e <;> decide)) ?_⟩⟩
    have s1 : Same H (upd H T1 (.tup [V.str (Str.ofString "and"), V.str (Str.ofString "or")])) := Same.new g1
    dsimp only [tNext]
    refine st_seq (st_no (fun Q q => ⟨_, rfl, rfl, _, rfl, bE (str_no (mk_ne wNot (by cases e <;> decide))) q⟩) ?_)
    dsimp only [tNext]
    refine st_seq ?_
    refine ⟨_, rfl, two1000, fun T2 g2 => ⟨T2, _, rfl, .inr (SqT.of upd_same), rfl, by decide, _, rfl, ifT (in2_yes wSome wAll (by cases e <;> simp)) ?_⟩⟩
    have s2 := s1.trans (Same.new (o := .tup [V.str (Str.ofString "some"), V.str (Str.ofString "all")]) g2)
    refine ⟨_, rfl, _, _, rfl, rfl, lenk _ _ (by simp only [List.length_cons, List.length_nil]; omega), ?_⟩
    refine ⟨_, rfl, p, _, _, _, rfl, rfl, s2.sqt hs, atI_nat rfl, ?_⟩
    rw [add_kk]
    refine ⟨_, _, rfl, rfl, ?_, ?_⟩
    · exact lenk _ _ (by simp only [List.length_append, List.length_cons, List.length_nil]; omega)
    rw [add_kk]
    refine ⟨_, _, rfl, rfl, ?_, ?_⟩
    · exact lenk _ _ (by simp only [List.length_append, List.length_cons, List.length_nil]; omega)
    rw [add_kk]
    refine ⟨_, rfl, p, _, _, _, rfl, rfl, s2.sqt hs, atI_nat rfl, v2, a, rfl, q2.keep s2.tups, ok.2, by omega, by omega, fun H3 s3 => ?_⟩
    refine ⟨_, _, rfl, rfl, ?_, ?_⟩
    · exact lenk _ _ (by simp only [List.length_append, List.length_cons, List.length_nil]; omega)
    rw [add_kk]
    have e : quT e ++ [32] ++ v ++ [58, 32] ++ a.text = (Stm.qu e v a).text := by simp [Stm.text]
    rw [e]
    exact q H3 (s2.trans s3)
  | is v a k =>
    obtain ⟨p, xs, rfl, hs, r0⟩ := dat_tup hx
    obtain ⟨v0, xs, rfl, q0, r0⟩ := reps1 r0
    obtain ⟨v1, xs, rfl, q1, r0⟩ := reps1 r0
    obtain ⟨v2, xs, rfl, q2, r0⟩ := reps1 r0
    obtain ⟨v3, xs, rfl, q3, r0⟩ := reps1 r0
    rw [rep_str q0, rep_str q1, rep_int q3, reps0 r0] at hs
    have hl : (placeT v a).length + 3 + (numL k).length ≤ 1000 := by
      have e : (Stm.is v a k).text.length = (placeT v a).length + 3 + (numL k).length := by
        simp only [Stm.text, isT, List.length_append, List.length_cons, List.length_nil]
        omega
      omega
    refine ⟨_, rfl, p, _, _, _, rfl, rfl, hs, atI_nat rfl, ?_⟩
    dsimp only [gName]
    refine st_seq ?_
    refine ⟨_, rfl, two1000, fun T1 g1 => ⟨T1, _, rfl, .inr (SqT.of upd_same), rfl, by decide, _, rfl, ifF (in2_no wAnd wOr (by decide) (by decide)) ?_⟩⟩
    have s1 : Same H (upd H T1 (.tup [V.str (Str.ofString "and"), V.str (Str.ofString "or")])) := Same.new g1
    dsimp only [tNext]
    refine st_seq (st_no (fun Q q => ⟨_, rfl, rfl, _, rfl, bE (str_no (mk_ne wNot (by decide))) q⟩) ?_)
    dsimp only [tNext]
    refine st_seq ?_
    refine ⟨_, rfl, two1000, fun T2 g2 => ⟨T2, _, rfl, .inr (SqT.of upd_same), rfl, by decide, _, rfl, ifF (in2_no wSome wAll (by decide) (by decide)) ?_⟩⟩
    have s2 := s1.trans (Same.new (o := .tup [V.str (Str.ofString "some"), V.str (Str.ofString "all")]) g2)
    dsimp only [tNext]
    refine st_seq (st_yes (fun Q q => ⟨_, rfl, rfl, _, rfl, bE (str_yes wIs.symm) q⟩) ?_)
    refine ⟨_, rfl, p, _, _, _, rfl, rfl, s2.sqt hs, atI_nat rfl, _, rfl, p, _, _, _, rfl, rfl, s2.sqt hs, atI_nat rfl, v, v2, a, rfl, q2.keep s2.tups, ok.2.1, ok.1.hi, fun H3 s3 => ?_⟩
    refine ⟨_, _, rfl, rfl, lenk _ _ (by unfold isT; simp only [List.length_cons, List.length_nil]; omega), ?_⟩
    rw [add_kk]
    refine ⟨_, rfl, p, _, _, _, rfl, rfl, (s2.trans s3).sqt hs, atI_nat rfl, _, rfl, log_ok ok.2.2, ?_⟩
    rw [strNum]
    refine ⟨_, _, rfl, rfl, ?_, ?_⟩
    · exact lenk _ _ (by unfold isT; simp only [List.length_append, List.length_cons, List.length_nil]; omega)
    rw [add_kk]
    have e : placeT v a ++ isT ++ numL k = (Stm.is v a k).text := by simp [Stm.text]
    rw [e]
    exact q H3 (s2.trans s3)
  | like v a y b =>
    obtain ⟨p, xs, rfl, hs, r0⟩ := dat_tup hx
    obtain ⟨v0, xs, rfl, q0, r0⟩ := reps1 r0
    obtain ⟨v1, xs, rfl, q1, r0⟩ := reps1 r0
    obtain ⟨v2, xs, rfl, q2, r0⟩ := reps1 r0
    obtain ⟨v3, xs, rfl, q3, r0⟩ := reps1 r0
    obtain ⟨v4, xs, rfl, q4, r0⟩ := reps1 r0
    rw [rep_str q0, rep_str q1, rep_str q3, reps0 r0] at hs
    have hl : (placeT v a).length + 3 + (placeT y b).length ≤ 1000 := by
      have e : (Stm.like v a y b).text.length = (placeT v a).length + 3 + (placeT y b).length := by
        simp only [Stm.text, isT, List.length_append, List.length_cons, List.length_nil]
        omega
      omega
    refine ⟨_, rfl, p, _, _, _, rfl, rfl, hs, atI_nat rfl, ?_⟩
    dsimp only [gName]
    refine st_seq ?_
    refine ⟨_, rfl, two1000, fun T1 g1 => ⟨T1, _, rfl, .inr (SqT.of upd_same), rfl, by decide, _, rfl, ifF (in2_no wAnd wOr (by decide) (by decide)) ?_⟩⟩
    have s1 : Same H (upd H T1 (.tup [V.str (Str.ofString "and"), V.str (Str.ofString "or")])) := Same.new g1
    dsimp only [tNext]
    refine st_seq (st_no (fun Q q => ⟨_, rfl, rfl, _, rfl, bE (str_no (mk_ne wNot (by decide))) q⟩) ?_)
    dsimp only [tNext]
    refine st_seq ?_
    refine ⟨_, rfl, two1000, fun T2 g2 => ⟨T2, _, rfl, .inr (SqT.of upd_same), rfl, by decide, _, rfl, ifF (in2_no wSome wAll (by decide) (by decide)) ?_⟩⟩
    have s2 := s1.trans (Same.new (o := .tup [V.str (Str.ofString "some"), V.str (Str.ofString "all")]) g2)
    dsimp only [tNext]
    refine st_seq (st_no (fun Q q => ⟨_, rfl, rfl, _, rfl, bE (str_no (mk_ne wIs (by decide))) q⟩) ?_)
    dsimp only [tNext]
    refine st_seq (st_yes (fun Q q => ⟨_, rfl, rfl, _, rfl, bE (str_yes wLike.symm) q⟩) ?_)
    refine ⟨_, rfl, p, _, _, _, rfl, rfl, s2.sqt hs, atI_nat rfl, _, rfl, p, _, _, _, rfl, rfl, s2.sqt hs, atI_nat rfl, v, v2, a, rfl, q2.keep s2.tups, ok.2.1, ok.1.hi, fun H3 s3 => ?_⟩
    refine ⟨_, _, rfl, rfl, lenk _ _ (by unfold isT; simp only [List.length_cons, List.length_nil]; omega), ?_⟩
    rw [add_kk]
    refine ⟨_, rfl, p, _, _, _, rfl, rfl, (s2.trans s3).sqt hs, atI_nat rfl, _, rfl, p, _, _, _, rfl, rfl, (s2.trans s3).sqt hs, atI_nat rfl, y, v4, b, rfl, q4.keep (s2.trans s3).tups, ok.2.2.2, ok.2.2.1.hi, fun H4 s4 => ?_⟩
    refine ⟨_, _, rfl, rfl, ?_, ?_⟩
    · exact lenk _ _ (by unfold isT; simp only [List.length_append, List.length_cons, List.length_nil]; omega)
    rw [add_kk]
    have e : placeT v a ++ isT ++ placeT y b = (Stm.like v a y b).text := by simp [Stm.text]
    rw [e]
    exact q H4 (s2.trans (s3.trans s4))
  | cmp k a b =>
    obtain ⟨p, xs, rfl, hs, r0⟩ := dat_tup hx
    obtain ⟨v0, xs, rfl, q0, r0⟩ := reps1 r0
    obtain ⟨v1, xs, rfl, q1, r0⟩ := reps1 r0
    obtain ⟨v2, xs, rfl, q2, r0⟩ := reps1 r0
    rw [rep_str q0, reps0 r0] at hs
    have hl : (sumT a).length + (cmpT k).length + (sumT b).length + 2 ≤ 1000 := by
      have e : (Stm.cmp k a b).text.length = (sumT a).length + (cmpT k).length + (sumT b).length + 2 := by
        simp only [Stm.text, List.length_append, List.length_cons, List.length_nil]
        omega
      omega
    refine ⟨_, rfl, p, _, _, _, rfl, rfl, hs, atI_nat rfl, ?_⟩
    dsimp only [gName]
    refine st_seq ?_
    refine ⟨_, rfl, two1000, fun T1 g1 => ⟨T1, _, rfl, .inr (SqT.of upd_same), rfl, by decide, _, rfl, ifF (in2_no wAnd wOr (cmp_ne (by decide) (by decide)) (cmp_ne (by decide) (by decide))) ?_⟩⟩
    have s1 : Same H (upd H T1 (.tup [V.str (Str.ofString "and"), V.str (Str.ofString "or")])) := Same.new g1
    dsimp only [tNext]
    refine st_seq (st_no (fun Q q => ⟨_, rfl, rfl, _, rfl, bE (str_no (mk_ne wNot (cmp_ne (by decide) (by decide)))) q⟩) ?_)
    dsimp only [tNext]
    refine st_seq ?_
    refine ⟨_, rfl, two1000, fun T2 g2 => ⟨T2, _, rfl, .inr (SqT.of upd_same), rfl, by decide, _, rfl, ifF (in2_no wSome wAll (cmp_ne (by decide) (by decide)) (cmp_ne (by decide) (by decide))) ?_⟩⟩
    have s2 := s1.trans (Same.new (o := .tup [V.str (Str.ofString "some"), V.str (Str.ofString "all")]) g2)
    dsimp only [tNext]
    refine st_seq (st_no (fun Q q => ⟨_, rfl, rfl, _, rfl, bE (str_no (mk_ne wIs (cmp_ne (by decide) (by decide)))) q⟩) ?_)
    dsimp only [tNext]
    refine st_seq (st_no (fun Q q => ⟨_, rfl, rfl, _, rfl, bE (str_no (mk_ne wLike (cmp_ne (by decide) (by decide)))) q⟩) ?_)
    dsimp only [tNext]
    refine ⟨_, rfl, p, _, _, _, rfl, rfl, s2.sqt hs, atI_nat rfl, v1, a, rfl, q1.keep s2.tups, ok.2.1, fun H3 s3 => ?_⟩
    refine ⟨_, _, rfl, rfl, lenk _ _ (by simp only [List.length_cons, List.length_nil]; omega), ?_⟩
    rw [add_kk]
    refine ⟨_, rfl, _, _, rfl, rfl, ?_, ?_⟩
    · exact lenk _ _ (by simp only [List.length_append, List.length_cons, List.length_nil]; omega)
    rw [add_kk]
    refine ⟨_, _, rfl, rfl, ?_, ?_⟩
    · exact lenk _ _ (by simp only [List.length_append, List.length_cons, List.length_nil]; omega)
    rw [add_kk]
    refine ⟨_, rfl, p, _, _, _, rfl, rfl, (s2.trans s3).sqt hs, atI_nat rfl, v2, b, rfl, q2.keep (s2.trans s3).tups, ok.2.2, fun H4 s4 => ?_⟩
    refine ⟨_, _, rfl, rfl, ?_, ?_⟩
    · exact lenk _ _ (by simp only [List.length_append, List.length_cons, List.length_nil]; omega)
    rw [add_kk]
    have e : sumT a ++ [32] ++ cmpT k ++ [32] ++ sumT b = (Stm.cmp k a b).text := by simp [Stm.text]
    rw [e]
    exact q H4 (s2.trans (s3.trans s4))
theorem shown_none {k : Nat} : FnOk P w K mg base CX0 k f fd ["statement"] (spShown K 0) := by
  have no : ∀ vs H Q E, ¬ spShown K 0 vs H Q E := fun vs H Q E ⟨_, _, _, _, _, h, _⟩ => absurd h (Nat.not_lt_zero _)
  exact ⟨fun vs H Q E h => absurd h (no vs H Q E), fun A outer s H args us vs Q E _ _ _ _ h => absurd h (no vs H Q E)⟩
theorem shown_all (D : Def K mg "shown" sShown ["statement"] f fd) (X : Tx K mg)
    (D1 : Def K mg "sum_shown" sSumS ["parts"] f1 d1) (G1 : FnOk P w K mg base CX0 1 f1 d1 ["parts"] (spSumS K)) (D2 : Def K mg "place_shown" sPlaceS ["row", "parts"] f2 d2) (G2 : FnOk P w K mg base CX0 2 f2 d2 ["row", "parts"] (spPlaceS K)) :
    ∀ n : Nat, FnOk P w K mg base CX0 (n + 2) f fd ["statement"] (spShown K n)
  | 0 => shown_none
  | n + 1 => ok_shown D X (shown_all D X D1 G1 D2 G2 n) D1 G1 D2 G2
end
end K53

/-! The law's own: _law_same, what a line by hand is, _law_told. -/
namespace K53
open PySem L2 TL

abbrev sSame : Stmt := tp 40
abbrev sHand : Stmt := tp 41
abbrev sTold : Stmt := tp 42

/-- data at most n deep -/
def Lev : Nat → T → Prop
  | 0, _ => False
  | _ + 1, .int _ => True
  | _ + 1, .str _ => True
  | n + 1, .tup l => ∀ x ∈ l, Lev n x
theorem Lev.up : ∀ {n : Nat} {d : T}, Lev n d → Lev (n + 1) d
  | 0, _, h => h.elim
  | _ + 1, .int _, _ => trivial
  | _ + 1, .str _, _ => trivial
  | n + 1, .tup l, h => fun x hx => Lev.up (n := n) (h x hx)
theorem Lev.le {n m : Nat} {d : T} (h : Lev n d) (hm : n ≤ m) : Lev m d := by
  induction hm with
  | refl => exact h
  | step _ ih => exact ih.up
theorem part_lev (p : Part) : Lev 2 p.dat := by
  cases p <;> (intro x hx; rcases List.mem_cons.mp hx with e | hx; (rw [e]; trivial); rw [List.mem_singleton.mp hx]; trivial)
theorem sum_lev (ps : List Part) : Lev 3 (sumD ps) := fun x hx => by
  obtain ⟨p, _, rfl⟩ := List.mem_map.mp hx
  exact part_lev p
theorem lev_tup {n : Nat} {l : List T} (h : ∀ x ∈ l, Lev n x) : Lev (n + 1) (.tup l) := h
theorem lev_str (n : Nat) (z : Str) : Lev (n + 1) (.str z) := trivial
theorem lev_int (n : Nat) (i : Int) : Lev (n + 1) (.int i) := trivial
theorem all2 {n : Nat} {a b : T} (ha : Lev n a) (hb : Lev n b) : ∀ x ∈ [a, b], Lev n x := fun x hx => by
  rcases List.mem_cons.mp hx with e | hx
  · rw [e]
    exact ha
  · rw [List.mem_singleton.mp hx]
    exact hb
theorem allc {n : Nat} {a : T} {l : List T} (ha : Lev n a) (hl : ∀ x ∈ l, Lev n x) : ∀ x ∈ a :: l, Lev n x := fun x hx => by
  rcases List.mem_cons.mp hx with e | hx
  · rw [e]
    exact ha
  · exact hl x hx
theorem stm_lev : ∀ s : Stm, Lev (s.depth + 4) s.dat
  | .cmp k a b => lev_tup (allc (lev_str _ _) (all2 (sum_lev a) (sum_lev b)))
  | .is r a n => lev_tup (allc (lev_str _ _) (allc (lev_str _ _) (all2 (sum_lev a) (lev_int _ _))))
  | .like r a q b => lev_tup (allc (lev_str _ _) (allc (lev_str _ _) (allc (sum_lev a) (all2 (lev_str _ _) (sum_lev b)))))
  | .neg s => lev_tup (n := s.depth + 4) (all2 (lev_str _ _) (stm_lev s))
  | .two o s t => by
    have a := (stm_lev s).le (show s.depth + 4 ≤ max s.depth t.depth + 4 by omega)
    have b := (stm_lev t).le (show t.depth + 4 ≤ max s.depth t.depth + 4 by omega)
    exact lev_tup (n := max s.depth t.depth + 4) (allc (lev_str _ _) (all2 a b))
  | .qu e w s => lev_tup (n := s.depth + 4) (allc (lev_str _ _) (all2 (lev_str _ _) (stm_lev s)))

def spSame (K : PySem.W.Frag) (n : Nat) : Sp := fun vs H Q _ => ∃ (x y : V) (d : T), vs = [x, y] ∧ Rep K H x d ∧ Rep K H y d ∧ Lev n d ∧ ∀ H', Same H H' → Q (.bl true) H'
theorem ty_tup {K : PySem.W.Frag} {H : Hp} {a : Addr} {xs : List V} (h : SqT K H a xs) : TyX K H (.ref a) (.type "tuple") := by
  rcases h with (h | ⟨o, h⟩) | ⟨o, its, n, hk, hc, _⟩
  · exact .base (.tup h)
  · exact .fTuple h
  · exact .kTuple hk hc
section
variable {P : Program} {w : World} {K : PySem.W.Frag} {mg : Str → Option Value} {base : Heap} {f f1 f2 f3 : Addr} {fd d1 d2 d3 : FuncData}
theorem scSame : FnScope ["_law_found", "_law_due", "_law_one", "_law_other"] ["_law_found", "_law_due"] (defScope sSame) := ⟨rfl, rfl, rfl, by decide +kernel, rfl, by decide +kernel, by decide +kernel⟩
theorem ok_same {n : Nat} (D : Def K mg "_law_same" sSame ["_law_found", "_law_due"] f fd) (X : Tx K mg) (GS : FnOk P w K mg base CX0 n f fd ["_law_found", "_law_due"] (spSame K n)) :
    FnOk P w K mg base CX0 (n + 1) f fd ["_law_found", "_law_due"] (spSame K (n + 1)) := by
  refine D.F.ok scSame (fun vs H Q E h => ?_) (fun cdv A outer s H vs Q E hr h => ?_)
  · obtain ⟨x, y, d, rfl, _⟩ := h
    rfl
  obtain ⟨x, y, d, rfl, hx, hy, hl, q⟩ := h
  have nd := scSame.nd
  refine ⟨_, pss_cons (ps_if (pt_val (pe_callB call_isi rfl X.isi (by decide +kernel) (pa_cons (pv 1) (pa_cons (pe_bltn (v := .ty "str") (u := .type "str") rfl X.str (by decide +kernel) rfl) pa_nil))))
      (pss_one (ps_ret (pe_and (pe_callB call_isi rfl X.isi (by decide +kernel) (pa_cons (pv 0) (pa_cons (pe_bltn (v := .ty "str") (u := .type "str") rfl X.str (by decide +kernel) rfl) pa_nil))) (pe_one (pe_cmpR op_eq (pv 0) (pv 1) (nomark _)))))) pss_nil)
    (pss_cons (ps_if (pt_val (pe_callB call_isi rfl X.isi (by decide +kernel) (pa_cons (pv 1) (pa_cons (pe_bltn (v := .ty "int") (u := .type "int") rfl X.int (by decide +kernel) rfl) pa_nil))))
      (pss_one (ps_ret (pe_and (pe_callB call_isi rfl X.isi (by decide +kernel) (pa_cons (pv 0) (pa_cons (pe_bltn (v := .ty "int") (u := .type "int") rfl X.int (by decide +kernel) rfl) pa_nil)))
        (pe_and (pe_not (pe_callB call_isi rfl X.isi (by decide +kernel) (pa_cons (pv 0) (pa_cons (pe_bltn (v := .ty "bool") (u := .type "bool") rfl X.bool (by decide +kernel) rfl) pa_nil)))) (pe_one (pe_cmpR op_eq (pv 0) (pv 1) (nomark _))))))) pss_nil)
    (pss_cons (ps_if (PW.pt (pw_or (pt_not (pt_val (pe_callB call_isi rfl X.isi (by decide +kernel) (pa_cons (pv 0) (pa_cons (pe_bltn (v := .ty "tuple") (u := .type "tuple") rfl X.tuple (by decide +kernel) rfl) pa_nil)))))
        (pw_or1 (pt_cmpR op_ne (pe_callB call_len_seq rfl X.len PySem.boot_len (pa_cons (pv 0) pa_nil)) (pe_callB call_len_seq rfl X.len PySem.boot_len (pa_cons (pv 1) pa_nil)) (nomark _))))) (pss_one (ps_ret pe_bl)) pss_nil)
    (pss_cons (ps_for PassesOwn.never rfl (RZ.pi_zipA rfl X.zip (pa_cons (pv 0) (pa_cons (pv 1) pa_nil))) (pg_tup rfl (pgs_cons (pg_name (i := 2) nd rfl (Or.inl rfl)) (pgs_cons (pg_name (i := 3) nd rfl (Or.inl rfl)) pgs_nil)))
      (pss_one (ps_if (pt_not (pt_val (pe_call GS hr rfl D.m D.F.kp D.b .nil pass0 (pa_cons (pv 2) (pa_cons (pv 3) pa_nil))))) (pss_one (ps_ret pe_bl)) pss_nil)))
    (pss_one (ps_ret pe_bl))))), ?_⟩
  cases d with
  | str z =>
    rw [rep_str hx, rep_str hy]
    refine st_seq (st_yes (fun Q q => ⟨_, rfl, _, _, _, _, true, rfl, .ty "str", .base (.str _), kit_ty (by decide +kernel), _, rfl, q⟩) ?_)
    refine ⟨_, rfl, _, _, _, _, true, rfl, .ty "str", .base (.str _), kit_ty (by decide +kernel), _, rfl, ifT rfl ⟨_, rfl, _, rfl, rfl, ?_⟩⟩
    rw [str_yes rfl]
    exact q H (Same.refl H)
  | int i =>
    rw [rep_int hx, rep_int hy]
    refine st_seq (st_no (fun Q q => ⟨_, rfl, _, _, _, _, false, rfl, .ty "str", .base (.int _), kit_ty (by decide +kernel), _, rfl, q⟩) ?_)
    dsimp only [tNext]
    refine st_seq (st_yes (fun Q q => ⟨_, rfl, _, _, _, _, true, rfl, .ty "int", .base (.int _), kit_ty (by decide +kernel), _, rfl, q⟩) ?_)
    refine ⟨_, rfl, _, _, _, _, true, rfl, .ty "int", .base (.int _), kit_ty (by decide +kernel), _, rfl, ifT rfl ?_⟩
    refine ⟨_, rfl, _, _, _, _, false, rfl, .ty "bool", .base (.int _), kit_ty (by decide +kernel), _, rfl, _, rfl, ifT rfl ⟨_, rfl, _, rfl, rfl, ?_⟩⟩
    rw [decide_eq_true (rfl : V.int i = V.int i)]
    exact q H (Same.refl H)
  | tup ds =>
    obtain ⟨a, xs, rfl, ha, ra⟩ := dat_tup hx
    obtain ⟨b, ys, rfl, hb, rb⟩ := dat_tup hy
    have el : xs.length = ys.length := by rw [ra.length, rb.length]
    refine st_seq (st_no (fun Q q => ⟨_, rfl, _, _, _, _, false, rfl, .ty "str", ty_tup hb, kit_ty (by decide +kernel), _, rfl, q⟩) ?_)
    dsimp only [tNext]
    refine st_seq (st_no (fun Q q => ⟨_, rfl, _, _, _, _, false, rfl, .ty "int", ty_tup hb, kit_ty (by decide +kernel), _, rfl, q⟩) ?_)
    dsimp only [tNext]
    refine st_seq (st_no (ans_or (ans_not (b := true) fun Q q => ⟨_, rfl, _, _, _, _, true, rfl, .ty "tuple", ty_tup ha, kit_ty (by decide +kernel), _, rfl, q⟩)
      fun Q q => ⟨_, rfl, a, _, rfl, .inr ha, _, rfl, b, _, rfl, .inr hb, rfl, _, rfl, bE (by rw [el, decide_eq_true (rfl : V.int ((ys.length : Nat) : Int) = _)]; rfl) q⟩) ?_)
    dsimp only [tNext]
    refine ⟨_, rfl, _, rfl, a, b, xs, ys, rfl, .inr ⟨ha, hb, ?_⟩⟩
    refine RZ.for_zipT el (fun i σ H' => ∃ o1 o2, σ = [some (.ref a), some (.ref b), o1, o2] ∧ Same H H') ⟨none, none, rfl, Same.refl H⟩ (fun i σ H' ⟨_, _, _, s2⟩ => ⟨s2.sqt ha, s2.sqt hb⟩) ?_ ?_
    · rintro i u v t σ H' hu hv ⟨o1, o2, rfl, s2⟩ ht
      have s3 := Same.new (o := .tup [u, v]) ht
      obtain ⟨e1, he1, hr1⟩ := ra.get hu
      obtain ⟨e2, he2, hr2⟩ := rb.get hv
      rw [he1] at he2
      obtain rfl := Option.some.inj he2
      refine ⟨t, _, rfl, SqT.of upd_same, rfl, _, _, rfl, _, _, rfl, rfl, ?_⟩
      refine ⟨_, rfl, _, rfl, u, v, e1, rfl, hr1.keep (s2.trans s3).tups, hr2.keep (s2.trans s3).tups, hl e1 (List.mem_of_getElem? he1), fun H4 s4 => ?_⟩
      exact ⟨true, rfl, ifF rfl ⟨_, _, rfl, s2.trans (s3.trans s4)⟩⟩
    · rintro σ H' ⟨o1, o2, rfl, s2⟩
      exact q H' s2
theorem same_all (D : Def K mg "_law_same" sSame ["_law_found", "_law_due"] f fd) (X : Tx K mg) : ∀ n : Nat, FnOk P w K mg base CX0 n f fd ["_law_found", "_law_due"] (spSame K n)
  | 0 => by
    have no : ∀ vs H Q E, ¬ spSame K 0 vs H Q E := fun vs H Q E ⟨_, _, _, _, _, _, h, _⟩ => h.elim
    exact ⟨fun vs H Q E h => absurd h (no vs H Q E), fun A outer s H args us vs Q E _ _ _ _ h => absurd h (no vs H Q E)⟩
  | n + 1 => ok_same D X (same_all D X n)
end
end K53

/-! The law's own: the lines by hand. -/
namespace K53
open PySem L2 TL

/-! ### displays of tuples -/
def EvR (K : PySem.W.Frag) (te : TE) (σ : St) (H : Hp) (d : T) : Prop := ∀ H1, Same H H1 → ∀ Q : VK, (∀ v H2, Same H1 H2 → Rep K H2 v d → Q v H2) → te σ H1 Q
def EvRs (K : PySem.W.Frag) (ta : TA) (σ : St) (H : Hp) (ds : List T) : Prop := ∀ H1, Same H H1 → ∀ Q : List V → Hp → Prop, (∀ vs H2, Same H1 H2 → Reps K H2 vs ds → Q vs H2) → ta σ H1 Q
section
variable {K : PySem.W.Frag} {σ : St} {H : Hp} {te tf : TE} {ta : TA} {d : T} {ds es : List T}
theorem evr_int {i : Int} : EvR K (tC (.int i)) σ H (.int i) := fun H1 _ Q q => q _ H1 (Same.refl H1) (.int i)
theorem evr_str {z : Str} : EvR K (tC (.str z)) σ H (.str z) := fun H1 _ Q q => q _ H1 (Same.refl H1) (.str z)
theorem evr_var {i : Nat} {v : V} (h : σ[i]? = some (some v)) (r : Rep K H v d) : EvR K (tVar i) σ H d := fun H1 e Q q => ⟨v, h, q v H1 (Same.refl H1) (r.keep e.tups)⟩
theorem evrs_nil : EvRs K tNil σ H [] := fun H1 _ Q q => q [] H1 (Same.refl H1) .nil
theorem evrs_cons (h : EvR K te σ H d) (r : EvRs K ta σ H ds) : EvRs K (tCons te ta) σ H (d :: ds) := fun H1 e Q q =>
  h H1 e _ fun v H2 e2 r2 => r H2 (e.trans e2) _ fun vs H3 e3 r3 => q (v :: vs) H3 (e2.trans e3) (.cons (r2.keep e3.tups) r3)
theorem evr_tup (h : EvRs K ta σ H ds) (hl : ds.length ≤ 1000) : EvR K (tTup ta) σ H (.tup ds) := fun H1 e Q q =>
  h H1 e _ fun vs H2 e2 r2 => ⟨sz (by rw [r2.length]; exact hl), fun p hp => q _ _ (e2.trans (Same.new hp)) (.new upd_same (r2.keep (Same.new hp).tups))⟩
theorem evr_cat (h : EvR K te σ H (.tup ds)) (g : EvR K tf σ H (.tup es)) (h1 : ds ≠ []) (h2 : es ≠ []) (hl : ds.length + es.length ≤ 1000) : EvR K (tOp (rCatT K) te tf) σ H (.tup (ds ++ es)) := fun H1 e Q q =>
  h H1 e _ fun v H2 e2 r2 => g H2 (e.trans e2) _ fun u H3 e3 r3 => by
    obtain ⟨a, xs, rfl, ha, ra⟩ := dat_tup (r2.keep e3.tups)
    obtain ⟨b, ys, rfl, hb, rb⟩ := dat_tup r3
    have n1 : xs ≠ [] := fun z => h1 (List.length_eq_zero_iff.mp (by rw [← ra.length, z]; rfl))
    have n2 : ys ≠ [] := fun z => h2 (List.length_eq_zero_iff.mp (by rw [← rb.length, z]; rfl))
    refine ⟨a, b, xs, ys, rfl, rfl, ha, hb, n1, sz (by rw [ra.length, rb.length]; exact hl), fun z => absurd z n2, fun _ p hp => ?_⟩
    exact q _ _ (e2.trans (e3.trans (Same.new hp))) (.new upd_same ((ra.append rb).keep (Same.new hp).tups))
theorem evr_is {d' : T} (h : EvR K te σ H d) (e : d = d') : EvR K te σ H d' := by
  rw [← e]
  exact h
end

/-! ### that a statement is in order, by reckoning -/
def okName (w : List Nat) : Bool := decide (1 ≤ w.length) && decide (w.length ≤ 6) && w.all sm && !decide (w ∈ W5)
def okRow (w : List Nat) : Bool := decide (1 ≤ w.length) && decide (w.length ≤ 6) && w.all gr
theorem okName.is {w : List Nat} (h : okName w = true) : IsName w := by
  unfold okName at h
  simp only [Bool.and_eq_true, decide_eq_true_eq, List.all_eq_true, Bool.not_eq_true', decide_eq_false_iff_not] at h
  exact ⟨h.1.1.1, h.1.1.2, h.1.2, h.2⟩
theorem okRow.is {w : List Nat} (h : okRow w = true) : IsRow w := by
  unfold okRow at h
  simp only [Bool.and_eq_true, decide_eq_true_eq, List.all_eq_true] at h
  exact ⟨h.1.1, h.1.2, h.2⟩
def okPart : Part → Bool
  | .num n => decide (n ≤ 999999)
  | .nam f w => decide (1 ≤ f) && decide (f ≤ 20) && okName w
def okSum (ps : List Part) : Bool := decide (1 ≤ ps.length) && decide (ps.length ≤ 8) && ps.all okPart
theorem okPart.is {p : Part} (h : okPart p = true) : p.Ok := by
  cases p with
  | num n => exact of_decide_eq_true (p := n ≤ 999999) h
  | nam f w =>
    have h' : (decide (1 ≤ f) && decide (f ≤ 20) && okName w) = true := h
    simp only [Bool.and_eq_true, decide_eq_true_eq] at h'
    exact ⟨h'.1.1, h'.1.2, okName.is h'.2⟩
theorem okSum.is {ps : List Part} (h : okSum ps = true) : SumOk ps := by
  unfold okSum at h
  simp only [Bool.and_eq_true, decide_eq_true_eq, List.all_eq_true] at h
  exact ⟨fun e => by have := h.1.1; rw [e] at this; exact absurd this (by decide), h.1.2, fun p hp => okPart.is (h.2 p hp)⟩
def okStm : Stm → Bool
  | .cmp k a b => decide (k ≤ 2) && okSum a && okSum b
  | .is r a n => okRow r && okSum a && decide (n ≤ 999999)
  | .like r a q b => okRow r && okSum a && okRow q && okSum b
  | .neg s => okStm s
  | .two _ s t => okStm s && okStm t
  | .qu _ w s => okName w && okStm s
theorem okStm.is : ∀ {s : Stm}, okStm s = true → s.Ok
  | .cmp k a b, h => by
    have h' : (decide (k ≤ 2) && okSum a && okSum b) = true := h
    simp only [Bool.and_eq_true, decide_eq_true_eq] at h'
    exact ⟨h'.1.1, okSum.is h'.1.2, okSum.is h'.2⟩
  | .is r a n, h => by
    have h' : (okRow r && okSum a && decide (n ≤ 999999)) = true := h
    simp only [Bool.and_eq_true, decide_eq_true_eq] at h'
    exact ⟨okRow.is h'.1.1, okSum.is h'.1.2, h'.2⟩
  | .like r a q b, h => by
    have h' : (okRow r && okSum a && okRow q && okSum b) = true := h
    simp only [Bool.and_eq_true] at h'
    exact ⟨okRow.is h'.1.1.1, okSum.is h'.1.1.2, okRow.is h'.1.2, okSum.is h'.2⟩
  | .neg s, h => okStm.is (s := s) h
  | .two _ s t, h => by
    have h' : (okStm s && okStm t) = true := h
    rw [Bool.and_eq_true] at h'
    exact ⟨okStm.is h'.1, okStm.is h'.2⟩
  | .qu _ w s, h => by
    have h' : (okName w && okStm s) = true := h
    rw [Bool.and_eq_true] at h'
    exact ⟨okName.is h'.1, okStm.is h'.2⟩

/-! ### the twelve lines -/
def cd (s : String) : List Nat := tl (Str.ofString s)
def nm (s : String) : List Part := [.nam 1 (cd s)]
def hand : List (String × Stm) := [
  ("nota = 3", .cmp 0 (nm "nota") [.num 3]),
  ("somex <= alls", .cmp 1 (nm "somex") (nm "alls")),
  ("orx + an < andy", .cmp 2 [.nam 1 (cd "orx"), .nam 1 (cd "an")] (nm "andy")),
  ("0 = 0", .cmp 0 [.num 0] [.num 0]),
  ("999999 <= 20*zzzzzz", .cmp 1 [.num 999999] [.nam 20 (cd "zzzzzz")]),
  ("ABCDEF[x + 0] = 999999", .is (cd "ABCDEF") [.nam 1 (cd "x"), .num 0] 999999),
  ("not not x = x", .neg (.neg (.cmp 0 (nm "x") (nm "x")))),
  ("some x: all x: x = y", .qu true (cd "x") (.qu false (cd "x") (.cmp 0 (nm "x") (nm "y")))),
  ("x + x + x + x + x + x + x + x < 2*x", .cmp 2 (nm "x" ++ nm "x" ++ nm "x" ++ nm "x" ++ nm "x" ++ nm "x" ++ nm "x" ++ nm "x") [.nam 2 (cd "x")]),
  ("(some x: x = y and x < y)", .two true (.qu true (cd "x") (.cmp 0 (nm "x") (nm "y"))) (.cmp 2 (nm "x") (nm "y"))),
  ("some x: (x = y or x < y)", .qu true (cd "x") (.two false (.cmp 0 (nm "x") (nm "y")) (.cmp 2 (nm "x") (nm "y")))),
  ("(not x = y or T[x] = T[y])", .two false (.neg (.cmp 0 (nm "x") (nm "y"))) (.like (cd "T") (nm "x") (cd "T") (nm "y")))]
theorem hand_ok : (hand.all fun p => okStm p.2 && decide (p.2.depth ≤ 20) && decide (tl (Str.ofString p.1) = p.2.text)) = true := by decide +kernel
/-- a line and its statement, a pair -/
def handD (p : String × Stm) : T := .tup [.str (Str.ofString p.1), p.2.dat]

def spHand (K : PySem.W.Frag) : Sp := fun vs H Q _ => vs = [] ∧ ∀ (l : Addr) (us : List V) (H' : Hp), Same H H' → H' l = some (.lst us) → Reps K H' us (hand.map handD) → Q (.ref l) H'
section
variable {P : Program} {w : World} {K : PySem.W.Frag} {mg : Str → Option Value} {base : Heap} {f f1 f2 f3 : Addr} {fd d1 d2 d3 : FuncData}
/-- what stands between two lines: k lines are in the list -/
def Lines (K : PySem.W.Frag) (G : Hp) (l : Addr) (k : Nat) (H : Hp) : Prop := ∃ us, H l = some (.lst us) ∧ us.length = k ∧ Reps K H us ((hand.take k).map handD) ∧ Same G H
theorem asg_R {te : TE} {σ : St} {H : Hp} {i : Nat} {d : T} {D : Ends} (ev : EvR K te σ H d) (q : ∀ v H', Same H H' → Rep K H' v d → D.nx (σ.set i (some v)) H') : tAsg te (gName i) D σ H := ev H (Same.refl H) _ q
/-- the list is begun with one line -/
theorem first_line {te : TE} {σ : St} {G : Hp} {D : Ends} {i : Nat} (ev : EvR K te σ G (handD (hand[0]?.getD ("", .cmp 0 [] []))))
    (q : ∀ l H', G l = none → Lines K G l 1 H' → D.nx (σ.set i (some (.ref l))) H') : tAsg (tLst (tCons te tNil)) (gName i) D σ G :=
  ev G (Same.refl G) _ fun v H2 s2 rv => ⟨by show 1 ≤ sizeLine; decide, fun l hl => q l _ (s2.free hl) ⟨[v], upd_same, rfl, (Reps.one rv).keep (Same.new hl).tups, s2.trans (Same.new hl)⟩⟩
theorem app_line {te : TE} {σ : St} {G H : Hp} {l : Addr} {k : Nat} {D : Ends} (ev : EvR K te σ G (handD (hand[k]?.getD ("", .cmp 0 [] [])))) (hk : k < 12) (hσ : σ[2]? = some (some (.ref l))) (gl : G l = none) (h : Lines K G l k H)
    (q : ∀ H', Lines K G l (k + 1) H' → D.nx σ H') : tDrop (tBM K "list" rAppend (tVar 2) (tCons te tNil)) D σ H := by
  obtain ⟨us, el, hl, r, g⟩ := h
  refine ⟨_, hσ, .inl ⟨rfl, _, SqL.of el⟩, ev H g _ fun v H2 s2 rv => ?_⟩
  have el2 := s2 _ _ el
  refine ⟨l, us, v, rfl, rfl, el2, small1000 (by omega), q _ ⟨us ++ [v], upd_same, by rw [List.length_append, hl]; rfl, ?_, (g.trans s2).mut gl⟩⟩
  have hk2 : k < hand.length := hk
  have e : (hand.take (k + 1)).map handD = (hand.take k).map handD ++ [handD (hand[k]?.getD ("", .cmp 0 [] []))] := by
    rw [List.take_succ_eq_append_getElem hk2, List.map_append, List.getElem?_eq_getElem hk2]
    rfl
  rw [e]
  exact ((r.keep s2.tups).append (.one rv)).keep (Tups.upd el2)
theorem scHand : FnScope ["_law_x", "_law_y", "_law_pairs"] [] (defScope sHand) := ⟨rfl, rfl, rfl, by decide +kernel, rfl, by decide +kernel, by decide +kernel⟩
local macro_rules | `(tactic| walk_at "display") => `(tactic| repeat' (first | exact evr_str | exact evr_int | exact evr_var rfl (by assumption) | exact evrs_nil | apply evrs_cons | apply evr_tup | apply evr_cat | (simp; done)))
theorem ok_hand (D : Def K mg "_law_by_hand" sHand [] f fd) : FnOk P w K mg base CX0 1 f fd [] (spHand K) := by
  refine D.F.ok scHand (fun vs H Q E h => ?_) (fun cdv A outer s H vs Q E hr h => ?_)
  · obtain ⟨rfl, _⟩ := h
    rfl
  obtain ⟨rfl, q⟩ := h
  have nd := scHand.nd
  refine ⟨_, pss_cons (ps_set (i := 0) nd rfl (Or.inl rfl) (pe_tup (pa_cons (pe_tup (pa_cons pe_int (pa_cons pe_str pa_nil))) pa_nil)))
    (pss_cons (ps_set (i := 1) nd rfl (Or.inl rfl) (pe_tup (pa_cons (pe_tup (pa_cons pe_int (pa_cons pe_str pa_nil))) pa_nil)))
    (pss_cons (ps_set (i := 2) nd rfl (Or.inl rfl) (pe_lst (pa_cons (pe_tup (pa_cons pe_str (pa_cons (pe_tup (pa_cons pe_str (pa_cons (pe_tup (pa_cons (pe_tup (pa_cons pe_int (pa_cons pe_str pa_nil))) pa_nil)) (pa_cons (pe_tup (pa_cons (pe_tup (pa_cons pe_int (pa_cons pe_str pa_nil))) pa_nil)) pa_nil)))) pa_nil))) pa_nil)))
    (pss_cons (ps_expr (pe_bm PySem.F.plainAttrs_list PySem.F.slot_list_append PySem.F.type_list_append mt_append (pv 2) (pa_cons (pe_tup (pa_cons pe_str (pa_cons (pe_tup (pa_cons pe_str (pa_cons (pe_tup (pa_cons (pe_tup (pa_cons pe_int (pa_cons pe_str pa_nil))) pa_nil)) (pa_cons (pe_tup (pa_cons (pe_tup (pa_cons pe_int (pa_cons pe_str pa_nil))) pa_nil)) pa_nil)))) pa_nil))) pa_nil)))
    (pss_cons (ps_expr (pe_bm PySem.F.plainAttrs_list PySem.F.slot_list_append PySem.F.type_list_append mt_append (pv 2) (pa_cons (pe_tup (pa_cons pe_str (pa_cons (pe_tup (pa_cons pe_str (pa_cons (pe_tup (pa_cons (pe_tup (pa_cons pe_int (pa_cons pe_str pa_nil))) (pa_cons (pe_tup (pa_cons pe_int (pa_cons pe_str pa_nil))) pa_nil))) (pa_cons (pe_tup (pa_cons (pe_tup (pa_cons pe_int (pa_cons pe_str pa_nil))) pa_nil)) pa_nil)))) pa_nil))) pa_nil)))
    (pss_cons (ps_expr (pe_bm PySem.F.plainAttrs_list PySem.F.slot_list_append PySem.F.type_list_append mt_append (pv 2) (pa_cons (pe_tup (pa_cons pe_str (pa_cons (pe_tup (pa_cons pe_str (pa_cons (pe_tup (pa_cons (pe_tup (pa_cons pe_int (pa_cons pe_str pa_nil))) pa_nil)) (pa_cons (pe_tup (pa_cons (pe_tup (pa_cons pe_int (pa_cons pe_str pa_nil))) pa_nil)) pa_nil)))) pa_nil))) pa_nil)))
    (pss_cons (ps_expr (pe_bm PySem.F.plainAttrs_list PySem.F.slot_list_append PySem.F.type_list_append mt_append (pv 2) (pa_cons (pe_tup (pa_cons pe_str (pa_cons (pe_tup (pa_cons pe_str (pa_cons (pe_tup (pa_cons (pe_tup (pa_cons pe_int (pa_cons pe_str pa_nil))) pa_nil)) (pa_cons (pe_tup (pa_cons (pe_tup (pa_cons pe_int (pa_cons pe_str pa_nil))) pa_nil)) pa_nil)))) pa_nil))) pa_nil)))
    (pss_cons (ps_expr (pe_bm PySem.F.plainAttrs_list PySem.F.slot_list_append PySem.F.type_list_append mt_append (pv 2) (pa_cons (pe_tup (pa_cons pe_str (pa_cons (pe_tup (pa_cons pe_str (pa_cons pe_str (pa_cons (pe_tup (pa_cons (pe_tup (pa_cons pe_int (pa_cons pe_str pa_nil))) (pa_cons (pe_tup (pa_cons pe_int (pa_cons pe_str pa_nil))) pa_nil))) (pa_cons pe_int pa_nil))))) pa_nil))) pa_nil)))
    (pss_cons (ps_expr (pe_bm PySem.F.plainAttrs_list PySem.F.slot_list_append PySem.F.type_list_append mt_append (pv 2) (pa_cons (pe_tup (pa_cons pe_str (pa_cons (pe_tup (pa_cons pe_str (pa_cons (pe_tup (pa_cons pe_str (pa_cons (pe_tup (pa_cons pe_str (pa_cons (pv 0) (pa_cons (pv 0) pa_nil)))) pa_nil))) pa_nil))) pa_nil))) pa_nil)))
    (pss_cons (ps_expr (pe_bm PySem.F.plainAttrs_list PySem.F.slot_list_append PySem.F.type_list_append mt_append (pv 2) (pa_cons (pe_tup (pa_cons pe_str (pa_cons (pe_tup (pa_cons pe_str (pa_cons pe_str (pa_cons (pe_tup (pa_cons pe_str (pa_cons pe_str (pa_cons (pe_tup (pa_cons pe_str (pa_cons (pv 0) (pa_cons (pv 1) pa_nil)))) pa_nil)))) pa_nil)))) pa_nil))) pa_nil)))
    (pss_cons (ps_expr (pe_bm PySem.F.plainAttrs_list PySem.F.slot_list_append PySem.F.type_list_append mt_append (pv 2) (pa_cons (pe_tup (pa_cons pe_str (pa_cons (pe_tup (pa_cons pe_str (pa_cons (pe_op op_catT (pe_op op_catT (pe_op op_catT (pe_op op_catT (pe_op op_catT (pe_op op_catT (pe_op op_catT (pv 0) (pv 0)) (pv 0)) (pv 0)) (pv 0)) (pv 0)) (pv 0)) (pv 0)) (pa_cons (pe_tup (pa_cons (pe_tup (pa_cons pe_int (pa_cons pe_str pa_nil))) pa_nil)) pa_nil)))) pa_nil))) pa_nil)))
    (pss_cons (ps_expr (pe_bm PySem.F.plainAttrs_list PySem.F.slot_list_append PySem.F.type_list_append mt_append (pv 2) (pa_cons (pe_tup (pa_cons pe_str (pa_cons (pe_tup (pa_cons pe_str (pa_cons (pe_tup (pa_cons pe_str (pa_cons pe_str (pa_cons (pe_tup (pa_cons pe_str (pa_cons (pv 0) (pa_cons (pv 1) pa_nil)))) pa_nil)))) (pa_cons (pe_tup (pa_cons pe_str (pa_cons (pv 0) (pa_cons (pv 1) pa_nil)))) pa_nil)))) pa_nil))) pa_nil)))
    (pss_cons (ps_expr (pe_bm PySem.F.plainAttrs_list PySem.F.slot_list_append PySem.F.type_list_append mt_append (pv 2) (pa_cons (pe_tup (pa_cons pe_str (pa_cons (pe_tup (pa_cons pe_str (pa_cons pe_str (pa_cons (pe_tup (pa_cons pe_str (pa_cons (pe_tup (pa_cons pe_str (pa_cons (pv 0) (pa_cons (pv 1) pa_nil)))) (pa_cons (pe_tup (pa_cons pe_str (pa_cons (pv 0) (pa_cons (pv 1) pa_nil)))) pa_nil)))) pa_nil)))) pa_nil))) pa_nil)))
    (pss_cons (ps_expr (pe_bm PySem.F.plainAttrs_list PySem.F.slot_list_append PySem.F.type_list_append mt_append (pv 2) (pa_cons (pe_tup (pa_cons pe_str (pa_cons (pe_tup (pa_cons pe_str (pa_cons (pe_tup (pa_cons pe_str (pa_cons (pe_tup (pa_cons pe_str (pa_cons (pv 0) (pa_cons (pv 1) pa_nil)))) pa_nil))) (pa_cons (pe_tup (pa_cons pe_str (pa_cons pe_str (pa_cons (pv 0) (pa_cons pe_str (pa_cons (pv 1) pa_nil)))))) pa_nil)))) pa_nil))) pa_nil)))
    (pss_one (ps_ret (pv 2)))))))))))))))), ?_⟩
  refine st_seq (asg_R (K := K) (d := .tup [.tup [.int 1, .str (Str.ofString "x")]]) (by walk_at "display") fun vx Hx gx rx => ?_)
  dsimp only
  refine st_seq (asg_R (K := K) (d := .tup [.tup [.int 1, .str (Str.ofString "y")]]) (by walk_at "display") fun vy Hy gy ry => ?_)
  have rx' := rx.keep gy.tups
  dsimp only
  refine st_seq (first_line (K := K) (evr_is (by walk_at "display") (by kernel_rfl)) fun l H0 gl L0 => ?_)
  dsimp only
  refine st_seq (app_line (K := K) (k := 1) (evr_is (by walk_at "display") (by kernel_rfl)) (by decide) rfl gl L0 fun H1 L1 => ?_)
  dsimp only
  refine st_seq (app_line (K := K) (k := 2) (evr_is (by walk_at "display") (by kernel_rfl)) (by decide) rfl gl L1 fun H2 L2 => ?_)
  dsimp only
  refine st_seq (app_line (K := K) (k := 3) (evr_is (by walk_at "display") (by kernel_rfl)) (by decide) rfl gl L2 fun H3 L3 => ?_)
  dsimp only
  refine st_seq (app_line (K := K) (k := 4) (evr_is (by walk_at "display") (by kernel_rfl)) (by decide) rfl gl L3 fun H4 L4 => ?_)
  dsimp only
  refine st_seq (app_line (K := K) (k := 5) (evr_is (by walk_at "display") (by kernel_rfl)) (by decide) rfl gl L4 fun H5 L5 => ?_)
  dsimp only
  refine st_seq (app_line (K := K) (k := 6) (evr_is (by walk_at "display") (by kernel_rfl)) (by decide) rfl gl L5 fun H6 L6 => ?_)
  dsimp only
  refine st_seq (app_line (K := K) (k := 7) (evr_is (by walk_at "display") (by kernel_rfl)) (by decide) rfl gl L6 fun H7 L7 => ?_)
  dsimp only
  refine st_seq (app_line (K := K) (k := 8) (evr_is (by walk_at "display") (by kernel_rfl)) (by decide) rfl gl L7 fun H8 L8 => ?_)
  dsimp only
  refine st_seq (app_line (K := K) (k := 9) (evr_is (by walk_at "display") (by kernel_rfl)) (by decide) rfl gl L8 fun H9 L9 => ?_)
  dsimp only
  refine st_seq (app_line (K := K) (k := 10) (evr_is (by walk_at "display") (by kernel_rfl)) (by decide) rfl gl L9 fun H10 L10 => ?_)
  dsimp only
  refine st_seq (app_line (K := K) (k := 11) (evr_is (by walk_at "display") (by kernel_rfl)) (by decide) rfl gl L10 fun H11 L11 => ?_)
  dsimp only
  obtain ⟨us, el, hl, r, g⟩ := L11
  exact ⟨_, rfl, q l us _ (gx.trans (gy.trans g)) el r⟩
end
end K53

/-! All that the top leaves, in one word. -/
namespace K53
open PySem L2 TL

def DefE (K : PySem.W.Frag) (mg : Str → Option Value) (x : Str) (st : Stmt) (ps : List Str) : Prop := ∃ f fd, Def K mg x st ps f fd
structure All (K : PySem.W.Frag) (mg : Str → Option Value) : Prop where
  tx : Tx K mg
  d11 : DefE K mg "run_at" (tp 11) ["text", "at", "menu"]
  d12 : DefE K mg "past" (tp 12) ["text", "at", "sign"]
  d13 : DefE K mg "name_at" (tp 13) ["text", "at"]
  d14 : DefE K mg "number_at" (tp 14) ["text", "at"]
  d15 : DefE K mg "part_at" (tp 15) ["text", "at"]
  d16 : DefE K mg "sum_at" (tp 16) ["text", "at"]
  d17 : DefE K mg "place_at" (tp 17) ["text", "at"]
  d18 : DefE K mg "is_row_at" (tp 18) ["text", "at"]
  d19 : DefE K mg "plain_at" (tp 19) ["text", "at"]
  d20 : DefE K mg "two_at" (tp 20) ["text", "at", "deep"]
  d21 : DefE K mg "statement_at" (tp 21) ["text", "at", "deep"]
  d22 : DefE K mg "read" (tp 22) ["text"]
  d24 : DefE K mg "sum_shown" (tp 24) ["parts"]
  d25 : DefE K mg "place_shown" (tp 25) ["row", "parts"]
  d26 : DefE K mg "shown" (tp 26) ["statement"]
  d28 : DefE K mg "_law_mixed" (tp 28) ["_law_script", "_law_k"]
  d29 : DefE K mg "_law_spread" (tp 29) ["_law_script"]
  d30 : DefE K mg "_law_draw" (tp 30) ["_law_spread_here", "_law_k"]
  d31 : DefE K mg "_law_word" (tp 31) ["_law_number", "_law_letters"]
  d32 : DefE K mg "_law_name" (tp 32) ["_law_spread_here", "_law_number"]
  d33 : DefE K mg "_law_row" (tp 33) ["_law_spread_here", "_law_number"]
  d34 : DefE K mg "_law_sum" (tp 34) ["_law_spread_here", "_law_at"]
  d35 : DefE K mg "_law_plain" (tp 35) ["_law_spread_here", "_law_at"]
  d36 : DefE K mg "_law_wrapped" (tp 36) ["_law_spread_here", "_law_item", "_law_number"]
  d37 : DefE K mg "_law_two" (tp 37) ["_law_one", "_law_other", "_law_number"]
  d38 : DefE K mg "_law_items" (tp 38) ["_law_spread_here"]
  d39 : DefE K mg "_law_built" (tp 39) ["_law_spread_here"]
  d40 : DefE K mg "_law_same" (tp 40) ["_law_found", "_law_due"]
  d41 : DefE K mg "_law_by_hand" (tp 41) []
  d42 : DefE K mg "_law_told" (tp 42) ["_law_item"]
/-- the law's promise -/
def spLaw (K : PySem.W.Frag) : Sp := fun vs H Q _ => ∃ (a : Addr) (ns : List Int), vs = [.ref a] ∧ SqL K H a (ns.map V.int) ∧ ns.length ≤ 63 ∧ ∀ H', Q (.bl true) H'
/-- a def, of what the written part says -/
theorem def_mk {K : PySem.W.Frag} {mg : Str → Option Value} {h : Heap} (X : K.In h) (G : h.Ns mainGlobals mg) {x : Str} {st : Stmt} {ps : List Str} {f : Addr} {oc : Value} {od an : Option Addr} {osl : Array (Option Value)} {kV doc pm cdv ct : Value}
    (b : ∀ (kV doc pm : Value) (an : Option Addr) (cdv ct : Value) (us : List Value), us.length = ps.length → bindArgs (PySem.W.fnOf x x (defArgs st) (defBody st) (defScope st) .none kV doc pm an cdv ct) ⟨us, []⟩ = pure (ps.zip us))
    (a : PySem.W.nsIn K mainGlobals x = some (some (.ref f))) (l : K.lookup f = some ⟨oc, od, .func (PySem.W.fnOf x x (defArgs st) (defBody st) (defScope st) .none kV doc pm an cdv ct), osl⟩)
    (c : PySem.W.codeIn K cdv x = true) (k : PySem.W.keepIn K (.ref f) = true) : DefE K mg x st ps := by
  have F := fun_mk (st := st) l c k
  exact ⟨f, _, F, PySem.W.mg_of X G a, F.binds b⟩
theorem words_mk {K : PySem.W.Frag} {mg : Str → Option Value} {h : Heap} (X : K.In h) (G : h.Ns mainGlobals mg) {a : Addr} {od : Option Addr} {n : Nat} {osl : Array (Option Value)} {t0 t1 t2 t3 t4 : Tok}
    (e : PySem.W.nsIn K mainGlobals "WORDS" = some (some (.ref a)))
    (l : K.lookup a = some ⟨.type "tuple", od, .seq #[.str (Str.ofString "and") t0, .str (Str.ofString "or") t1, .str (Str.ofString "not") t2, .str (Str.ofString "some") t3, .str (Str.ofString "all") t4] n, osl⟩) :
    ∃ a, mg "WORDS" = some (.ref a) ∧ ∀ H, SqT K H a (W5.map fun w => V.str (mkS w)) := by
  refine ⟨a, PySem.W.mg_of X G e, fun H => .inr ⟨_, _, n, l, rfl, rfl, (by show 5 ≤ sizeLine; decide), ?_⟩⟩
  have s0 : mkS [97, 110, 100] = Str.ofString "and" := by decide +kernel
  have s1 : mkS [111, 114] = Str.ofString "or" := by decide +kernel
  have s2 : mkS [110, 111, 116] = Str.ofString "not" := by decide +kernel
  have s3 : mkS [115, 111, 109, 101] = Str.ofString "some" := by decide +kernel
  have s4 : mkS [97, 108, 108] = Str.ofString "all" := by decide +kernel
  show Vals [V.str (mkS [97, 110, 100]), V.str (mkS [111, 114]), V.str (mkS [110, 111, 116]), V.str (mkS [115, 111, 109, 101]), V.str (mkS [97, 108, 108])] _
  rw [s0, s1, s2, s3, s4]
  exact .cons ⟨t0, rfl⟩ (.cons ⟨t1, rfl⟩ (.cons ⟨t2, rfl⟩ (.cons ⟨t3, rfl⟩ (.cons ⟨t4, rfl⟩ .nil))))
theorem gs_mk {K : PySem.W.Frag} {mg : Str → Option Value} {h : Heap} (X : K.In h) (G : h.Ns mainGlobals mg) {x z : Str} {t : Tok} (e : PySem.W.nsIn K mainGlobals x = some (some (.str z t))) : GV mg x (.str z) := ⟨_, PySem.W.mg_of X G e, t, rfl⟩
theorem gi_mk {K : PySem.W.Frag} {mg : Str → Option Value} {h : Heap} (X : K.In h) (G : h.Ns mainGlobals mg) {x : Str} {i : Int} {t : Tok} (e : PySem.W.nsIn K mainGlobals x = some (some (.int i t))) : GV mg x (.int i) := ⟨_, PySem.W.mg_of X G e, t, rfl⟩
end K53

/-! The law's draws and words. -/
namespace K53
open PySem L2 TL

abbrev sDraw : Stmt := tp 30
abbrev sWord : Stmt := tp 31
abbrev sNameL : Stmt := tp 32
abbrev sRowL : Stmt := tp 33

/-! ### the words, as a function -/
def wFirst (b : Nat) (n : Int) : Nat := if n / 26 % 2 = 0 then b + (n / 52 % 3).toNat else b + (n % 26).toNat
def wSize (n : Int) : Int := 1 + n / 156 % 6
def wAt (n : Int) : Int := n / 936 % wSize n
def wRaw (b : Nat) (n : Int) : List Nat := List.replicate (wAt n).toNat (wFirst b n) ++ (b + (n / 5616 % 26).toNat) :: List.replicate (wSize n - wAt n - 1).toNat (wFirst b n)
def wordF (b : Nat) (n : Int) : List Nat := if wRaw b n ∈ W5 then wRaw b n ++ [120] else wRaw b n
theorem wSize_bd (n : Int) : 1 ≤ wSize n ∧ wSize n ≤ 6 := by
  unfold wSize
  omega
theorem wAt_bd (n : Int) : 0 ≤ wAt n ∧ wAt n < wSize n := by
  have h := wSize_bd n
  unfold wAt
  exact ⟨Int.emod_nonneg _ (by omega), Int.emod_lt_of_pos _ (by omega)⟩
theorem wFirst_bd (b : Nat) (n : Int) : b ≤ wFirst b n ∧ wFirst b n ≤ b + 25 := by
  unfold wFirst
  split <;> omega
theorem wRaw_len (b : Nat) (n : Int) : 1 ≤ (wRaw b n).length ∧ (wRaw b n).length ≤ 6 := by
  have h := wSize_bd n
  have g := wAt_bd n
  unfold wRaw
  rw [List.length_append, List.length_cons, List.length_replicate, List.length_replicate]
  omega
theorem wRaw_mem (b : Nat) (n : Int) : ∀ c ∈ wRaw b n, b ≤ c ∧ c ≤ b + 25 := fun c hc => by
  have f := wFirst_bd b n
  unfold wRaw at hc
  rcases List.mem_append.mp hc with h | h
  · rw [(List.mem_replicate.mp h).2]
    exact f
  · rcases List.mem_cons.mp h with e | h
    · rw [e]
      omega
    · rw [(List.mem_replicate.mp h).2]
      exact f
theorem W5_x : ∀ w ∈ W5, 1 ≤ (w ++ [120]).length ∧ (w ++ [120]).length ≤ 6 ∧ (∀ c ∈ w ++ [120], sm c = true) ∧ w ++ [120] ∉ W5 := by decide
theorem wordF_name (n : Int) : IsName (wordF 97 n) := by
  have l := wRaw_len 97 n
  unfold wordF
  split
  · rename_i h
    obtain ⟨a, b, c, d⟩ := W5_x _ h
    exact ⟨a, b, c, d⟩
  · rename_i h
    exact ⟨l.1, l.2, fun c hc => sm_iff.mpr (by have := wRaw_mem 97 n c hc; omega), h⟩
theorem wordF_row (n : Int) : IsRow (wordF 65 n) := by
  have l := wRaw_len 65 n
  unfold wordF
  split
  · rename_i h
    exfalso
    cases e : wRaw 65 n with
    | nil =>
      rw [e] at l
      exact absurd l.1 (by decide)
    | cons c t =>
      have a := wRaw_mem 65 n c (by rw [e]; exact List.mem_cons_self ..)
      have b := sm_iff.mp (W5_sm _ h c (by rw [e]; exact List.mem_cons_self ..))
      omega
  · exact ⟨l.1, l.2, fun c hc => gr_iff.mpr (by have := wRaw_mem 65 n c hc; omega)⟩
/-- the letters from b on -/
def letters (b : Nat) : List Nat := (List.range 26).map (b + ·)
theorem letter_at {z : Str} {b : Nat} (h : tl z = letters b) {i : Int} (h0 : 0 ≤ i) (h1 : i < 26) : z.cps[i.toNat]? = some (b + i.toNat) := by
  rw [← Array.getElem?_toList, show z.cps.toList = letters b from h]
  unfold letters
  rw [List.getElem?_map, List.getElem?_range (by omega)]
  rfl
theorem letters_len {z : Str} {b : Nat} (h : tl z = letters b) : z.length = 26 := by
  rw [len_tl, h]
  simp [letters]

/-! ### a sign so many times -/
theorem fold_rep (c : Nat) : ∀ (k : Nat) (acc : Array Nat), ((List.replicate k #[c]).foldl (· ++ ·) acc).toList = acc.toList ++ List.replicate k c
  | 0, acc => by simp
  | k + 1, acc => by
    rw [List.replicate_succ, List.foldl_cons, fold_rep c k, List.replicate_succ]
    simp
theorem mul_one (c : Nat) (n : Int) (h0 : 0 ≤ n) : Txt.mul (mkS [c]) n = mkS (List.replicate n.toNat c) := by
  unfold Txt.mul
  by_cases h1 : n < 1
  · have e : n = 0 := by omega
    subst e
    rfl
  · rw [if_neg h1]
    split
    · rename_i h
      have hl : ((mkS [c]).length == 0) = false := rfl
      rw [hl, Bool.or_false, beq_iff_eq] at h
      subst h
      rfl
    · refine ext_tl ?_
      show ((List.replicate n.toNat #[c]).foldl (· ++ ·) #[]).toList = _
      rw [fold_rep]
      rfl
theorem mulOk (c : Nat) {n : Int} (h0 : 0 ≤ n) (h1 : n ≤ 100) : MulOk (mkS [c]) n := by
  refine ⟨?_, fun h _ => ?_, fun _ _ => ?_⟩
  · rw [decide_eq_false (by omega), decide_eq_false (by omega)]
    rfl
  · have e : ((mkS [c]).length : Int) = 1 := rfl
    rw [e]
    have q : (1 : Int) ≤ (2 ^ 63 - 1) / n := (Int.le_ediv_iff_mul_le (by omega)).mpr (by omega)
    omega
  · have e : (mkS [c]).length * n.toNat = n.toNat := by
      show 1 * n.toNat = _
      rw [Nat.one_mul]
    rw [e]
    exact PyProof.Rows.short24 (by omega)
theorem op_mulS {X : Cx} : OpR X (binaryOp .Mult) (fun x y H Q => ∃ (c : Nat) (n : Int), x = .str (mkS [c]) ∧ y = .int n ∧ (0 ≤ n ∧ n ≤ 100) ∧ Q (.str (mkS (List.replicate n.toNat c))) H) := by
  intro pins s σ H x y v u Q I rx ry h
  obtain ⟨c, n, rfl, rfl, ⟨h0, h1⟩, q⟩ := h
  obtain ⟨t, rfl⟩ := rx
  obtain ⟨t', rfl⟩ := ry
  refine PySem.SB.mul (mulOk c h0 h1) fun t2 k => ⟨.str (mkS (List.replicate n.toNat c)), H, I.tok k, ?_, q⟩
  rw [mul_one c n h0]
  exact ⟨t2, rfl⟩
theorem in5 (w : List Nat) : inV (V.str (mkS w)) [V.str (Str.ofString "and"), V.str (Str.ofString "or"), V.str (Str.ofString "not"), V.str (Str.ofString "some"), V.str (Str.ofString "all")] = decide (w ∈ W5) := by
  have e : [V.str (Str.ofString "and"), V.str (Str.ofString "or"), V.str (Str.ofString "not"), V.str (Str.ofString "some"), V.str (Str.ofString "all")] = W5.map fun w => V.str (mkS w) := by decide +kernel
  rw [e]
  unfold inV
  rw [List.any_map, Bool.eq_iff_iff, List.any_eq_true, decide_eq_true_iff]
  constructor
  · rintro ⟨v, hv, h⟩
    have h' : (mkS v == mkS w) = true := h
    rw [beq_iff_eq] at h'
    rw [← mkS_inj h']
    exact hv
  · intro h
    refine ⟨w, h, ?_⟩
    show (mkS w == mkS w) = true
    rw [beq_iff_eq]

/-! ### the draws -/
/-- what _law_spread hands back: at least 930 draws, and a list of m whole numbers -/
def Spread (K : PySem.W.Frag) (H : Hp) (a : Addr) (ds : List Int) (m : Nat) : Prop := 930 ≤ ds.length ∧ m ≤ 63 ∧ ∃ (f g : Addr) (ms : List Int), SqL K H a [.ref f, .ref g] ∧ SqL K H f (ds.map V.int) ∧ SqL K H g (ms.map V.int) ∧ ms.length = m
theorem Spread.keep {K : PySem.W.Frag} {H H' : Hp} {a : Addr} {ds : List Int} {m : Nat} (h : Spread K H a ds m) (e : Same H H') : Spread K H' a ds m := by
  obtain ⟨h1, h2, f, g, ms, q1, q2, q3, q4⟩ := h
  exact ⟨h1, h2, f, g, ms, e.seq q1, e.seq q2, e.seq q3, q4⟩
def spDraw (K : PySem.W.Frag) : Sp := fun vs H Q _ => ∃ (a : Addr) (ds : List Int) (m k : Nat), vs = [.ref a, .int (k : Int)] ∧ Spread K H a ds m ∧ k < 930 ∧ Q (.int (ds.getD k 0)) H
def spWord : Sp := fun vs H Q _ => ∃ (n : Int) (z : Str) (b : Nat), vs = [.int n, .str z] ∧ tl z = letters b ∧ ∀ H', Same H H' → Q (.str (mkS (wordF b n))) H'
/-- the four names, the three rows' names of a script -/
def NS (ds : List Int) : List Str := [mkS (wordF 97 (ds.getD 900 0)), mkS (wordF 97 (ds.getD 901 0)), mkS (wordF 97 (ds.getD 902 0)), mkS (wordF 97 (ds.getD 903 0))]
def RS (ds : List Int) : List Str := [mkS (wordF 65 (ds.getD 920 0)), mkS (wordF 65 (ds.getD 921 0)), mkS (wordF 65 (ds.getD 922 0))]
def spNameL (K : PySem.W.Frag) : Sp := fun vs H Q _ => ∃ (a : Addr) (ds : List Int) (m : Nat) (n : Int), vs = [.ref a, .int n] ∧ Spread K H a ds m ∧ ∀ (w : List Nat) (H' : Hp), IsName w → mkS w ∈ NS ds → Same H H' → Q (.str (mkS w)) H'
def spRowL (K : PySem.W.Frag) : Sp := fun vs H Q _ => ∃ (a : Addr) (ds : List Int) (m : Nat) (n : Int), vs = [.ref a, .int n] ∧ Spread K H a ds m ∧ ∀ (w : List Nat) (H' : Hp), IsRow w → mkS w ∈ RS ds → Same H H' → Q (.str (mkS w)) H'
section
variable {P : Program} {w : World} {K : PySem.W.Frag} {mg : Str → Option Value} {base : Heap} {f f1 f2 f3 : Addr} {fd d1 d2 d3 : FuncData}
theorem scDraw : FnScope ["_law_spread_here", "_law_k"] ["_law_spread_here", "_law_k"] (defScope sDraw) := ⟨rfl, rfl, rfl, by decide +kernel, rfl, by decide +kernel, by decide +kernel⟩
theorem int_at {ds : List Int} {k : Nat} (h : k < ds.length) : atI (ds.map V.int) (k : Int) = some (.int (ds.getD k 0)) := by
  refine atI_nat ?_
  rw [List.getElem?_map, List.getElem?_eq_getElem h, List.getD_eq_getElem?_getD, List.getElem?_eq_getElem h]
  rfl
theorem ok_draw (D : Def K mg "_law_draw" sDraw ["_law_spread_here", "_law_k"] f fd) : FnOk P w K mg base CX0 1 f fd ["_law_spread_here", "_law_k"] (spDraw K) := by
  refine D.F.ok scDraw (fun vs H Q E h => ?_) (fun cdv A outer s H vs Q E hr h => ?_)
  · obtain ⟨a, ds, m, k, rfl, _⟩ := h
    rfl
  obtain ⟨a, ds, m, k, rfl, ⟨hl, _, f, g, ms, q1, q2, q3, q4⟩, hk, q⟩ := h
  refine ⟨_, pss_one (ps_ret (pe_ix ix_list (pe_ix ix_list (pv 0) pe_int (fun _ _ => rfl)) (pv 1) (fun _ _ => rfl))), ?_⟩
  exact ⟨_, rfl, a, _, _, _, rfl, rfl, q1, atI_nat rfl, _, rfl, f, _, _, _, rfl, rfl, q2, int_at (by omega), q⟩
theorem scWord : FnScope ["_law_number", "_law_letters", "_law_first", "_law_size", "_law_at", "_law_found"] ["_law_number", "_law_letters"] (defScope sWord) := ⟨rfl, rfl, rfl, by decide +kernel, rfl, by decide +kernel, by decide +kernel⟩
theorem ok_word (D : Def K mg "_law_word" sWord ["_law_number", "_law_letters"] f fd) : FnOk P w K mg base CX0 1 f fd ["_law_number", "_law_letters"] spWord := by
  refine D.F.ok scWord (fun vs H Q E h => ?_) (fun cdv A outer s H vs Q E hr h => ?_)
  · obtain ⟨n, z, b, rfl, _⟩ := h
    rfl
  obtain ⟨n, z, b, rfl, hz, q⟩ := h
  have nd := scWord.nd
  refine ⟨_, pss_cons (ps_set (i := 2) nd rfl (Or.inl rfl) (pe_item_str (pv 1) (pe_op o_mod (pv 0) pe_int) (fun _ _ => rfl)))
    (Evl.pss_cut (ps_if (pt_cmpR op_eq (pe_op o_mod (pe_op o_div (pv 0) pe_int) pe_int) pe_int (nomark _))
      (pss_one (ps_set (i := 2) nd rfl (Or.inl rfl) (pe_item_str (pv 1) (pe_op o_mod (pe_op o_div (pv 0) pe_int) pe_int) (fun _ _ => rfl)))) pss_nil)
    (pss_cons (ps_set (i := 3) nd rfl (Or.inl rfl) (pe_op o_add pe_int (pe_op o_mod (pe_op o_div (pv 0) pe_int) pe_int)))
    (pss_cons (ps_set (i := 4) nd rfl (Or.inl rfl) (pe_op o_mod (pe_op o_div (pv 0) pe_int) (pv 3)))
    (pss_cons (ps_set (i := 5) nd rfl (Or.inl rfl) (pe_op op_add_str (pe_op op_add_str (pe_op op_mulS (pv 2) (pv 4)) (pe_item_str (pv 1) (pe_op o_mod (pe_op o_div (pv 0) pe_int) pe_int) (fun _ _ => rfl)))
      (pe_op op_mulS (pv 2) (pe_op o_sub (pe_op o_sub (pv 3) (pv 4)) pe_int))))
    (Evl.pss_cut (ps_if (pt_cmpR op_in_seq (pv 5) (pe_tup (pa_cons pe_str (pa_cons pe_str (pa_cons pe_str (pa_cons pe_str (pa_cons pe_str pa_nil)))))) (by rfl)) (pss_one (ps_set (i := 5) nd rfl (Or.inl rfl) (pe_op op_add_str (pv 5) pe_str))) pss_nil)
    (pss_one (ps_ret (pv 5)))))))), ?_⟩
  have hl := letters_len hz
  have ltr : ∀ {i : Int}, 0 ≤ i → i < 26 → z.cps[i.toNat]? = some (b + i.toNat) := fun h0 h1 => letter_at hz h0 h1
  have m26 : 0 ≤ n % 26 ∧ n % 26 < 26 := by omega
  have m3 : 0 ≤ n / 52 % 3 ∧ n / 52 % 3 < 3 := by omega
  have l26 : 0 ≤ n / 5616 % 26 ∧ n / 5616 % 26 < 26 := by omega
  refine ⟨_, rfl, _, rfl, _, _, rfl, rfl, by decide, z, _, _, rfl, rfl, m26.1, by omega, by omega, ltr m26.1 m26.2, ?_⟩
  dsimp only [gName]
  refine ⟨fun σ' H' => σ' = [some (.int n), some (.str z), some (.str (mkS [wFirst b n])), none, none, none] ∧ H = H', ?_, ?_⟩
  · by_cases hc : n / 26 % 2 = 0
    · have e : wFirst b n = b + (n / 52 % 3).toNat := if_pos hc
      refine st_yes (fun Q q => ⟨_, rfl, _, _, rfl, rfl, ⟨by decide, by decide⟩, _, _, rfl, rfl, by decide, rfl, _, rfl, bE (decide_eq_true (by rw [hc])) q⟩) ?_
      refine ⟨_, rfl, _, rfl, _, _, rfl, rfl, ⟨by decide, by decide⟩, _, _, rfl, rfl, by decide, z, _, _, rfl, rfl, m3.1, by omega, by omega, ltr m3.1 (by omega), ?_⟩
      rw [e]
      exact ⟨rfl, rfl⟩
    · have e : wFirst b n = b + (n % 26).toNat := if_neg hc
      refine st_no (fun Q q => ⟨_, rfl, _, _, rfl, rfl, ⟨by decide, by decide⟩, _, _, rfl, rfl, by decide, rfl, _, rfl, bE (int_no hc) q⟩) ?_
      rw [e]
      exact ⟨rfl, rfl⟩
  rintro σ' H' ⟨rfl, rfl⟩
  have s6 := wSize_bd n
  have a6 := wAt_bd n
  refine ⟨_, rfl, _, _, rfl, rfl, ⟨by decide, by decide⟩, _, _, rfl, rfl, by decide, _, _, rfl, rfl, ?_⟩
  refine ⟨_, rfl, _, _, rfl, rfl, ⟨by decide, by decide⟩, _, rfl, _, _, rfl, rfl, by omega, ?_⟩
  refine ⟨_, rfl, _, rfl, wFirst b n, _, rfl, rfl, ⟨a6.1, by show wAt n ≤ 100; omega⟩, ?_⟩
  refine ⟨_, rfl, _, rfl, _, _, rfl, rfl, ⟨by decide, by decide⟩, _, _, rfl, rfl, by decide, z, _, _, rfl, rfl, l26.1, by omega, by omega, ltr l26.1 l26.2, _, _, rfl, rfl, ?_, ?_⟩
  · refine sz ?_
    show (mkS (List.replicate (wAt n).toNat (wFirst b n))).length + (mkS [_]).length ≤ 1000
    rw [len_mkS, len_mkS, List.length_replicate, List.length_singleton]
    omega
  refine ⟨_, rfl, _, rfl, _, rfl, _, _, rfl, rfl, _, _, rfl, rfl, wFirst b n, _, rfl, rfl, ?_, _, _, rfl, rfl, ?_, ?_⟩
  · show 0 ≤ wSize n - wAt n - 1 ∧ wSize n - wAt n - 1 ≤ 100
    omega
  · refine sz ?_
    show (mkS (List.replicate (wAt n).toNat (wFirst b n)) ++ mkS [b + (n / 5616 % 26).toNat]).length + (mkS (List.replicate (wSize n - wAt n - 1).toNat (wFirst b n))).length ≤ 1000
    rw [len_tl, tl_append, tl_mkS, tl_mkS, len_mkS, List.length_append, List.length_replicate, List.length_replicate, List.length_singleton]
    omega
  have er : mkS (List.replicate (wAt n).toNat (wFirst b n)) ++ mkS [b + (n / 5616 % 26).toNat] ++ mkS (List.replicate (wSize n - wAt n - 1).toNat (wFirst b n)) = mkS (wRaw b n) := by
    refine ext_tl ?_
    rw [tl_append, tl_append, tl_mkS, tl_mkS, tl_mkS, tl_mkS]
    unfold wRaw
    rw [List.append_assoc]
    rfl
  have lr := wRaw_len b n
  dsimp only [gName]
  refine ⟨fun σ' H' => σ'[5]? = some (some (.str (mkS (wordF b n)))) ∧ Same H H', ?_, ?_⟩
  · refine ⟨_, rfl, by show 5 ≤ sizeLine; decide, fun T hT => ⟨T, _, rfl, .inr (SqT.of upd_same), rfl, by decide, _, rfl, ?_⟩⟩
    show (if inV (V.str (mkS (List.replicate (wAt n).toNat (wFirst b n)) ++ mkS [b + (n / 5616 % 26).toNat] ++ mkS (List.replicate (wSize n - wAt n - 1).toNat (wFirst b n)))) _ = true then _ else _)
    rw [er, in5]
    by_cases hw : wRaw b n ∈ W5
    · have e5 : wordF b n = wRaw b n ++ [120] := if_pos hw
      have xS : tl (Str.ofString "x") = [120] := by decide +kernel
      refine ifT (decide_eq_true hw) ?_
      refine ⟨_, rfl, _, _, rfl, rfl, ?_, ?_⟩
      · refine sz ?_
        show (mkS (List.replicate (wAt n).toNat (wFirst b n)) ++ mkS [b + (n / 5616 % 26).toNat] ++ mkS (List.replicate (wSize n - wAt n - 1).toNat (wFirst b n))).length + (Str.ofString "x").length ≤ 1000
        rw [er, len_mkS, len_tl, xS]
        show (wRaw b n).length + 1 ≤ 1000
        omega
      · refine ⟨?_, Same.new hT⟩
        show some (some (V.str (mkS (List.replicate (wAt n).toNat (wFirst b n)) ++ mkS [b + (n / 5616 % 26).toNat] ++ mkS (List.replicate (wSize n - wAt n - 1).toNat (wFirst b n)) ++ Str.ofString "x"))) = _
        rw [er, e5, show mkS (wRaw b n) ++ Str.ofString "x" = mkS (wRaw b n ++ [120]) from ext_tl (by rw [tl_append, xS]; rfl)]
    · have e5 : wordF b n = wRaw b n := if_neg hw
      refine ifF (decide_eq_false hw) ?_
      refine ⟨?_, Same.new hT⟩
      show some (some (V.str (mkS (List.replicate (wAt n).toNat (wFirst b n)) ++ mkS [b + (n / 5616 % 26).toNat] ++ mkS (List.replicate (wSize n - wAt n - 1).toNat (wFirst b n))))) = _
      rw [er, e5]
  · rintro σ' H' ⟨e, s1⟩
    exact ⟨_, e, q H' s1⟩
theorem scNameL : FnScope ["_law_spread_here", "_law_number"] ["_law_spread_here", "_law_number"] (defScope sNameL) := ⟨rfl, rfl, rfl, by decide +kernel, rfl, by decide +kernel, by decide +kernel⟩
theorem smallL : tl (Str.ofString "abcdefghijklmnopqrstuvwxyz") = letters 97 := by decide +kernel
theorem greatL : tl (Str.ofString "ABCDEFGHIJKLMNOPQRSTUVWXYZ") = letters 65 := by decide +kernel
theorem ok_nameL (D : Def K mg "_law_name" sNameL ["_law_spread_here", "_law_number"] f fd) (D1 : Def K mg "_law_word" sWord ["_law_number", "_law_letters"] f1 d1) (G1 : FnOk P w K mg base CX0 1 f1 d1 ["_law_number", "_law_letters"] spWord)
    (D2 : Def K mg "_law_draw" sDraw ["_law_spread_here", "_law_k"] f2 d2) (G2 : FnOk P w K mg base CX0 1 f2 d2 ["_law_spread_here", "_law_k"] (spDraw K)) : FnOk P w K mg base CX0 2 f fd ["_law_spread_here", "_law_number"] (spNameL K) := by
  refine D.F.ok scNameL (fun vs H Q E h => ?_) (fun cdv A outer s H vs Q E hr h => ?_)
  · obtain ⟨a, ds, m, n, rfl, _⟩ := h
    rfl
  obtain ⟨a, ds, m, n, rfl, hS, q⟩ := h
  refine ⟨_, pss_one (ps_ret (pe_call G1 hr rfl D1.m D1.F.kp D1.b .nil pass0 (pa_cons (pe_call G2 hr rfl D2.m D2.F.kp D2.b .nil pass0 (pa_cons (pv 0) (pa_cons (pe_op o_add pe_int (pe_op o_mod (pv 1) pe_int)) pa_nil))) (pa_cons pe_str pa_nil)))), ?_⟩
  have h4 : 0 ≤ n % 4 ∧ n % 4 < 4 := by omega
  refine ⟨_, rfl, _, rfl, _, _, rfl, rfl, by decide, _, _, rfl, rfl, a, ds, m, 900 + (n % 4).toNat, ?_, hS, by omega, ?_⟩
  · have e : (900 : Int) + n % 4 = ((900 + (n % 4).toNat : Nat) : Int) := by omega
    rw [e]
    rfl
  refine ⟨_, _, 97, rfl, smallL, fun H1 s1 => q _ H1 (wordF_name _) ?_ s1⟩
  have c : (n % 4).toNat = 0 ∨ (n % 4).toNat = 1 ∨ (n % 4).toNat = 2 ∨ (n % 4).toNat = 3 := by omega
  unfold NS
  rcases c with e | e | e | e <;> rw [e] <;> simp
theorem scRowL : FnScope ["_law_spread_here", "_law_number"] ["_law_spread_here", "_law_number"] (defScope sRowL) := ⟨rfl, rfl, rfl, by decide +kernel, rfl, by decide +kernel, by decide +kernel⟩
theorem ok_rowL (D : Def K mg "_law_row" sRowL ["_law_spread_here", "_law_number"] f fd) (D1 : Def K mg "_law_word" sWord ["_law_number", "_law_letters"] f1 d1) (G1 : FnOk P w K mg base CX0 1 f1 d1 ["_law_number", "_law_letters"] spWord)
    (D2 : Def K mg "_law_draw" sDraw ["_law_spread_here", "_law_k"] f2 d2) (G2 : FnOk P w K mg base CX0 1 f2 d2 ["_law_spread_here", "_law_k"] (spDraw K)) : FnOk P w K mg base CX0 2 f fd ["_law_spread_here", "_law_number"] (spRowL K) := by
  refine D.F.ok scRowL (fun vs H Q E h => ?_) (fun cdv A outer s H vs Q E hr h => ?_)
  · obtain ⟨a, ds, m, n, rfl, _⟩ := h
    rfl
  obtain ⟨a, ds, m, n, rfl, hS, q⟩ := h
  refine ⟨_, pss_one (ps_ret (pe_call G1 hr rfl D1.m D1.F.kp D1.b .nil pass0 (pa_cons (pe_call G2 hr rfl D2.m D2.F.kp D2.b .nil pass0 (pa_cons (pv 0) (pa_cons (pe_op o_add pe_int (pe_op o_mod (pv 1) pe_int)) pa_nil))) (pa_cons pe_str pa_nil)))), ?_⟩
  have h4 : 0 ≤ n % 3 ∧ n % 3 < 3 := by omega
  refine ⟨_, rfl, _, rfl, _, _, rfl, rfl, by decide, _, _, rfl, rfl, a, ds, m, 920 + (n % 3).toNat, ?_, hS, by omega, ?_⟩
  · have e : (920 : Int) + n % 3 = ((920 + (n % 3).toNat : Nat) : Int) := by omega
    rw [e]
    rfl
  refine ⟨_, _, 65, rfl, greatL, fun H1 s1 => q _ H1 (wordF_row _) ?_ s1⟩
  have c : (n % 3).toNat = 0 ∨ (n % 3).toNat = 1 ∨ (n % 3).toNat = 2 := by omega
  unfold RS
  rcases c with e | e | e <;> rw [e] <;> simp
end
end K53

/-! The law's draws, made: _law_mixed, _law_spread. -/
namespace K53
open PySem L2 TL

abbrev sMixed : Stmt := tp 28
abbrev sSpread : Stmt := tp 29
def spMixed (K : PySem.W.Frag) : Sp := fun vs H Q _ => ∃ (a : Addr) (ns : List Int) (k : Nat), vs = [.ref a, .int (k : Int)] ∧ SqL K H a (ns.map V.int) ∧ ns.length ≤ 63 ∧ k < 930 ∧ ∀ n : Int, Q (.int n) H
def spSpread (K : PySem.W.Frag) : Sp := fun vs H Q _ => ∃ (a : Addr) (ns : List Int), vs = [.ref a] ∧ SqL K H a (ns.map V.int) ∧ ns.length ≤ 63 ∧ ∀ (b : Addr) (ds : List Int) (m : Nat) (H' : Hp), Same H H' → Spread K H' b ds m → Q (.ref b) H'
section
variable {P : Program} {w : World} {K : PySem.W.Frag} {mg : Str → Option Value} {base : Heap} {f f1 f2 f3 : Addr} {fd d1 d2 d3 : FuncData}
theorem scMixed : FnScope ["_law_script", "_law_k", "_law_cell", "_law_number"] ["_law_script", "_law_k"] (defScope sMixed) := ⟨rfl, rfl, rfl, by decide +kernel, rfl, by decide +kernel, by decide +kernel⟩
theorem ok_mixed (D : Def K mg "_law_mixed" sMixed ["_law_script", "_law_k"] f fd) (X : Tx K mg) : FnOk P w K mg base CX0 1 f fd ["_law_script", "_law_k"] (spMixed K) := by
  refine D.F.ok scMixed (fun vs H Q E h => ?_) (fun cdv A outer s H vs Q E hr h => ?_)
  · obtain ⟨a, ns, k, rfl, _⟩ := h
    rfl
  obtain ⟨a, ns, k, rfl, hS, h63, hk, q⟩ := h
  have nd := scMixed.nd
  refine ⟨_, pss_cons (ps_set (i := 2) nd rfl (Or.inl rfl) (pe_op o_add (pe_op o_mul pe_int (pv 1)) pe_int))
    (Evl.pss_cut (ps_if (pt_cmpR op_gt (pe_callB call_len_seq rfl X.len PySem.boot_len (pa_cons (pv 0) pa_nil)) pe_int (nomark _))
      (pss_one (ps_set (i := 2) nd rfl (Or.inl rfl) (pe_op o_mod (pe_ix ix_list (pv 0) (pe_op o_mod (pv 1) (pe_callB call_len_seq rfl X.len PySem.boot_len (pa_cons (pv 0) pa_nil))) (fun _ _ => rfl)) pe_int))) pss_nil)
    (pss_cons (ps_set (i := 3) nd rfl (Or.inl rfl) (pe_op o_mod (pe_op o_add (pe_op o_add (pe_op o_mul (pv 2) (pe_op o_add pe_int (pe_op o_mul (pe_op o_mul pe_int (pv 1)) (pv 1)))) (pe_op o_mul (pv 1) pe_int)) pe_int) pe_int))
    (pss_cons (ps_set (i := 3) nd rfl (Or.inl rfl) (pe_op o_mod (pe_op o_mul (pv 3) (pv 3)) pe_int))
    (pss_one (ps_ret (pe_op o_mod (pe_op o_add (pe_op o_add (pe_op o_mul (pv 3) pe_int) (pe_op o_mul (pe_op o_mul (pv 1) (pv 1)) pe_int)) pe_int) pe_int)))))), ?_⟩
  refine ⟨_, rfl, _, _, rfl, rfl, ⟨by decide, by decide⟩, _, _, rfl, rfl, ?_⟩
  dsimp only [gName]
  refine ⟨fun σ' H' => ∃ c : Int, (-(2 ^ 64) < c ∧ c < 2 ^ 64) ∧ σ' = [some (.ref a), some (.int (k : Int)), some (.int c), none] ∧ H = H', ?_, ?_⟩
  · have hm : (ns.map V.int).length = ns.length := List.length_map _
    by_cases h0 : 0 < ns.length
    · refine st_yes (fun Q q => ⟨_, rfl, a, _, rfl, .inl hS, _, _, rfl, rfl, _, rfl, dT (by rw [hm]; omega) q⟩) ?_
      have hi : k % ns.length < ns.length := Nat.mod_lt _ h0
      have em : ((k : Nat) : Int) % ((ns.length : Nat) : Int) = ((k % ns.length : Nat) : Int) := by omega
      refine ⟨_, rfl, _, rfl, _, rfl, a, _, rfl, .inl hS, _, _, rfl, rfl, by rw [hm]; omega, a, _, _, .int ns[k % ns.length], rfl, rfl, hS, ?_, _, _, rfl, rfl, by decide, ?_⟩
      · rw [hm, em]
        refine atI_nat ?_
        rw [List.getElem?_map, List.getElem?_eq_getElem hi]
        rfl
      · have b1 := Int.emod_nonneg ns[k % ns.length] (show (2147483629 : Int) ≠ 0 by decide)
        have b2 := Int.emod_lt_of_pos ns[k % ns.length] (show (0 : Int) < 2147483629 by decide)
        exact ⟨_, ⟨by omega, by omega⟩, rfl, rfl⟩
    · refine st_no (fun Q q => ⟨_, rfl, a, _, rfl, .inl hS, _, _, rfl, rfl, _, rfl, dF (by rw [hm]; omega) q⟩) ?_
      exact ⟨2 * (k : Int) + 1, ⟨by omega, by omega⟩, rfl, rfl⟩
  rintro σ' H' ⟨c, hc, rfl, rfl⟩
  refine ⟨_, rfl, _, rfl, _, _, rfl, rfl, ⟨by decide, by decide⟩, _, rfl, _, _, rfl, rfl, ⟨by omega, by omega⟩, _, _, rfl, rfl, _, _, rfl, rfl, hc, ?_⟩
  refine ⟨_, rfl, _, _, rfl, rfl, ⟨by omega, by omega⟩, _, _, rfl, rfl, _, _, rfl, rfl, _, _, rfl, rfl, by decide, ?_⟩
  have p1 := Int.emod_nonneg (c * (48271 + 2 * (k : Int) * (k : Int)) + (k : Int) * 7919 + 11) (show (2147483647 : Int) ≠ 0 by decide)
  have p2 := Int.emod_lt_of_pos (c * (48271 + 2 * (k : Int) * (k : Int)) + (k : Int) * 7919 + 11) (show (0 : Int) < 2147483647 by decide)
  generalize (c * (48271 + 2 * (k : Int) * (k : Int)) + (k : Int) * 7919 + 11) % 2147483647 = n1 at p1 p2 ⊢
  refine ⟨_, rfl, _, rfl, _, _, rfl, rfl, ⟨by omega, by omega⟩, _, _, rfl, rfl, by decide, ?_⟩
  have p3 := Int.emod_nonneg (n1 * n1) (show (2147483587 : Int) ≠ 0 by decide)
  have p4 := Int.emod_lt_of_pos (n1 * n1) (show (0 : Int) < 2147483587 by decide)
  generalize (n1 * n1) % 2147483587 = n2 at p3 p4 ⊢
  refine ⟨_, rfl, _, _, rfl, rfl, ⟨by omega, by omega⟩, _, rfl, _, rfl, _, _, rfl, rfl, ⟨by omega, by omega⟩, _, _, rfl, rfl, ?_, _, _, rfl, rfl, _, _, rfl, rfl, _, _, rfl, rfl, by decide, q _⟩
  have hk2 : (k : Int) * (k : Int) ≤ 930 * 930 := Int.mul_le_mul (by omega) (by omega) (by omega) (by omega)
  have hk0 : 0 ≤ (k : Int) * (k : Int) := Int.mul_nonneg (by omega) (by omega)
  exact ⟨by omega, by omega⟩
theorem yes_in {A B : Hp → Prop} {σ : St} {H : Hp} (a : A H) : tYes σ H (fun b H3 => if b = true then A H3 else B H3) := ifT (c := true) (A := A H) (B := B H) rfl a
theorem cut_one {x : V} {xs : List V} : cutV (x :: xs) (some 1) none = xs := by
  have a : HT.sIx (x :: xs).length 0 (some 1) = 1 := by simp [HT.sIx]
  have b : HT.sIx (x :: xs).length (x :: xs).length none = xs.length + 1 := by simp [HT.sIx]
  unfold cutV
  rw [a, b]
  simp
theorem scSpread : FnScope ["_law_script", "_law_left", "_law_found", "_law_at", "_law_digit", "_law_k"] ["_law_script"] (defScope sSpread) := ⟨rfl, rfl, rfl, by decide +kernel, rfl, by decide +kernel, by decide +kernel⟩
theorem ok_spread (D : Def K mg "_law_spread" sSpread ["_law_script"] f fd) (X : Tx K mg) (D1 : Def K mg "_law_mixed" sMixed ["_law_script", "_law_k"] f1 d1) (G1 : FnOk P w K mg base CX0 1 f1 d1 ["_law_script", "_law_k"] (spMixed K)) : FnOk P w K mg base CX0 2 f fd ["_law_script"] (spSpread K) := by
  refine D.F.ok scSpread (fun vs H Q E h => ?_) (fun cdv A outer s H vs Q E hr h => ?_)
  · obtain ⟨a, ns, rfl, _⟩ := h
    rfl
  obtain ⟨a, ns, rfl, hS, h63, q⟩ := h
  have nd := scSpread.nd
  refine ⟨_, pss_cons (ps_if (PW.pt (pw_or (pt_cmpR op_eq (pe_callB call_len_seq rfl X.len PySem.boot_len (pa_cons (pv 0) pa_nil)) pe_int (nomark _)) (pw_or1 (pt_cmpR op_eq (pe_op o_mod (pe_ix ix_list (pv 0) pe_int (fun _ _ => rfl)) pe_int) pe_int (nomark _)))))
      (pss_one (ps_ret (pe_lst (pa_cons (pe_lc (own := [("_law_k", 5)]) (g := gName 5) (tt := tYes) rfl nd (pi_range1 rfl X.range (pa_cons pe_int pa_nil)) (blkOk_by (N := ["_law_script", "_law_left", "_law_found", "_law_at", "_law_digit", "_law_k"]) (sc := defScope sSpread) (by decide +kernel)) (fun _ _ _ _ _ => pg_name (i := 5) nd rfl (Or.inl rfl)) (fun _ _ _ _ _ => pts_nil)
        (fun _ _ _ _ _ => pe_call G1 hr rfl D1.m D1.F.kp D1.b .nil pass0 (pa_cons (pv 0) (pa_cons (pv 5) pa_nil)))) (pa_cons (pv 0) pa_nil))))) pss_nil)
    (pss_cons (ps_set (i := 1) nd rfl (Or.inl rfl) (pe_op op_cat (pe_lst (pa_cons (pe_op o_div (pe_ix ix_list (pv 0) pe_int (fun _ _ => rfl)) pe_int) pa_nil)) (pe_slice sl_list (pv 0) (po_some pe_int) po_none)))
    (pss_cons (ps_set (i := 2) nd rfl (Or.inl rfl) (pe_lst pa_nil))
    (pss_cons (ps_while PassesOwn.never (pt_cmpR op_lt (pe_callB call_len_seq rfl X.len PySem.boot_len (pa_cons (pv 2) pa_nil)) pe_int (nomark _))
      (pss_one (ps_for PassesOwn.never rfl (pi_range1 rfl X.range (pa_cons (pe_callB call_len_seq rfl X.len PySem.boot_len (pa_cons (pv 1) pa_nil)) pa_nil)) (pg_name (i := 3) nd rfl (Or.inl rfl))
        (pss_cons (ps_asg (pe_callB call_divmodW rfl X.divmod (by decide +kernel) (pa_cons (pe_ix ix_list (pv 1) (pv 3) (fun _ _ => rfl)) (pa_cons pe_int pa_nil))) (pg_tup rfl (pgs_cons (pg_sub (pv 1) (pv 3) set_list) (pgs_cons (pg_name (i := 4) nd rfl (Or.inl rfl)) pgs_nil))))
        (pss_one (ps_expr (pe_bm PySem.F.plainAttrs_list PySem.F.slot_list_append PySem.F.type_list_append mt_append (pv 2) (pa_cons (pv 4) pa_nil))))))))
    (pss_one (ps_ret (pe_lst (pa_cons (pv 2) (pa_cons (pv 1) pa_nil)))))))), ?_⟩
  by_cases hc : ns = [] ∨ ns.getD 0 0 % 2 = 1
  · refine st_yes (fun Q q => ?_) ?_
    · by_cases h0 : ns = []
      · refine ⟨_, rfl, a, _, rfl, .inl hS, rfl, _, rfl, ifT (decide_eq_true ?_) q⟩
        rw [List.length_map, h0]
        rfl
      · have hl : 0 < ns.length := List.length_pos_iff.mpr h0
        have hv : ns.getD 0 0 % 2 = 1 := hc.resolve_left h0
        refine ⟨_, rfl, a, _, rfl, .inl hS, rfl, _, rfl, ifF (int_no ?_) ⟨_, rfl, a, _, _, _, rfl, rfl, hS, int_at (k := 0) hl, _, _, rfl, rfl, by decide, rfl, _, rfl, bE (decide_eq_true (by rw [hv])) q⟩⟩
        rw [List.length_map]
        omega
    refine ⟨930, rfl, by decide, by decide, fun L hL => lc_range (lo := 0) (n := 930) (fun i H' => ∃ ds : List Int, ds.length = i ∧ H' L = some (.lst (ds.map V.int)) ∧ Same H H') ⟨[], rfl, upd_same, Same.new hL⟩ ?_ ?_⟩
    · rintro i H1 hi ⟨ds, hd, el, s1⟩
      refine ⟨rfl, yes_in ?_⟩
      refine ⟨_, rfl, _, rfl, a, ns, i, ?_, s1.seq hS, h63, hi, fun n => ⟨_, el, ?_, ds ++ [n], ?_, ?_, ?_⟩⟩
      · show [V.ref a, V.int (0 + (i : Int))] = _
        rw [Int.zero_add]
      · rw [List.length_map]
        exact small1000 (by omega)
      · rw [List.length_append, hd]
        rfl
      · rw [upd_same, List.map_append]
        rfl
      · exact s1.mut hL
    · rintro H1 ⟨ds, hd, el, s1⟩
      refine ⟨_, rfl, two1000, fun b hb => q b ds ns.length _ (s1.trans (Same.new hb)) ⟨by omega, h63, L, a, ns, SqL.of upd_same, SqL.of ((Same.new hb) _ _ el), ((s1.trans (Same.new hb))).seq hS, rfl⟩⟩
  obtain ⟨n0, l1, rfl⟩ : ∃ n0 l1, ns = n0 :: l1 := by
    cases ns with
    | nil => exact absurd (Or.inl rfl) hc
    | cons n0 l1 => exact ⟨n0, l1, rfl⟩
  have hl1 : l1.length + 1 ≤ 63 := h63
  refine st_no (fun Q q => ⟨_, rfl, a, _, rfl, .inl hS, rfl, _, rfl, ifF (int_no ?_) ⟨_, rfl, a, _, _, _, rfl, rfl, hS, int_at (k := 0) (by show 0 < l1.length + 1; omega), _, _, rfl, rfl, by decide, rfl, _, rfl, bE (int_no fun e => hc (.inr e)) q⟩⟩) ?_
  · rw [List.length_map]
    show ((l1.length + 1 : Nat) : Int) ≠ 0
    omega
  dsimp only
  refine ⟨_, rfl, a, _, _, _, rfl, rfl, hS, int_at (k := 0) (by show 0 < l1.length + 1; omega), _, _, rfl, rfl, ⟨by decide, by decide⟩, by show 1 ≤ sizeLine; decide, fun p hp => ⟨_, rfl, _, rfl, a, _, rfl, (Same.new hp).seq hS, fun p2 hp2 => ⟨p, p2, [V.int ((n0 :: l1).getD 0 0 / 2)], l1.map V.int, rfl, rfl, (Same.new hp2) _ _ upd_same, ?_, ?_, fun p3 hp3 => ?_⟩⟩⟩
  · rw [upd_same]
    exact congrArg (fun x => some (HO.lst x)) (cut_one (x := V.int n0))
  · refine sz ?_
    rw [List.length_map]
    show 1 + l1.length ≤ 1000
    omega
  have s2 : Same H (upd (upd H p (.lst [V.int ((n0 :: l1).getD 0 0 / 2)])) p2 (.lst (cutV (List.map V.int (n0 :: l1)) (some 1) none))) := (Same.new hp).trans (Same.new hp2)
  generalize upd (upd H p (.lst [V.int ((n0 :: l1).getD 0 0 / 2)])) p2 (.lst (cutV (List.map V.int (n0 :: l1)) (some 1) none)) = H2 at s2 hp3 ⊢
  dsimp only [gName]
  refine ⟨by show 0 ≤ sizeLine; decide, fun p4 hp4 => ?_⟩
  have n3 : H p3 = none := s2.free hp3
  have s3 : Same H (upd H2 p3 (.lst ([V.int ((n0 :: l1).getD 0 0 / 2)] ++ l1.map V.int))) := s2.trans (Same.new hp3)
  have e3 : (upd H2 p3 (.lst ([V.int ((n0 :: l1).getD 0 0 / 2)] ++ l1.map V.int))) p3 = some (.lst (((n0 :: l1).getD 0 0 / 2 :: l1).map V.int)) := upd_same
  generalize upd H2 p3 (.lst ([V.int ((n0 :: l1).getD 0 0 / 2)] ++ l1.map V.int)) = H3 at s3 e3 hp4 ⊢
  have n4 : H p4 = none := s3.free hp4
  have n34 : p3 ≠ p4 := fun e => by
    subst e
    rw [hp4] at e3
    cases e3
  dsimp only [gName]
  refine ⟨fun m σ H' => ∃ (ls ds : List Int) (x3 x4 : Option V), m = 930 - ds.length ∧ ds.length < 1000 ∧ σ = [some (.ref a), some (.ref p3), some (.ref p4), x3, x4, none] ∧ H' p3 = some (.lst (ls.map V.int)) ∧ ls.length = l1.length + 1 ∧ H' p4 = some (.lst (ds.map V.int)) ∧ Same H H',
    ⟨930, (n0 :: l1).getD 0 0 / 2 :: l1, [], none, none, rfl, by decide, rfl, (Same.new hp4) _ _ e3, rfl, upd_same, s3.trans (Same.new hp4)⟩, ?_⟩
  rintro m σ H4 ⟨ls, ds, x3, x4, rfl, hd, rfl, el, hl, ed, s4⟩
  have hld : (ds.map V.int).length = ds.length := List.length_map _
  have hll : (ls.map V.int).length = ls.length := List.length_map _
  by_cases hw : ds.length < 930
  · refine useT (fun Q q => ⟨_, rfl, p4, _, rfl, .inl (SqL.of ed), _, _, rfl, rfl, _, rfl, dT (by rw [hld]; omega) q⟩) ?_
    refine ⟨fun σ' H' => ∃ (ls ds' : List Int) (x3 x4 : Option V), 930 - ds'.length < 930 - ds.length ∧ ds'.length < 1000 ∧ σ' = [some (.ref a), some (.ref p3), some (.ref p4), x3, x4, none] ∧ H' p3 = some (.lst (ls.map V.int)) ∧ ls.length = l1.length + 1 ∧ H' p4 = some (.lst (ds'.map V.int)) ∧ Same H H',
      fun σ' H' ⟨ls, ds', x3, x4, z, h⟩ => ⟨_, z, ls, ds', x3, x4, rfl, h⟩, ?_⟩
    refine ⟨_, rfl, p3, _, rfl, .inl (SqL.of el), _, rfl, by rw [hll]; omega, by rw [hll]; omega, ?_⟩
    rw [hll, Int.toNat_natCast, hl]
    refine for_range (lo := 0) (n := l1.length + 1) (fun i σ' H' => ∃ (ls ds' : List Int) (x3 x4 : Option V), ds'.length = ds.length + i ∧ σ' = [some (.ref a), some (.ref p3), some (.ref p4), x3, x4, none] ∧ H' p3 = some (.lst (ls.map V.int)) ∧ ls.length = l1.length + 1 ∧ H' p4 = some (.lst (ds'.map V.int)) ∧ Same H H')
      ⟨ls, ds, x3, x4, rfl, rfl, el, hl, ed, s4⟩ ?_ ?_
    · rintro i σ H5 hi ⟨ks, es, y3, y4, he, rfl, el5, hl5, ed5, s5⟩
      have hk : (ks.map V.int).length = ks.length := List.length_map _
      rw [Int.zero_add]
      dsimp only [gName]
      refine ⟨_, rfl, _, rfl, p3, _, _, _, rfl, rfl, SqL.of el5, int_at (k := i) (by omega), ks.getD i 0, _, rfl, ⟨by decide, PyProof.noPylong_of_log2 (by decide +kernel)⟩, fun t ht => ⟨t, _, rfl, SqT.of upd_same, rfl, _, _, rfl, ?_⟩⟩
      refine ⟨_, rfl, _, rfl, p3, _, _, i, rfl, rfl, (Same.new ht) _ _ el5, by rw [hk]; exact Evl.ixN_nat (by omega), _, _, rfl, rfl, ?_⟩
      have s6 : Same H (upd H5 t (.tup [V.int (ks.getD i 0 / 2147483629), V.int (ks.getD i 0 % 2147483629)])) := s5.trans (Same.new ht)
      have ed6 := (Same.new ht (o := .tup [V.int (ks.getD i 0 / 2147483629), V.int (ks.getD i 0 % 2147483629)])) _ _ ed5
      generalize upd H5 t (.tup [V.int (ks.getD i 0 / 2147483629), V.int (ks.getD i 0 % 2147483629)]) = H6 at s6 ed6 ⊢
      have ed7 : (upd H6 p3 (.lst ((ks.map V.int).set i (V.int (ks.getD i 0 / 2147483629))))) p4 = some (.lst (es.map V.int)) := by
        rw [upd_ne (fun e => n34 e.symm)]
        exact ed6
      refine ⟨_, rfl, .inl ⟨rfl, _, SqL.of ed7⟩, _, rfl, p4, _, _, rfl, rfl, ed7, small1000 (by rw [List.length_map]; omega), ?_⟩
      refine ⟨ks.set i (ks.getD i 0 / 2147483629), es ++ [ks.getD i 0 % 2147483629], _, _, by rw [List.length_append, he]; show ds.length + i + 1 = _; omega, rfl, ?_, by rw [List.length_set]; exact hl5, ?_, (s6.mut n3).mut n4⟩
      · rw [upd_ne n34, upd_same, List.map_set]
      · rw [upd_same, List.map_append]
        rfl
    · rintro σ H5 ⟨ks, es, y3, y4, he, rfl, el5, hl5, ed5, s5⟩
      exact ⟨ks, es, y3, y4, by omega, by omega, rfl, el5, hl5, ed5, s5⟩
  · refine useF (fun Q q => ⟨_, rfl, p4, _, rfl, .inl (SqL.of ed), _, _, rfl, rfl, _, rfl, dF (by rw [hld]; omega) q⟩) ?_
    dsimp only
    refine ⟨_, rfl, _, rfl, two1000, fun b hb => q b ds (l1.length + 1) _ (s4.trans (Same.new hb)) ⟨by omega, by omega, p4, p3, ls, SqL.of upd_same, SqL.of ((Same.new hb) _ _ ed), SqL.of ((Same.new hb) _ _ el), hl⟩⟩
end
end K53

/-! The law's sums. -/
namespace K53
open PySem L2 TL

theorem ne_of_none' {H : Hp} {a b : Addr} {o : HO} (h : H b = none) (h1 : H a = some o) : a ≠ b := fun e => by
  rw [e, h] at h1
  cases h1
abbrev sSumL : Stmt := tp 34
def spSumL (K : PySem.W.Frag) : Sp := fun vs H Q _ => ∃ (a : Addr) (ds : List Int) (m k : Nat), vs = [.ref a, .int (k : Int)] ∧ Spread K H a ds m ∧ k + 9 < 930 ∧
  ∀ (ps : List Part) (v : V) (ws : List Str) (b l : Addr) (H' : Hp), SumOk ps → Same H H' → H' b = some (.lst [v, .str (mkS (sumT ps)), .ref l]) → Rep K H' v (sumD ps) → H' l = some (.lst (ws.map V.str)) → ws.length ≤ 8 → (∀ w ∈ ws, w ∈ NS ds) → Q (.ref b) H'

/-- what the loop holds -/
structure SumI (K : PySem.W.Frag) (G : Hp) (lp lt ln : Addr) (N : List Str) (ps : List Part) (vs : List V) (ws : List Str) (H : Hp) : Prop where
  el : H lp = some (.lst vs)
  ll : vs.length = ps.length
  rl : Reps K H vs (ps.map Part.dat)
  et : H lt = some (.lst (ps.map fun p => V.str (mkS p.text)))
  en : H ln = some (.lst (ws.map V.str))
  ln : ws.length ≤ ps.length
  hn : ∀ w ∈ ws, w ∈ N
  ok : ∀ p ∈ ps, p.Ok
  sm : Same G H
structure Three (G : Hp) (lp lt ln : Addr) : Prop where
  p : G lp = none
  t : G lt = none
  n : G ln = none
  pt : lp ≠ lt
  pn : lp ≠ ln
  tn : lt ≠ ln
section
variable {K : PySem.W.Frag} {G H H' : Hp} {lp lt ln : Addr} {N : List Str} {ps : List Part} {vs : List V} {ws : List Str}
theorem SumI.grow (h : SumI K G lp lt ln N ps vs ws H) (s : Same H H') : SumI K G lp lt ln N ps vs ws H' := ⟨s _ _ h.el, h.ll, h.rl.keep s.tups, s _ _ h.et, s _ _ h.en, h.ln, h.hn, h.ok, h.sm.trans s⟩
/-- one part more, no name -/
theorem SumI.one (h : SumI K G lp lt ln N ps vs ws H) (g : Three G lp lt ln) {p : Part} (okp : p.Ok) {t : Addr} {f : Int} {z : Str} (ht : H t = none) (e : p.dat = .tup [.int f, .str z])
    {Hb : Hp} (sb : Same (upd (upd H t (.tup [.int f, .str z])) lp (.lst (vs ++ [.ref t]))) Hb) :
    SumI K G lp lt ln N (ps ++ [p]) (vs ++ [.ref t]) ws (upd Hb lt (.lst ((ps.map fun p => V.str (mkS p.text)) ++ [.str (mkS p.text)]))) := by
  have h1 := h.grow (Same.new ht (o := .tup [.int f, .str z]))
  have r1 : Rep K (upd H t (.tup [.int f, .str z])) (.ref t) p.dat := by
    rw [e]
    exact .new upd_same (.cons (.int f) (.cons (.str z) .nil))
  generalize upd H t (.tup [.int f, .str z]) = H1 at h1 r1 sb ⊢
  have e2 : Hb lt = some (.lst (ps.map fun p => V.str (mkS p.text))) := sb _ _ (by
    rw [upd_ne g.pt.symm]
    exact h1.et)
  refine ⟨?_, ?_, ?_, ?_, ?_, ?_, h1.hn, ?_, ((h1.sm.mut g.p).trans sb).mut g.t⟩
  · rw [upd_ne g.pt]
    exact sb _ _ upd_same
  · rw [List.length_append, List.length_append, h1.ll]
    rfl
  · rw [List.map_append]
    exact (((h1.rl.append (.one r1)).keep (Tups.upd h1.el)).keep sb.tups).keep (Tups.upd e2)
  · rw [upd_same, List.map_append]
    rfl
  · rw [upd_ne g.tn.symm]
    refine sb _ _ ?_
    rw [upd_ne g.pn.symm]
    exact h1.en
  · rw [List.length_append]
    have := h1.ln
    omega
  · intro q hq
    rcases List.mem_append.mp hq with a | a
    · exact h1.ok q a
    · rw [List.mem_singleton.mp a]
      exact okp
theorem SumI.name (h : SumI K G lp lt ln N ps vs ws H) (g : Three G lp lt ln) {w : Str} (hw : w ∈ N) (hl : ws.length < ps.length) : SumI K G lp lt ln N ps vs (ws ++ [w]) (upd H ln (.lst (ws.map V.str ++ [.str w]))) := by
  refine ⟨?_, h.ll, h.rl.keep (Tups.upd h.en), ?_, ?_, ?_, ?_, h.ok, h.sm.mut g.n⟩
  · rw [upd_ne g.pn]
    exact h.el
  · rw [upd_ne g.tn]
    exact h.et
  · rw [upd_same, List.map_append]
    rfl
  · rw [List.length_append]
    exact hl
  · intro q hq
    rcases List.mem_append.mp hq with a | a
    · exact h.hn q a
    · rw [List.mem_singleton.mp a]
      exact hw
end
theorem texts_len : ∀ ps : List Part, (∀ p ∈ ps, p.Ok) → ((ps.map fun p => mkS p.text).map (·.length)).sum ≤ 9 * ps.length
  | [], _ => Nat.le_refl _
  | p :: r, h => by
    have a := part_len (h p (List.mem_cons_self ..))
    have b := texts_len r fun q hq => h q (List.mem_cons_of_mem _ hq)
    rw [List.map_cons, List.map_cons, List.sum_cons, List.length_cons, len_mkS]
    omega
theorem pick4 (n : Int) : ∃ k : Nat, k ≤ 999999 ∧ atI [V.int 0, V.int 999999, V.int (n / 9 % 1000000), V.int (n / 9 % 30)] (n / 3 % 4) = some (.int (k : Int)) := by
  have c : n / 3 % 4 = ((0 : Nat) : Int) ∨ n / 3 % 4 = ((1 : Nat) : Int) ∨ n / 3 % 4 = ((2 : Nat) : Int) ∨ n / 3 % 4 = ((3 : Nat) : Int) := by omega
  rcases c with e | e | e | e <;> rw [e]
  · exact ⟨0, by decide, atI_nat rfl⟩
  · exact ⟨999999, by decide, atI_nat rfl⟩
  · refine ⟨(n / 9 % 1000000).toNat, by omega, ?_⟩
    rw [Int.toNat_of_nonneg (by omega)]
    exact atI_nat rfl
  · refine ⟨(n / 9 % 30).toNat, by omega, ?_⟩
    rw [Int.toNat_of_nonneg (by omega)]
    exact atI_nat rfl
theorem pick3 (n : Int) : ∃ k : Nat, 1 ≤ k ∧ k ≤ 20 ∧ atI [V.int 20, V.int 2, V.int (1 + n / 12 % 20)] (n / 36 % 3) = some (.int (k : Int)) := by
  have c : n / 36 % 3 = ((0 : Nat) : Int) ∨ n / 36 % 3 = ((1 : Nat) : Int) ∨ n / 36 % 3 = ((2 : Nat) : Int) := by omega
  rcases c with e | e | e <;> rw [e]
  · exact ⟨20, by decide, by decide, atI_nat rfl⟩
  · exact ⟨2, by decide, by decide, atI_nat rfl⟩
  · refine ⟨(1 + n / 12 % 20).toNat, by omega, by omega, ?_⟩
    rw [Int.toNat_of_nonneg (by omega)]
    exact atI_nat rfl
section
variable {P : Program} {w : World} {K : PySem.W.Frag} {mg : Str → Option Value} {base : Heap} {f f1 f2 f3 : Addr} {fd d1 d2 d3 : FuncData}
theorem scSumL : FnScope ["_law_spread_here", "_law_at", "_law_number", "_law_many", "_law_parts", "_law_texts", "_law_names", "_law_k", "_law_name_here", "_law_one"] ["_law_spread_here", "_law_at"] (defScope sSumL) := ⟨rfl, rfl, rfl, by decide +kernel, rfl, by decide +kernel, by decide +kernel⟩
theorem ok_sumL (D : Def K mg "_law_sum" sSumL ["_law_spread_here", "_law_at"] f fd) (X : Tx K mg) (D1 : Def K mg "_law_draw" sDraw ["_law_spread_here", "_law_k"] f1 d1) (G1 : FnOk P w K mg base CX0 1 f1 d1 ["_law_spread_here", "_law_k"] (spDraw K))
    (D2 : Def K mg "_law_name" sNameL ["_law_spread_here", "_law_number"] f2 d2) (G2 : FnOk P w K mg base CX0 2 f2 d2 ["_law_spread_here", "_law_number"] (spNameL K)) : FnOk P w K mg base CX0 3 f fd ["_law_spread_here", "_law_at"] (spSumL K) := by
  refine D.F.ok scSumL (fun vs H Q E h => ?_) (fun cdv A outer s H vs Q E hr h => ?_)
  · obtain ⟨a, ds, m, k, rfl, _⟩ := h
    rfl
  obtain ⟨a, ds, m, k, rfl, hS, hk9, q⟩ := h
  have nd := scSumL.nd
  have h1 : Room 1 _ := hr.mono (by decide)
  refine ⟨_, pss_cons (ps_set (i := 2) nd rfl (Or.inl rfl) (pe_call G1 h1 rfl D1.m D1.F.kp D1.b .nil pass0 (pa_cons (pv 0) (pa_cons (pv 1) pa_nil))))
    (pss_cons (ps_set (i := 3) nd rfl (Or.inl rfl) (pe_op o_add pe_int (pe_op o_mod (pv 2) pe_int)))
    (Evl.pss_cut (ps_if (pt_cmpR op_eq (pe_op o_mod (pe_op o_div (pv 2) pe_int) pe_int) pe_int (nomark _)) (pss_one (ps_set (i := 3) nd rfl (Or.inl rfl) pe_int)) pss_nil)
    (pss_cons (ps_set (i := 4) nd rfl (Or.inl rfl) (pe_lst pa_nil))
    (pss_cons (ps_set (i := 5) nd rfl (Or.inl rfl) (pe_lst pa_nil))
    (pss_cons (ps_set (i := 6) nd rfl (Or.inl rfl) (pe_lst pa_nil))
    (pss_cons (ps_for PassesOwn.never rfl (pi_range1 rfl X.range (pa_cons (pv 3) pa_nil)) (pg_name (i := 7) nd rfl (Or.inl rfl))
      (pss_cons (ps_set (i := 2) nd rfl (Or.inl rfl) (pe_call G1 h1 rfl D1.m D1.F.kp D1.b .nil pass0 (pa_cons (pv 0) (pa_cons (pe_op o_add (pe_op o_add (pv 1) pe_int) (pv 7)) pa_nil))))
      (pss_cons (ps_set (i := 8) nd rfl (Or.inl rfl) (pe_call G2 hr rfl D2.m D2.F.kp D2.b .nil pass0 (pa_cons (pv 0) (pa_cons (pe_op o_div (pv 2) pe_int) pa_nil))))
      (pss_one (ps_if (pt_cmpR op_eq (pe_op o_mod (pv 2) pe_int) pe_int (nomark _))
        (pss_cons (ps_set (i := 9) nd rfl (Or.inl rfl) (pe_ix ix_list (pe_lst (pa_cons pe_int (pa_cons pe_int (pa_cons (pe_op o_mod (pe_op o_div (pv 2) pe_int) pe_int) (pa_cons (pe_op o_mod (pe_op o_div (pv 2) pe_int) pe_int) pa_nil))))) (pe_op o_mod (pe_op o_div (pv 2) pe_int) pe_int) (fun _ _ => rfl)))
        (pss_cons (ps_expr (pe_bm PySem.F.plainAttrs_list PySem.F.slot_list_append PySem.F.type_list_append mt_append (pv 4) (pa_cons (pe_tup (pa_cons (pv 9) (pa_cons pe_str pa_nil))) pa_nil)))
        (pss_one (ps_expr (pe_bm PySem.F.plainAttrs_list PySem.F.slot_list_append PySem.F.type_list_append mt_append (pv 5) (pa_cons (pe_callTy call_str_int rfl X.str (by decide +kernel) (pa_cons (pv 9) pa_nil)) pa_nil))))))
        (pss_one (ps_if (pt_cmpR op_eq (pe_op o_mod (pv 2) pe_int) pe_int (nomark _))
          (pss_cons (ps_expr (pe_bm PySem.F.plainAttrs_list PySem.F.slot_list_append PySem.F.type_list_append mt_append (pv 4) (pa_cons (pe_tup (pa_cons pe_int (pa_cons (pv 8) pa_nil))) pa_nil)))
          (pss_cons (ps_expr (pe_bm PySem.F.plainAttrs_list PySem.F.slot_list_append PySem.F.type_list_append mt_append (pv 5) (pa_cons (pv 8) pa_nil)))
          (pss_one (ps_expr (pe_bm PySem.F.plainAttrs_list PySem.F.slot_list_append PySem.F.type_list_append mt_append (pv 6) (pa_cons (pv 8) pa_nil))))))
          (pss_cons (ps_set (i := 9) nd rfl (Or.inl rfl) (pe_ix ix_list (pe_lst (pa_cons pe_int (pa_cons pe_int (pa_cons (pe_op o_add pe_int (pe_op o_mod (pe_op o_div (pv 2) pe_int) pe_int)) pa_nil)))) (pe_op o_mod (pe_op o_div (pv 2) pe_int) pe_int) (fun _ _ => rfl)))
          (pss_cons (ps_expr (pe_bm PySem.F.plainAttrs_list PySem.F.slot_list_append PySem.F.type_list_append mt_append (pv 4) (pa_cons (pe_tup (pa_cons (pv 9) (pa_cons (pv 8) pa_nil))) pa_nil)))
          (pss_cons (ps_expr (pe_bm PySem.F.plainAttrs_list PySem.F.slot_list_append PySem.F.type_list_append mt_append (pv 5)
            (pa_cons (pe_op op_add_str (pe_ix ix_list (pe_lst (pa_cons (pe_op op_add_str (pe_callTy call_str_int rfl X.str (by decide +kernel) (pa_cons (pv 9) pa_nil)) pe_str) (pa_cons pe_str pa_nil))) (pe_callTy call_int1 rfl X.int (by decide +kernel) (pa_cons (pe_cmpR op_eq (pv 9) pe_int (nomark _)) pa_nil)) (fun _ _ => rfl)) (pv 8)) pa_nil)))
          (pss_one (ps_expr (pe_bm PySem.F.plainAttrs_list PySem.F.slot_list_append PySem.F.type_list_append mt_append (pv 6) (pa_cons (pv 8) pa_nil))))))))))))))
    (pss_one (ps_ret (pe_lst (pa_cons (pe_callTy call_tuple_of rfl X.tuple (by decide +kernel) (pa_cons (pv 4) pa_nil)) (pa_cons (pe_join pe_str (pv 5)) (pa_cons (pv 6) pa_nil)))))))))))), ?_⟩
  refine ⟨_, rfl, _, rfl, a, ds, m, k, rfl, hS, by omega, ?_⟩
  dsimp only [gName]
  generalize ds.getD k 0 = n0
  refine ⟨_, rfl, _, _, rfl, rfl, by decide, _, _, rfl, rfl, ?_⟩
  dsimp only [gName]
  refine ⟨fun σ' H' => ∃ mm : Nat, 1 ≤ mm ∧ mm ≤ 8 ∧ σ' = [some (.ref a), some (.int (k : Int)), some (.int n0), some (.int (mm : Int)), none, none, none, none, none, none] ∧ H = H', ?_, ?_⟩
  · by_cases hc : n0 / 3 % 6 = 1
    · refine st_yes (fun Q q => ⟨_, rfl, _, _, rfl, rfl, ⟨by decide, by decide⟩, _, _, rfl, rfl, by decide, rfl, _, rfl, bE (decide_eq_true (by rw [hc])) q⟩) ?_
      exact ⟨8, by decide, by decide, rfl, rfl⟩
    · refine st_no (fun Q q => ⟨_, rfl, _, _, rfl, rfl, ⟨by decide, by decide⟩, _, _, rfl, rfl, by decide, rfl, _, rfl, bE (int_no hc) q⟩) ?_
      refine ⟨(1 + n0 % 3).toNat, by omega, by omega, ?_, rfl⟩
      rw [Int.toNat_of_nonneg (by omega)]
      rfl
  rintro σ' H' ⟨mm, m1, m8, rfl, rfl⟩
  refine ⟨by show 0 ≤ sizeLine; decide, fun lp hlp => ?_⟩
  have s1 := Same.new hlp (o := .lst [])
  have e1 : (upd H lp (.lst [])) lp = some (.lst []) := upd_same
  generalize upd H lp (.lst []) = H1 at s1 e1 ⊢
  dsimp only [gName]
  refine ⟨by show 0 ≤ sizeLine; decide, fun lt hlt => ?_⟩
  have s2 := Same.new hlt (o := .lst [])
  have e2 : (upd H1 lt (.lst [])) lt = some (.lst []) := upd_same
  generalize upd H1 lt (.lst []) = H2 at s2 e2 ⊢
  dsimp only [gName]
  refine ⟨by show 0 ≤ sizeLine; decide, fun ln hln => ?_⟩
  have s3 := Same.new hln (o := .lst [])
  have e3 : (upd H2 ln (.lst [])) ln = some (.lst []) := upd_same
  generalize upd H2 ln (.lst []) = H3 at s3 e3 ⊢
  dsimp only [gName]
  have g : Three H lp lt ln := ⟨hlp, s1.free hlt, (s1.trans s2).free hln, ne_of_none' hlt e1, ne_of_none' hln (s2 _ _ e1), ne_of_none' hln e2⟩
  refine ⟨_, rfl, _, rfl, by omega, by omega, ?_⟩
  rw [Int.toNat_natCast]
  refine for_range (lo := 0) (n := mm) (fun i σ' H' => ∃ (ps : List Part) (vs : List V) (ws : List Str) (x2 x7 x8 x9 : Option V), σ' = [some (.ref a), some (.int (k : Int)), x2, some (.int (mm : Int)), some (.ref lp), some (.ref lt), some (.ref ln), x7, x8, x9] ∧ ps.length = i ∧ SumI K H lp lt ln (NS ds) ps vs ws H')
    ⟨[], [], [], _, _, _, _, rfl, rfl, ⟨s3 _ _ (s2 _ _ e1), rfl, .nil, s3 _ _ e2, e3, Nat.le_refl _, (fun _ h => nomatch h), (fun _ h => nomatch h), s1.trans (s2.trans s3)⟩⟩ ?_ ?_
  · rintro i σ' H4 hi ⟨ps, vs, ws, x2, x7, x8, x9, rfl, hl, I⟩
    rw [Int.zero_add]
    dsimp only [gName]
    refine ⟨_, rfl, _, rfl, _, _, rfl, rfl, _, rfl, _, _, rfl, rfl, a, ds, m, k + 1 + i, ?_, hS.keep I.sm, by omega, ?_⟩
    · rw [show ((k + 1 + i : Nat) : Int) = (k : Int) + 1 + (i : Int) by omega]
      rfl
    dsimp only [gName]
    generalize ds.getD (k + 1 + i) 0 = n
    refine ⟨_, rfl, _, rfl, _, _, rfl, rfl, ⟨by decide, by decide⟩, a, ds, m, _, rfl, hS.keep I.sm, fun w H5 hw hin s5 => ?_⟩
    dsimp only [gName]
    have I5 := I.grow s5
    have small : vs.length < sizeLine := small1000 (by rw [I.ll]; omega)
    have smallt : (ps.map fun p => V.str (mkS p.text)).length < sizeLine := small1000 (by rw [List.length_map]; omega)
    have smalln : (ws.map V.str).length < sizeLine := small1000 (by rw [List.length_map]; have := I.ln; omega)
    have c3 : n % 3 = 0 ∨ n % 3 = 1 ∨ n % 3 = 2 := by omega
    by_cases h0 : n % 3 = 0
    · refine st_yes (fun Q q => ⟨_, rfl, _, _, rfl, rfl, by decide, rfl, _, rfl, bE (decide_eq_true (by rw [h0])) q⟩) ?_
      obtain ⟨kk, hkk, epick⟩ := pick4 n
      refine ⟨_, rfl, _, _, rfl, rfl, ⟨by decide, by decide⟩, _, _, rfl, rfl, by decide, _, rfl, _, _, rfl, rfl, ⟨by decide, by decide⟩, _, _, rfl, rfl, by decide, by show 4 ≤ sizeLine; decide, fun t0 ht0 => ?_⟩
      refine ⟨_, rfl, _, _, rfl, rfl, ⟨by decide, by decide⟩, _, _, rfl, rfl, by decide, t0, _, _, _, rfl, rfl, SqL.of upd_same, epick, ?_⟩
      have I6 := I5.grow (Same.new ht0 (o := .lst [.int 0, .int 999999, .int (n / 9 % 1000000), .int (n / 9 % 30)]))
      generalize upd H5 t0 (.lst [.int 0, .int 999999, .int (n / 9 % 1000000), .int (n / 9 % 30)]) = H6 at I6 ⊢
      dsimp only [gName]
      refine ⟨_, rfl, .inl ⟨rfl, _, SqL.of I6.el⟩, _, rfl, two1000, fun t ht => ⟨lp, vs, _, rfl, rfl, (Same.new ht) _ _ I6.el, small, ?_⟩⟩
      have e0 : mkS [] = Str.ofString "" := by decide +kernel
      have I7 := I6.one g (p := .num kk) hkk ht (f := (kk : Int)) (z := Str.ofString "") (by rw [← e0]; rfl) (Same.refl _)
      have el7 : (upd (upd H6 t (.tup [.int (kk : Int), .str (Str.ofString "")])) lp (.lst (vs ++ [.ref t]))) lt = some (.lst (ps.map fun p => V.str (mkS p.text))) := by
        rw [upd_ne g.pt.symm]
        exact (Same.new ht) _ _ I6.et
      have et : (Part.num kk).text = numL kk := rfl
      rw [et, ← strNum] at I7
      refine ⟨_, rfl, .inl ⟨rfl, _, SqL.of el7⟩, _, rfl, _, rfl, log_ok hkk, lt, _, _, rfl, rfl, el7, smallt, ?_⟩
      exact ⟨_, _, ws, _, _, _, _, rfl, by rw [List.length_append, hl]; rfl, I7⟩
    · refine st_no (fun Q q => ⟨_, rfl, _, _, rfl, rfl, by decide, rfl, _, rfl, bE (int_no h0) q⟩) ?_
      by_cases h1 : n % 3 = 1
      · refine st_yes (fun Q q => ⟨_, rfl, _, _, rfl, rfl, by decide, rfl, _, rfl, bE (decide_eq_true (by rw [h1])) q⟩) ?_
        refine ⟨_, rfl, .inl ⟨rfl, _, SqL.of I5.el⟩, _, rfl, two1000, fun t ht => ⟨lp, vs, _, rfl, rfl, (Same.new ht) _ _ I5.el, small, ?_⟩⟩
        have I7 := I5.one g (p := .nam 1 w) ⟨Nat.le_refl _, by decide, hw⟩ ht (f := 1) (z := mkS w) rfl (Same.refl _)
        have et : (Part.nam 1 w).text = w := by simp [Part.text]
        rw [et] at I7
        have el7 : (upd (upd H5 t (.tup [.int 1, .str (mkS w)])) lp (.lst (vs ++ [.ref t]))) lt = some (.lst (ps.map fun p => V.str (mkS p.text))) := by
          rw [upd_ne g.pt.symm]
          exact (Same.new ht) _ _ I5.et
        refine ⟨_, rfl, .inl ⟨rfl, _, SqL.of el7⟩, _, rfl, lt, _, _, rfl, rfl, el7, smallt, ?_⟩
        refine ⟨_, rfl, .inl ⟨rfl, _, SqL.of I7.en⟩, _, rfl, ln, _, _, rfl, rfl, I7.en, smalln, ?_⟩
        exact ⟨_, _, _, _, _, _, _, rfl, by rw [List.length_append, hl]; rfl, I7.name g hin (by rw [List.length_append]; have := I5.ln; show ws.length < ps.length + 1; omega)⟩
      · refine st_no (fun Q q => ⟨_, rfl, _, _, rfl, rfl, by decide, rfl, _, rfl, bE (int_no h1) q⟩) ?_
        obtain ⟨kk, k1, k20, epick⟩ := pick3 n
        refine ⟨_, rfl, _, _, rfl, rfl, ⟨by decide, by decide⟩, _, _, rfl, rfl, by decide, _, _, rfl, rfl, by show 3 ≤ sizeLine; decide, fun t0 ht0 => ?_⟩
        refine ⟨_, rfl, _, _, rfl, rfl, ⟨by decide, by decide⟩, _, _, rfl, rfl, by decide, t0, _, _, _, rfl, rfl, SqL.of upd_same, epick, ?_⟩
        have I6 := I5.grow (Same.new ht0 (o := .lst [.int 20, .int 2, .int (1 + n / 12 % 20)]))
        generalize upd H5 t0 (.lst [.int 20, .int 2, .int (1 + n / 12 % 20)]) = H6 at I6 ⊢
        dsimp only [gName]
        refine ⟨_, rfl, .inl ⟨rfl, _, SqL.of I6.el⟩, _, rfl, _, rfl, two1000, fun t ht => ⟨lp, vs, _, rfl, rfl, (Same.new ht) _ _ I6.el, small, ?_⟩⟩
        have el7 : (upd (upd H6 t (.tup [.int (kk : Int), .str (mkS w)])) lp (.lst (vs ++ [.ref t]))) lt = some (.lst (ps.map fun p => V.str (mkS p.text))) := by
          rw [upd_ne g.pt.symm]
          exact (Same.new ht) _ _ I6.et
        have eS : tl (Str.ofString "*") = [42] := by decide +kernel
        have n2 := num_len2 k20
        have w6 := hw.hi
        have c1 : Str.ofString (toString (kk : Int)) ++ Str.ofString "*" = mkS (numL kk ++ [42]) := by
          refine ext_tl ?_
          rw [tl_append, eS, strNum]
          rfl
        have e0 : Str.ofString "" = mkS [] := by decide +kernel
        refine ⟨_, rfl, .inl ⟨rfl, _, SqL.of el7⟩, _, rfl, _, rfl, log_ok (by omega), _, _, rfl, rfl, sz (by rw [strNum, len_mkS, len_tl, eS]; show (numL kk).length + 1 ≤ 1000; omega), two1000, fun t2 ht2 => ?_⟩
        rw [c1, e0]
        obtain ⟨u, eu, eu2, eu3⟩ : ∃ u : List Nat, atI [V.str (mkS (numL kk ++ [42])), V.str (mkS [])] (if decide (V.int (kk : Int) = V.int 1) = true then 1 else 0) = some (.str (mkS u)) ∧ u ++ w = (Part.nam kk w).text ∧ u.length ≤ 10 := by
          by_cases hk1 : kk = 1
          · subst hk1
            exact ⟨[], by rw [if_pos (show decide (V.int ((1 : Nat) : Int) = V.int 1) = true from decide_eq_true rfl)]; exact atI_nat (j := 1) rfl, by simp [Part.text], by decide⟩
          · refine ⟨numL kk ++ [42], ?_, ?_, by rw [List.length_append]; show (numL kk).length + 1 ≤ 10; omega⟩
            · rw [if_neg (by rw [int_no (by omega)]; decide)]
              exact atI_nat (j := 0) rfl
            · show _ = if kk = 1 then w else numL kk ++ 42 :: w
              rw [if_neg hk1, List.append_assoc]
              rfl
        refine ⟨_, rfl, rfl, .inr ⟨_, rfl, t2, _, _, _, rfl, rfl, SqL.of upd_same, eu, _, rfl, _, _, rfl, rfl, sz (by rw [len_mkS, len_mkS]; omega), lt, _, _, rfl, rfl, (Same.new ht2) _ _ el7, smallt, ?_⟩⟩
        have I7 := I6.one g (p := .nam kk w) ⟨k1, k20, hw⟩ ht (f := (kk : Int)) (z := mkS w) rfl (Same.new ht2 (o := .lst [.str (mkS (numL kk ++ [42])), .str (mkS [])]))
        rw [← eu2, show mkS (u ++ w) = mkS u ++ mkS w from ext_tl (by rw [tl_append]; rfl)] at I7
        refine ⟨_, rfl, .inl ⟨rfl, _, SqL.of I7.en⟩, _, rfl, ln, _, _, rfl, rfl, I7.en, smalln, ?_⟩
        exact ⟨_, _, _, _, _, _, _, rfl, by rw [List.length_append, hl]; rfl, I7.name g hin (by rw [List.length_append]; have := I5.ln; show ws.length < ps.length + 1; omega)⟩
  · rintro σ' H4 ⟨ps, vs, ws, x2, x7, x8, x9, rfl, hl, I⟩
    dsimp only
    refine ⟨_, rfl, lp, _, rfl, .inl ⟨SqL.of I.el, fun t4 ht4 => ?_⟩⟩
    have et : H4 lt = some (.lst ((ps.map fun p => mkS p.text).map V.str)) := by
      rw [List.map_map]
      exact I.et
    have I6 := I.grow (Same.new ht4 (o := .tup vs))
    refine ⟨⟨_, rfl⟩, _, rfl, _, lt, ps.map fun p => mkS p.text, rfl, rfl, .inl (SqL.of ((Same.new ht4) _ _ et)), ?_, ?_⟩
    · have b3 : (Str.ofString " + ").length = 3 := by rw [len_tl, plusS2]; rfl
      have a9 := texts_len ps I.ok
      rw [List.length_map, b3]
      omega
    · rw [join_is]
      refine ⟨_, rfl, by show 3 ≤ sizeLine; decide, fun b hb => ?_⟩
      have hne : ps ≠ [] := fun e => by
        rw [e] at hl
        have : 0 = mm := hl
        omega
      have I8 := I6.grow (Same.new hb (o := .lst [.ref t4, .str (mkS (sumT ps)), .ref ln]))
      refine q ps (.ref t4) ws b ln _ ⟨hne, by omega, I.ok⟩ I8.sm upd_same (.new ((Same.new hb) _ _ upd_same) I8.rl) I8.en (by have := I.ln; omega) I.hn
end
end K53

/-! The law's plain statements. -/
namespace K53
open PySem L2 TL

abbrev sPlainL : Stmt := tp 35
/-- a statement with its text and its lists, apart from what N names -/
def It (K : PySem.W.Frag) (N : Addr → Prop) (ns0 rs0 : List Str) (H : Hp) (a : Addr) (s : Stm) (d : Nat) : Prop :=
  ∃ (v : V) (nl rl : Addr) (ns rs : List Str), H a = some (.lst [v, .str (mkS s.text), .int (d : Int), .ref nl, .ref rl]) ∧ Rep K H v s.dat ∧ H nl = some (.lst (ns.map V.str)) ∧ H rl = some (.lst (rs.map V.str)) ∧
    (ns.length ≤ 4 ∧ ∀ x ∈ ns, x ∈ ns0) ∧ (rs.length ≤ 4 ∧ ∀ x ∈ rs, x ∈ rs0) ∧ ¬ N a ∧ ¬ N nl ∧ ¬ N rl
theorem It.keep {K : PySem.W.Frag} {N : Addr → Prop} {ns0 rs0 : List Str} {H H' : Hp} {a : Addr} {s : Stm} {d : Nat} (h : It K N ns0 rs0 H a s d) (e : Same H H') : It K N ns0 rs0 H' a s d := by
  obtain ⟨v, nl, rl, ns, rs, h1, h2, h3, h4, h5⟩ := h
  exact ⟨v, nl, rl, ns, rs, e _ _ h1, h2.keep e.tups, e _ _ h3, e _ _ h4, h5⟩
/-- a list that it does not hold changes -/
theorem It.upd {K : PySem.W.Frag} {N : Addr → Prop} {ns0 rs0 : List Str} {H : Hp} {a l : Addr} {s : Stm} {d : Nat} {xs : List V} {o : HO} (h : It K N ns0 rs0 H a s d) (e : H l = some (.lst xs)) (hl : N l) : It K N ns0 rs0 (upd H l o) a s d := by
  obtain ⟨v, nl, rl, ns, rs, h1, h2, h3, h4, h5, h6, h7, h8, h9⟩ := h
  refine ⟨v, nl, rl, ns, rs, ?_, h2.keep (Tups.upd e), ?_, ?_, h5, h6, h7, h8, h9⟩
  · rw [upd_ne (fun z : a = l => h7 (by rw [z]; exact hl))]
    exact h1
  · rw [upd_ne (fun z : nl = l => h8 (by rw [z]; exact hl))]
    exact h3
  · rw [upd_ne (fun z : rl = l => h9 (by rw [z]; exact hl))]
    exact h4
/-- from no names to a new one -/
theorem It.set {K : PySem.W.Frag} {M N : Addr → Prop} {ns0 rs0 : List Str} {H : Hp} {a : Addr} {s : Stm} {d : Nat} (h : It K M ns0 rs0 H a s d) (hN : ∀ x, N x → H x = none) : It K N ns0 rs0 H a s d := by
  obtain ⟨v, nl, rl, ns, rs, h1, h2, h3, h4, h5, h6, h7, h8, h9⟩ := h
  refine ⟨v, nl, rl, ns, rs, h1, h2, h3, h4, h5, h6, fun z => ?_, fun z => ?_, fun z => ?_⟩
  · rw [hN _ z] at h1
    cases h1
  · rw [hN _ z] at h3
    cases h3
  · rw [hN _ z] at h4
    cases h4
def spPlainL (K : PySem.W.Frag) : Sp := fun vs H Q _ => ∃ (a : Addr) (ds : List Int) (m k : Nat) (N : Addr → Prop), vs = [.ref a, .int (k : Int)] ∧ Spread K H a ds m ∧ k + 20 < 930 ∧ (∀ x, N x → H x ≠ none) ∧
  ∀ (s : Stm) (b : Addr) (H' : Hp), s.Ok → s.plain = true → Same H H' → It K N (NS ds) (RS ds) H' b s 0 → Q (.ref b) H'
/-- sorted(set(..)) of a short list -/
theorem sort_k {P : Program} {w : World} {K : PySem.W.Frag} {H : Hp} {a : Addr} {ys n0 : List Str} {Q : VK} (hs : SqL K H a (ys.map V.str)) (hl : ys.length ≤ 1000) (h4 : n0.length ≤ 4) (hin : ∀ y ∈ ys, y ∈ n0)
    (q : ∀ (p : Addr) (zs : List Str) (H2 : Hp), Same H H2 → H p = none → H2 p = some (.lst (zs.map V.str)) → zs.length ≤ 4 → (∀ z ∈ zs, z ∈ n0) → Q (.ref p) H2) : rSetT K P w [.ref a] H (fun x H1 => rSortedT P w [x] H1 Q) := by
  refine ⟨a, ys, rfl, hs, hl, fun p l hp nd hsub => ?_⟩
  have ll : l.length ≤ n0.length := List.Nodup.length_le_of_subset nd fun x hx => hin x (hsub x hx)
  refine ⟨p, l, rfl, upd_same, by omega, fun p2 zs hp2 hz hm => ?_⟩
  exact q p2 zs _ ((Same.new hp).trans (Same.new hp2)) ((Same.new hp).free hp2) upd_same (by omega) fun z hz => hin z (hsub z (hm z hz))
theorem pickS (n : Int) : ∃ k : Nat, k ≤ 999999 ∧ atI [V.int 0, V.int 1, V.int 999999, V.int (n / 45 % 1000000)] (n / 45 % 4) = some (.int (k : Int)) := by
  have c : n / 45 % 4 = ((0 : Nat) : Int) ∨ n / 45 % 4 = ((1 : Nat) : Int) ∨ n / 45 % 4 = ((2 : Nat) : Int) ∨ n / 45 % 4 = ((3 : Nat) : Int) := by omega
  rcases c with e | e | e | e <;> rw [e]
  · exact ⟨0, by decide, atI_nat rfl⟩
  · exact ⟨1, by decide, atI_nat rfl⟩
  · exact ⟨999999, by decide, atI_nat rfl⟩
  · refine ⟨(n / 45 % 1000000).toNat, by omega, ?_⟩
    rw [Int.toNat_of_nonneg (by omega)]
    exact atI_nat rfl
theorem pickK (n : Int) : ∃ z : Str, atI [V.str (Str.ofString "="), V.str (Str.ofString "<="), V.str (Str.ofString "<"), V.str (Str.ofString "is"), V.str (Str.ofString "like")] (n % 5) = some (.str z) ∧
    (z = Str.ofString "is" ∨ (z ≠ Str.ofString "is" ∧ z = Str.ofString "like") ∨ (z ≠ Str.ofString "is" ∧ z ≠ Str.ofString "like" ∧ ∃ k, k ≤ 2 ∧ z = mkS (cmpT k))) := by
  have c : n % 5 = ((0 : Nat) : Int) ∨ n % 5 = ((1 : Nat) : Int) ∨ n % 5 = ((2 : Nat) : Int) ∨ n % 5 = ((3 : Nat) : Int) ∨ n % 5 = ((4 : Nat) : Int) := by omega
  rcases c with e | e | e | e | e <;> rw [e]
  · exact ⟨_, atI_nat rfl, .inr (.inr ⟨by decide +kernel, by decide +kernel, 0, by decide, by decide +kernel⟩)⟩
  · exact ⟨_, atI_nat rfl, .inr (.inr ⟨by decide +kernel, by decide +kernel, 1, by decide, by decide +kernel⟩)⟩
  · exact ⟨_, atI_nat rfl, .inr (.inr ⟨by decide +kernel, by decide +kernel, 2, by decide, by decide +kernel⟩)⟩
  · exact ⟨_, atI_nat rfl, .inl rfl⟩
  · exact ⟨_, atI_nat rfl, .inr (.inl ⟨by decide +kernel, rfl⟩)⟩
theorem slots {tb : TS} {D : Ends} {σ σ' : St} {H : Hp} (e : σ = σ') (h : tb D σ' H) : tb D σ H := by
  subst e
  exact h
section
variable {P : Program} {w : World} {K : PySem.W.Frag} {mg : Str → Option Value} {base : Heap} {f f1 f2 f3 : Addr} {fd d1 d2 d3 : FuncData}
theorem scPlainL : FnScope ["_law_spread_here", "_law_at", "_law_number", "_law_one", "_law_first", "_law_names", "_law_other", "_law_second", "_law_more", "_law_row_here", "_law_last", "_law_kind", "_law_sign", "_law_shown_one"] ["_law_spread_here", "_law_at"] (defScope sPlainL) := ⟨rfl, rfl, rfl, by decide +kernel, rfl, by decide +kernel, by decide +kernel⟩
theorem ok_plainL (D : Def K mg "_law_plain" sPlainL ["_law_spread_here", "_law_at"] f fd) (X : Tx K mg) (D1 : Def K mg "_law_draw" sDraw ["_law_spread_here", "_law_k"] f1 d1) (G1 : FnOk P w K mg base CX0 1 f1 d1 ["_law_spread_here", "_law_k"] (spDraw K))
    (D2 : Def K mg "_law_row" sRowL ["_law_spread_here", "_law_number"] f2 d2) (G2 : FnOk P w K mg base CX0 2 f2 d2 ["_law_spread_here", "_law_number"] (spRowL K))
    (D3 : Def K mg "_law_sum" sSumL ["_law_spread_here", "_law_at"] f3 d3) (G3 : FnOk P w K mg base CX0 3 f3 d3 ["_law_spread_here", "_law_at"] (spSumL K)) : FnOk P w K mg base CX0 4 f fd ["_law_spread_here", "_law_at"] (spPlainL K) := by
  refine D.F.ok scPlainL (fun vs H Q E h => ?_) (fun cdv A outer s H vs Q E hr h => ?_)
  · obtain ⟨a, ds, m, k, N, rfl, _⟩ := h
    rfl
  obtain ⟨a, ds, m, k, N, rfl, hS, hk, hN, q⟩ := h
  have nd := scPlainL.nd
  have h1 : Room 1 _ := hr.mono (by decide)
  have h2 : Room 2 _ := hr.mono (by decide)
  refine ⟨_, pss_cons (ps_set (i := 2) nd rfl (Or.inl rfl) (pe_call G1 h1 rfl D1.m D1.F.kp D1.b .nil pass0 (pa_cons (pv 0) (pa_cons (pv 1) pa_nil))))
    (pss_cons (ps_asg (pe_call G3 hr rfl D3.m D3.F.kp D3.b .nil pass0 (pa_cons (pv 0) (pa_cons (pe_op o_add (pv 1) pe_int) pa_nil))) (pg_unl rfl (pgs_cons (pg_name (i := 3) nd rfl (Or.inl rfl)) (pgs_cons (pg_name (i := 4) nd rfl (Or.inl rfl)) (pgs_cons (pg_name (i := 5) nd rfl (Or.inl rfl)) pgs_nil)))))
    (pss_cons (ps_asg (pe_call G3 hr rfl D3.m D3.F.kp D3.b .nil pass0 (pa_cons (pv 0) (pa_cons (pe_op o_add (pv 1) pe_int) pa_nil))) (pg_unl rfl (pgs_cons (pg_name (i := 6) nd rfl (Or.inl rfl)) (pgs_cons (pg_name (i := 7) nd rfl (Or.inl rfl)) (pgs_cons (pg_name (i := 8) nd rfl (Or.inl rfl)) pgs_nil)))))
    (pss_cons (ps_set (i := 9) nd rfl (Or.inl rfl) (pe_call G2 h2 rfl D2.m D2.F.kp D2.b .nil pass0 (pa_cons (pv 0) (pa_cons (pe_op o_div (pv 2) pe_int) pa_nil))))
    (pss_cons (ps_set (i := 10) nd rfl (Or.inl rfl) (pe_call G2 h2 rfl D2.m D2.F.kp D2.b .nil pass0 (pa_cons (pv 0) (pa_cons (pe_op o_div (pv 2) pe_int) pa_nil))))
    (pss_cons (ps_set (i := 11) nd rfl (Or.inl rfl) (pe_ix ix_list (pe_lst (pa_cons pe_str (pa_cons pe_str (pa_cons pe_str (pa_cons pe_str (pa_cons pe_str pa_nil)))))) (pe_op o_mod (pv 2) pe_int) (fun _ _ => rfl)))
    (pss_cons (ps_if (pt_cmpR op_eq (pv 11) pe_str (nomark _))
      (pss_cons (ps_set (i := 12) nd rfl (Or.inl rfl) (pe_ix ix_list (pe_lst (pa_cons pe_int (pa_cons pe_int (pa_cons pe_int (pa_cons (pe_op o_mod (pe_op o_div (pv 2) pe_int) pe_int) pa_nil))))) (pe_op o_mod (pe_op o_div (pv 2) pe_int) pe_int) (fun _ _ => rfl)))
      (pss_one (ps_ret (pe_lst (pa_cons (pe_tup (pa_cons pe_str (pa_cons (pv 9) (pa_cons (pv 3) (pa_cons (pv 12) pa_nil)))))
        (pa_cons (pe_op op_add_str (pe_op op_add_str (pe_op op_add_str (pe_op op_add_str (pv 9) pe_str) (pv 4)) pe_str) (pe_callTy call_str_int rfl X.str (by decide +kernel) (pa_cons (pv 12) pa_nil)))
        (pa_cons pe_int (pa_cons (pe_callB (cr_sortedT rfl) rfl X.sorted (by decide +kernel) (pa_cons (pe_callTy (cr_setT rfl) rfl X.set (by decide +kernel) (pa_cons (pv 5) pa_nil)) pa_nil)) (pa_cons (pe_lst (pa_cons (pv 9) pa_nil)) pa_nil))))))))) pss_nil)
    (pss_cons (ps_set (i := 5) nd rfl (Or.inl rfl) (pe_callB (cr_sortedT rfl) rfl X.sorted (by decide +kernel) (pa_cons (pe_callTy (cr_setT rfl) rfl X.set (by decide +kernel) (pa_cons (pe_op op_cat (pv 5) (pv 8)) pa_nil)) pa_nil)))
    (pss_cons (ps_if (pt_cmpR op_eq (pv 11) pe_str (nomark _))
      (pss_cons (ps_set (i := 13) nd rfl (Or.inl rfl) (pe_op op_add_str (pe_op op_add_str (pe_op op_add_str (pe_op op_add_str (pe_op op_add_str (pe_op op_add_str (pe_op op_add_str (pv 9) pe_str) (pv 4)) pe_str) (pv 10)) pe_str) (pv 7)) pe_str))
      (pss_one (ps_ret (pe_lst (pa_cons (pe_tup (pa_cons pe_str (pa_cons (pv 9) (pa_cons (pv 3) (pa_cons (pv 10) (pa_cons (pv 6) pa_nil))))))
        (pa_cons (pv 13) (pa_cons pe_int (pa_cons (pv 5) (pa_cons (pe_callB (cr_sortedT rfl) rfl X.sorted (by decide +kernel) (pa_cons (pe_callTy (cr_setT rfl) rfl X.set (by decide +kernel) (pa_cons (pe_lst (pa_cons (pv 9) (pa_cons (pv 10) pa_nil))) pa_nil)) pa_nil)) pa_nil))))))))) pss_nil)
    (pss_one (ps_ret (pe_lst (pa_cons (pe_tup (pa_cons (pv 11) (pa_cons (pv 3) (pa_cons (pv 6) pa_nil))))
        (pa_cons (pe_op op_add_str (pe_op op_add_str (pe_op op_add_str (pe_op op_add_str (pv 4) pe_str) (pv 11)) pe_str) (pv 7)) (pa_cons pe_int (pa_cons (pv 5) (pa_cons (pe_lst pa_nil) pa_nil)))))))))))))))), ?_⟩
  have bS : Str.ofString "[" = mkS [91] := by decide +kernel
  have eS : Str.ofString "] = " = mkS [93, 32, 61, 32] := by decide +kernel
  have kS : Str.ofString "]" = mkS [93] := by decide +kernel
  have gS : Str.ofString " " = mkS [32] := by decide +kernel
  refine ⟨_, rfl, _, rfl, a, ds, m, k, rfl, hS, by omega, ?_⟩
  dsimp only [gName]
  generalize ds.getD k 0 = n
  refine ⟨_, rfl, _, rfl, _, _, rfl, rfl, a, ds, m, k + 1, rfl, hS, by omega, fun ps1 v1 ws1 b1 l1 H1 ok1 s1 eb1 r1 el1 len1 mem1 => ?_⟩
  refine ⟨b1, _, rfl, SqL.of eb1, rfl, _, _, rfl, _, _, rfl, _, _, rfl, rfl, ?_⟩
  dsimp only
  refine ⟨_, rfl, _, rfl, _, _, rfl, rfl, a, ds, m, k + 10, rfl, hS.keep s1, by omega, fun ps2 v2 ws2 b2 l2 H2 ok2 s2 eb2 r2 el2 len2 mem2 => ?_⟩
  refine ⟨b2, _, rfl, SqL.of eb2, rfl, _, _, rfl, _, _, rfl, _, _, rfl, rfl, ?_⟩
  dsimp only
  refine ⟨_, rfl, _, rfl, _, _, rfl, rfl, ⟨by decide, by decide⟩, a, ds, m, _, rfl, (hS.keep s1).keep s2, fun w1 H3 hr1 hin1 s3 => ?_⟩
  dsimp only [gName]
  refine ⟨_, rfl, _, rfl, _, _, rfl, rfl, ⟨by decide, by decide⟩, a, ds, m, _, rfl, ((hS.keep s1).keep s2).keep s3, fun w2 H4 hr2 hin2 s4 => ?_⟩
  dsimp only [gName]
  obtain ⟨z, ez, cz⟩ := pickK n
  refine ⟨by show 5 ≤ sizeLine; decide, fun t0 ht0 => ?_⟩
  refine ⟨_, rfl, _, _, rfl, rfl, by decide, t0, _, _, _, rfl, rfl, SqL.of upd_same, ez, ?_⟩
  have s5 := Same.new ht0 (o := .lst [.str (Str.ofString "="), .str (Str.ofString "<="), .str (Str.ofString "<"), .str (Str.ofString "is"), .str (Str.ofString "like")])
  generalize upd H4 t0 (.lst [.str (Str.ofString "="), .str (Str.ofString "<="), .str (Str.ofString "<"), .str (Str.ofString "is"), .str (Str.ofString "like")]) = H5 at s5 ⊢
  dsimp only [gName]
  refine slots (σ' := [some (.ref a), some (.int (k : Int)), some (.int n), some v1, some (.str (mkS (sumT ps1))), some (.ref l1), some v2, some (.str (mkS (sumT ps2))), some (.ref l2), some (.str (mkS w1)), some (.str (mkS w2)), some (.str z), none, none]) rfl ?_
  have a2 : Same H2 H5 := s3.trans (s4.trans s5)
  have a1 : Same H1 H5 := s2.trans a2
  have a0 : Same H H5 := s1.trans a1
  have r1' := r1.keep a1.tups
  have r2' := r2.keep a2.tups
  have el1' := a1 _ _ el1
  have el2' := a2 _ _ el2
  have q1 := sum_len ok1
  have q2 := sum_len ok2
  have q3 := hr1.hi
  have q4 := hr2.hi
  have N4 : (NS ds).length ≤ 4 := Nat.le_refl 4
  have R4 : (RS ds).length ≤ 4 := show 3 ≤ 4 by decide
  clear ez
  by_cases hz : z = Str.ofString "is"
  · refine st_yes (fun Q q => ⟨_, rfl, rfl, _, rfl, bE (str_yes hz) q⟩) ?_
    obtain ⟨kk, hkk, epick⟩ := pickS n
    have q5 := num_len6 hkk
    refine ⟨_, rfl, _, _, rfl, rfl, ⟨by decide, by decide⟩, _, _, rfl, rfl, by decide, by show 4 ≤ sizeLine; decide, fun t0 ht0 => ?_⟩
    refine ⟨_, rfl, _, _, rfl, rfl, ⟨by decide, by decide⟩, _, _, rfl, rfl, by decide, t0, _, _, _, rfl, rfl, SqL.of upd_same, epick, ?_⟩
    have s6 := Same.new ht0 (o := .lst [.int 0, .int 1, .int 999999, .int (n / 45 % 1000000)])
    generalize upd H5 t0 (.lst [.int 0, .int 1, .int 999999, .int (n / 45 % 1000000)]) = H6 at s6 ⊢
    dsimp only [gName]
    refine slots (σ' := [some (.ref a), some (.int (k : Int)), some (.int n), some v1, some (.str (mkS (sumT ps1))), some (.ref l1), some v2, some (.str (mkS (sumT ps2))), some (.ref l2), some (.str (mkS w1)), some (.str (mkS w2)), some (.str z), some (.int (kk : Int)), none]) rfl ?_
    refine ⟨_, rfl, _, rfl, _, rfl, by show 4 ≤ sizeLine; decide, fun t ht => ?_⟩
    have s7 := Same.new ht (o := .tup [.str (Str.ofString "is"), .str (mkS w1), v1, .int (kk : Int)])
    have R7 : Rep K (upd H6 t (.tup [.str (Str.ofString "is"), .str (mkS w1), v1, .int (kk : Int)])) (.ref t) (Stm.is w1 ps1 kk).dat := by
      unfold Stm.dat
      rw [show mkS isK = Str.ofString "is" by decide +kernel]
      exact .new upd_same (.cons (.str _) (.cons (.str _) (.cons (r1'.keep (s6.trans s7).tups) (.cons (.int _) .nil))))
    generalize upd H6 t (.tup [.str (Str.ofString "is"), .str (mkS w1), v1, .int (kk : Int)]) = H7 at s7 R7 ⊢
    have a7 : Same H5 H7 := s6.trans s7
    refine ⟨_, rfl, _, _, rfl, rfl, sz (by simp only [bS, eS, kS, gS, add_kk, strNum, len_mkS, List.length_append, List.length_cons, List.length_nil]; omega), _, rfl, _, _, rfl, rfl, sz (by simp only [bS, eS, kS, gS, add_kk, strNum, len_mkS, List.length_append, List.length_cons, List.length_nil]; omega), _, _, rfl, rfl, sz (by simp only [bS, eS, kS, gS, add_kk, strNum, len_mkS, List.length_append, List.length_cons, List.length_nil]; omega), _, rfl, _, rfl, log_ok hkk, _, _, rfl, rfl, sz (by simp only [bS, eS, kS, gS, add_kk, strNum, len_mkS, List.length_append, List.length_cons, List.length_nil]; omega), _, rfl, ?_⟩
    dsimp only [tNil]
    refine sort_k (SqL.of (a7 _ _ el1')) (by omega) N4 mem1 (fun p zs H8 s8 np e8 len8 mem8 => ?_)
    refine ⟨_, rfl, by show 1 ≤ sizeLine; decide, fun rl hrl => ⟨by show 5 ≤ sizeLine; decide, fun b hb => ?_⟩⟩
    have et : mkS w1 ++ Str.ofString "[" ++ mkS (sumT ps1) ++ Str.ofString "] = " ++ Str.ofString (toString (kk : Int)) = mkS (Stm.is w1 ps1 kk).text := by
      rw [bS, eS, strNum, add_kk, add_kk, add_kk, add_kk]
      unfold Stm.text placeT isT
      simp
    have a8 : Same H H8 := a0.trans (a7.trans s8)
    have z8 : Same H8 (upd (upd H8 rl (.lst [.str (mkS w1)])) b (.lst [.ref t, .str (mkS (Stm.is w1 ps1 kk).text), .int 0, .ref p, .ref rl])) := (Same.new hrl).trans (Same.new hb)
    refine q (.is w1 ps1 kk) b _ ⟨hr1, ok1, hkk⟩ rfl (a8.trans ((Same.new hrl).trans (Same.new hb))) ?_
    have et2 := congrArg V.str et
    refine ⟨.ref t, p, rl, zs, [mkS w1], ?_, R7.keep (s8.trans ((Same.new hrl).trans (Same.new hb))).tups, (Same.new hb) _ _ ((Same.new hrl) _ _ e8), (Same.new hb) _ _ upd_same, ⟨len8, mem8⟩, ⟨show 1 ≤ 4 by decide, fun x hx => by rw [List.mem_singleton.mp hx]; exact hin1⟩, ?_, ?_, ?_⟩
    · rw [upd_same]
      exact congrArg (fun x => some (HO.lst [.ref t, x, .int 0, .ref p, .ref rl])) et2
    · exact fun zz => hN _ zz (a8.free ((Same.new hrl).free hb))
    · exact fun zz => hN _ zz (((a0.trans a7)).free np)
    · exact fun zz => hN _ zz (a8.free hrl)
  have cz2 := cz.resolve_left hz
  refine st_no (fun Q q => ⟨_, rfl, rfl, _, rfl, bE (str_no hz) q⟩) ?_
  dsimp only
  refine ⟨_, rfl, _, rfl, l1, l2, _, _, rfl, rfl, el1', el2', sz (by rw [List.length_map, List.length_map]; omega), fun lc hlc => ?_⟩
  dsimp only [tNil]
  refine sort_k (a := lc) (ys := ws1 ++ ws2) (n0 := NS ds) ?_ ?_ N4 (fun y hy => (List.mem_append.mp hy).elim (mem1 y) (mem2 y)) (fun p zs H6 s6' np' e6 len6 mem6 => ?_)
  · refine SqL.of ?_
    rw [upd_same, List.map_append]
  · rw [List.length_append]
    omega
  have s6 : Same H5 H6 := (Same.new hlc).trans s6'
  have np : H5 p = none := (Same.new hlc).free np'
  have a6 : Same H H6 := a0.trans s6
  have r1'' := r1'.keep s6.tups
  have r2'' := r2'.keep s6.tups
  dsimp only [gName]
  refine slots (σ' := [some (.ref a), some (.int (k : Int)), some (.int n), some v1, some (.str (mkS (sumT ps1))), some (.ref p), some v2, some (.str (mkS (sumT ps2))), some (.ref l2), some (.str (mkS w1)), some (.str (mkS w2)), some (.str z), none, none]) rfl ?_
  rcases cz2 with ⟨_, hl⟩ | ⟨_, hl, kk, hkk, hcmp⟩
  · refine st_yes (fun Q q => ⟨_, rfl, rfl, _, rfl, bE (str_yes hl) q⟩) ?_
    refine ⟨_, rfl, _, _, rfl, rfl, sz (by simp only [bS, eS, kS, gS, add_kk, strNum, len_mkS, List.length_append, List.length_cons, List.length_nil]; omega), _, rfl, _, _, rfl, rfl, sz (by simp only [bS, eS, kS, gS, add_kk, strNum, len_mkS, List.length_append, List.length_cons, List.length_nil]; omega), _, _, rfl, rfl, sz (by simp only [bS, eS, kS, gS, add_kk, strNum, len_mkS, List.length_append, List.length_cons, List.length_nil]; omega), _, rfl, _, _, rfl, rfl, sz (by simp only [bS, eS, kS, gS, add_kk, strNum, len_mkS, List.length_append, List.length_cons, List.length_nil]; omega), _, _, rfl, rfl, sz (by simp only [bS, eS, kS, gS, add_kk, strNum, len_mkS, List.length_append, List.length_cons, List.length_nil]; omega), _, rfl, _, _, rfl, rfl, sz (by simp only [bS, eS, kS, gS, add_kk, strNum, len_mkS, List.length_append, List.length_cons, List.length_nil]; omega), _, _, rfl, rfl, sz (by simp only [bS, eS, kS, gS, add_kk, strNum, len_mkS, List.length_append, List.length_cons, List.length_nil]; omega), ?_⟩
    have et : mkS w1 ++ Str.ofString "[" ++ mkS (sumT ps1) ++ Str.ofString "] = " ++ mkS w2 ++ Str.ofString "[" ++ mkS (sumT ps2) ++ Str.ofString "]" = mkS (Stm.like w1 ps1 w2 ps2).text := by
      rw [bS, eS, kS, add_kk, add_kk, add_kk, add_kk, add_kk, add_kk, add_kk]
      unfold Stm.text placeT isT
      simp
    dsimp only [gName]
    rw [et]
    refine slots (σ' := [some (.ref a), some (.int (k : Int)), some (.int n), some v1, some (.str (mkS (sumT ps1))), some (.ref p), some v2, some (.str (mkS (sumT ps2))), some (.ref l2), some (.str (mkS w1)), some (.str (mkS w2)), some (.str z), none, some (.str (mkS (Stm.like w1 ps1 w2 ps2).text))]) rfl ?_
    refine ⟨_, rfl, _, rfl, _, rfl, _, rfl, by show 5 ≤ sizeLine; decide, fun t ht => ?_⟩
    have s7 := Same.new ht (o := .tup [.str (Str.ofString "like"), .str (mkS w1), v1, .str (mkS w2), v2])
    have R7 : Rep K (upd H6 t (.tup [.str (Str.ofString "like"), .str (mkS w1), v1, .str (mkS w2), v2])) (.ref t) (Stm.like w1 ps1 w2 ps2).dat := by
      unfold Stm.dat
      rw [show mkS likeK = Str.ofString "like" by decide +kernel]
      exact .new upd_same (.cons (.str _) (.cons (.str _) (.cons (r1''.keep s7.tups) (.cons (.str _) (.cons (r2''.keep s7.tups) .nil)))))
    generalize upd H6 t (.tup [.str (Str.ofString "like"), .str (mkS w1), v1, .str (mkS w2), v2]) = H7 at s7 R7 ⊢
    refine ⟨_, rfl, _, rfl, _, rfl, _, rfl, two1000, fun t2 ht2 => ?_⟩
    dsimp only [tNil]
    refine sort_k (ys := [mkS w1, mkS w2]) (n0 := RS ds) (SqL.of upd_same) (by show 2 ≤ 1000; decide) R4 (fun y hy => ?_) (fun rl rs H8 s8' nr' e8 len8 mem8 => ?_)
    · rcases List.mem_cons.mp hy with e | e
      · rw [e]
        exact hin1
      · rw [List.mem_singleton.mp e]
        exact hin2
    have s8 : Same H7 H8 := (Same.new ht2).trans s8'
    have nr : H7 rl = none := (Same.new ht2).free nr'
    have a8 : Same H H8 := a6.trans (s7.trans s8)
    refine ⟨by show 5 ≤ sizeLine; decide, fun b hb => ?_⟩
    refine q (.like w1 ps1 w2 ps2) b _ ⟨hr1, ok1, hr2, ok2⟩ rfl (a8.trans (Same.new hb)) ?_
    refine ⟨.ref t, p, rl, zs, rs, ?_, R7.keep (s8.trans (Same.new hb)).tups, (Same.new hb) _ _ (s8 _ _ (s7 _ _ e6)), (Same.new hb) _ _ e8, ⟨len6, mem6⟩, ⟨len8, mem8⟩, ?_, ?_, ?_⟩
    · exact upd_same
    · exact fun zz => hN _ zz (a8.free hb)
    · exact fun zz => hN _ zz (a0.free np)
    · exact fun zz => hN _ zz ((a6.trans s7).free nr)
  · refine st_no (fun Q q => ⟨_, rfl, rfl, _, rfl, bE (str_no hl) q⟩) ?_
    subst hcmp
    have q6 := cmp_len kk
    refine ⟨_, rfl, _, rfl, _, rfl, by show 3 ≤ sizeLine; decide, fun t ht => ?_⟩
    have s7 := Same.new ht (o := .tup [.str (mkS (cmpT kk)), v1, v2])
    have R7 : Rep K (upd H6 t (.tup [.str (mkS (cmpT kk)), v1, v2])) (.ref t) (Stm.cmp kk ps1 ps2).dat := by
      unfold Stm.dat
      exact .new upd_same (.cons (.str _) (.cons (r1''.keep s7.tups) (.cons (r2''.keep s7.tups) .nil)))
    generalize upd H6 t (.tup [.str (mkS (cmpT kk)), v1, v2]) = H7 at s7 R7 ⊢
    refine ⟨_, rfl, _, _, rfl, rfl, sz (by simp only [bS, eS, kS, gS, add_kk, strNum, len_mkS, List.length_append, List.length_cons, List.length_nil]; omega), _, rfl, _, _, rfl, rfl, sz (by simp only [bS, eS, kS, gS, add_kk, strNum, len_mkS, List.length_append, List.length_cons, List.length_nil]; omega), _, _, rfl, rfl, sz (by simp only [bS, eS, kS, gS, add_kk, strNum, len_mkS, List.length_append, List.length_cons, List.length_nil]; omega), _, rfl, _, _, rfl, rfl, sz (by simp only [bS, eS, kS, gS, add_kk, strNum, len_mkS, List.length_append, List.length_cons, List.length_nil]; omega), _, rfl, by show 0 ≤ sizeLine; decide, fun rl hrl => ⟨by show 5 ≤ sizeLine; decide, fun b hb => ?_⟩⟩
    have et : mkS (sumT ps1) ++ Str.ofString " " ++ mkS (cmpT kk) ++ Str.ofString " " ++ mkS (sumT ps2) = mkS (Stm.cmp kk ps1 ps2).text := by
      rw [gS, add_kk, add_kk, add_kk, add_kk]
      unfold Stm.text
      simp
    have a7 : Same H H7 := a6.trans s7
    refine q (.cmp kk ps1 ps2) b _ ⟨hkk, ok1, ok2⟩ rfl (a7.trans ((Same.new hrl).trans (Same.new hb))) ?_
    refine ⟨.ref t, p, rl, zs, [], ?_, R7.keep ((Same.new hrl).trans (Same.new hb)).tups, (Same.new hb) _ _ ((Same.new hrl) _ _ (s7 _ _ e6)), (Same.new hb) _ _ upd_same, ⟨len6, mem6⟩, ⟨show 0 ≤ 4 by decide, fun x hx => nomatch hx⟩, ?_, ?_, ?_⟩
    · rw [upd_same]
      exact congrArg (fun x => some (HO.lst [.ref t, x, .int 0, .ref p, .ref rl])) (congrArg V.str et)
    · exact fun zz => hN _ zz (a7.free ((Same.new hrl).free hb))
    · exact fun zz => hN _ zz (a0.free np)
    · exact fun zz => hN _ zz (a7.free hrl)
end
end K53

/-! The law's larger statements: wrapped, two. -/
namespace K53
open PySem L2 TL

abbrev sWrapped : Stmt := tp 36
abbrev sTwoL : Stmt := tp 37
def spWrapped (K : PySem.W.Frag) : Sp := fun vs H Q _ => ∃ (a b : Addr) (ds : List Int) (m : Nat) (n : Int) (N : Addr → Prop) (s : Stm) (d : Nat), vs = [.ref a, .ref b, .int n] ∧ Spread K H a ds m ∧ (∀ x, N x → H x ≠ none) ∧ It K N (NS ds) (RS ds) H b s d ∧ s.Ok ∧ s.text.length + 13 ≤ 1000 ∧
  ∀ (t : Stm) (c : Addr) (H' : Hp), t.Ok → t.depth = s.depth + 1 → t.text.length ≤ s.text.length + 13 → Same H H' → It K N (NS ds) (RS ds) H' c t (d + 1) → Q (.ref c) H'
def spTwoL (K : PySem.W.Frag) : Sp := fun vs H Q _ => ∃ (b1 b2 : Addr) (n : Int) (N : Addr → Prop) (n0 r0 : List Str) (s1 s2 : Stm) (d1 d2 : Nat), vs = [.ref b1, .ref b2, .int n] ∧ (∀ x, N x → H x ≠ none) ∧ n0.length ≤ 4 ∧ r0.length ≤ 4 ∧
  It K N n0 r0 H b1 s1 d1 ∧ It K N n0 r0 H b2 s2 d2 ∧ s1.Ok ∧ s2.Ok ∧ s1.text.length + s2.text.length + 7 ≤ 1000 ∧
  ∀ (t : Stm) (c : Addr) (H' : Hp), t.Ok → t.depth = max s1.depth s2.depth + 1 → t.text.length ≤ s1.text.length + s2.text.length + 7 → Same H H' → It K N n0 r0 H' c t (max d1 d2 + 1) → Q (.ref c) H'
theorem pickQ (n : Int) (h : n % 3 ≠ 0) : ∃ e : Bool, atI [V.str (Str.ofString "some"), V.str (Str.ofString "all")] (n % 3 - 1) = some (.str (mkS (quT e))) := by
  have c : n % 3 - 1 = ((0 : Nat) : Int) ∨ n % 3 - 1 = ((1 : Nat) : Int) := by omega
  have e1 : Str.ofString "some" = mkS (quT true) := by decide +kernel
  have e2 : Str.ofString "all" = mkS (quT false) := by decide +kernel
  rcases c with e | e <;> rw [e]
  · exact ⟨true, atI_nat (by rw [e1]; rfl)⟩
  · exact ⟨false, atI_nat (by rw [e2]; rfl)⟩
theorem pickO (n : Int) : ∃ e : Bool, atI [V.str (Str.ofString "and"), V.str (Str.ofString "or")] (n % 2) = some (.str (mkS (twoT e))) := by
  have c : n % 2 = ((0 : Nat) : Int) ∨ n % 2 = ((1 : Nat) : Int) := by omega
  have e1 : Str.ofString "and" = mkS (twoT true) := by decide +kernel
  have e2 : Str.ofString "or" = mkS (twoT false) := by decide +kernel
  rcases c with e | e <;> rw [e]
  · exact ⟨true, atI_nat (by rw [e1]; rfl)⟩
  · exact ⟨false, atI_nat (by rw [e2]; rfl)⟩
theorem qu_len (e : Bool) : (quT e).length ≤ 4 := by cases e <;> decide
theorem two_len (e : Bool) : (twoT e).length ≤ 3 := by cases e <;> decide
section
variable {P : Program} {w : World} {K : PySem.W.Frag} {mg : Str → Option Value} {base : Heap} {f f1 f2 f3 : Addr} {fd d1 d2 d3 : FuncData}
theorem scWrapped : FnScope ["_law_spread_here", "_law_item", "_law_number", "_law_statement", "_law_line", "_law_deep", "_law_names", "_law_rows", "_law_kind", "_law_name_here", "_law_left", "_law_one"] ["_law_spread_here", "_law_item", "_law_number"] (defScope sWrapped) := ⟨rfl, rfl, rfl, by decide +kernel, rfl, by decide +kernel, by decide +kernel⟩
theorem ok_wrapped (D : Def K mg "_law_wrapped" sWrapped ["_law_spread_here", "_law_item", "_law_number"] f fd) (X : Tx K mg) (D1 : Def K mg "_law_name" sNameL ["_law_spread_here", "_law_number"] f1 d1) (G1 : FnOk P w K mg base CX0 2 f1 d1 ["_law_spread_here", "_law_number"] (spNameL K)) :
    FnOk P w K mg base CX0 3 f fd ["_law_spread_here", "_law_item", "_law_number"] (spWrapped K) := by
  refine D.F.ok scWrapped (fun vs H Q E h => ?_) (fun cdv A outer s H vs Q E hr h => ?_)
  · obtain ⟨a, b, ds, m, n, N, s, d, rfl, _⟩ := h
    rfl
  obtain ⟨a, b, ds, m, n, N, s0, d, rfl, hS, hN, hI, hok, hlen, q⟩ := h
  have nd := scWrapped.nd
  refine ⟨_, pss_cons (ps_asg (pv 1) (pg_unl rfl (pgs_cons (pg_name (i := 3) nd rfl (Or.inl rfl)) (pgs_cons (pg_name (i := 4) nd rfl (Or.inl rfl)) (pgs_cons (pg_name (i := 5) nd rfl (Or.inl rfl)) (pgs_cons (pg_name (i := 6) nd rfl (Or.inl rfl)) (pgs_cons (pg_name (i := 7) nd rfl (Or.inl rfl)) pgs_nil)))))))
    (pss_cons (ps_if (pt_cmpR op_eq (pe_op o_mod (pv 2) pe_int) pe_int (nomark _))
      (pss_one (ps_ret (pe_lst (pa_cons (pe_tup (pa_cons pe_str (pa_cons (pv 3) pa_nil))) (pa_cons (pe_op op_add_str pe_str (pv 4)) (pa_cons (pe_op o_add (pv 5) pe_int) (pa_cons (pv 6) (pa_cons (pv 7) pa_nil)))))))) pss_nil)
    (pss_cons (ps_set (i := 8) nd rfl (Or.inl rfl) (pe_ix ix_list (pe_lst (pa_cons pe_str (pa_cons pe_str pa_nil))) (pe_op o_sub (pe_op o_mod (pv 2) pe_int) pe_int) (fun _ _ => rfl)))
    (pss_cons (ps_set (i := 9) nd rfl (Or.inr rfl) (pe_call G1 hr rfl D1.m D1.F.kp D1.b .nil pass0 (pa_cons (pv 0) (pa_cons (pe_op o_div (pv 2) pe_int) pa_nil))))
    (pss_cons (ps_setLc (i := 10) (own := [("_law_one", 11)]) (g := gName 11) rfl nd rfl rfl rfl (pi_list (pv 6)) (blkOk_by (N := ["_law_spread_here", "_law_item", "_law_number", "_law_statement", "_law_line", "_law_deep", "_law_names", "_law_rows", "_law_kind", "_law_name_here", "_law_left", "_law_one"]) (sc := defScope sWrapped) (by decide +kernel))
      (fun _ _ _ _ _ => pg_name (i := 11) nd rfl (Or.inl rfl)) (fun _ _ _ _ _ => pts_one (pt_cmpR op_ne (pv 11) (pv 9) (nomark _))) (fun _ _ _ _ _ => pv 11))
    (pss_one (ps_ret (pe_lst (pa_cons (pe_tup (pa_cons (pv 8) (pa_cons (pv 9) (pa_cons (pv 3) pa_nil)))) (pa_cons (pe_op op_add_str (pe_op op_add_str (pe_op op_add_str (pe_op op_add_str (pv 8) pe_str) (pv 9)) pe_str) (pv 4)) (pa_cons (pe_op o_add (pv 5) pe_int) (pa_cons (pv 10) (pa_cons (pv 7) pa_nil)))))))))))), ?_⟩
  obtain ⟨v, nl, rl, ns, rs, e1, rv, en, er, ⟨hn4, hnm⟩, ⟨hr4, hrm⟩, x1, x2, x3⟩ := hI
  have nS : Str.ofString "not " = mkS [110, 111, 116, 32] := by decide +kernel
  have gS : Str.ofString " " = mkS [32] := by decide +kernel
  have cS : Str.ofString ": " = mkS [58, 32] := by decide +kernel
  refine ⟨_, rfl, b, _, rfl, SqL.of e1, rfl, _, _, rfl, _, _, rfl, _, _, rfl, _, _, rfl, _, _, rfl, rfl, ?_⟩
  dsimp only
  refine slots (σ' := [some (.ref a), some (.ref b), some (.int n), some v, some (.str (mkS s0.text)), some (.int (d : Int)), some (.ref nl), some (.ref rl), none, none, none, none]) rfl ?_
  by_cases h0 : n % 3 = 0
  · refine st_yes (fun Q q => ⟨_, rfl, _, _, rfl, rfl, by decide, rfl, _, rfl, bE (decide_eq_true (by rw [h0])) q⟩) ?_
    refine ⟨_, rfl, two1000, fun t ht => ?_⟩
    have R : Rep K (upd H t (.tup [.str (Str.ofString "not"), v])) (.ref t) (Stm.neg s0).dat := by
      unfold Stm.dat
      rw [show mkS notK = Str.ofString "not" by decide +kernel]
      exact .new upd_same (.cons (.str _) (.cons (rv.keep (Same.new ht).tups) .nil))
    have s1 := Same.new ht (o := .tup [.str (Str.ofString "not"), v])
    generalize upd H t (.tup [.str (Str.ofString "not"), v]) = H1 at R s1 ⊢
    refine ⟨_, rfl, _, _, rfl, rfl, sz (by simp only [nS, gS, cS, add_kk, len_mkS, List.length_append, List.length_cons, List.length_nil]; omega), _, rfl, _, _, rfl, rfl, _, rfl, _, rfl, by show 5 ≤ sizeLine; decide, fun c hc => ?_⟩
    have et : Str.ofString "not " ++ mkS s0.text = mkS (Stm.neg s0).text := by
      rw [nS, add_kk]
      rfl
    refine q (.neg s0) c _ hok rfl ?_ (s1.trans (Same.new hc)) ?_
    · show ([110, 111, 116, 32] ++ s0.text).length ≤ _
      rw [List.length_append]
      show 4 + s0.text.length ≤ _
      omega
    refine ⟨.ref t, nl, rl, ns, rs, ?_, R.keep (Same.new hc).tups, (Same.new hc) _ _ (s1 _ _ en), (Same.new hc) _ _ (s1 _ _ er), ⟨hn4, hnm⟩, ⟨hr4, hrm⟩, fun z => hN _ z (s1.free hc), x2, x3⟩
    rw [upd_same, et]
    rfl
  refine st_no (fun Q q => ⟨_, rfl, _, _, rfl, rfl, by decide, rfl, _, rfl, bE (int_no h0) q⟩) ?_
  dsimp only
  obtain ⟨e, ee⟩ := pickQ n h0
  have q4 := qu_len e
  refine ⟨two1000, fun t0 ht0 => ⟨_, rfl, _, _, rfl, rfl, by decide, _, _, rfl, rfl, t0, _, _, _, rfl, rfl, SqL.of upd_same, ee, ?_⟩⟩
  have s1 := Same.new ht0 (o := .lst [.str (Str.ofString "some"), .str (Str.ofString "all")])
  generalize upd H t0 (.lst [.str (Str.ofString "some"), .str (Str.ofString "all")]) = H1 at s1 ⊢
  dsimp only [gName]
  refine ⟨_, rfl, _, rfl, _, _, rfl, rfl, ⟨by decide, by decide⟩, a, ds, m, _, rfl, hS.keep s1, fun w1 H2 hw hin s2 => ?_⟩
  have q6 := hw.hi
  dsimp only [gName]
  refine slots (σ' := [some (.ref a), some (.ref b), some (.int n), some v, some (.str (mkS s0.text)), some (.int (d : Int)), some (.ref nl), some (.ref rl), some (.str (mkS (quT e))), some (.str (mkS w1)), none, none]) rfl ?_
  have a2 := s1.trans s2
  have en2 := a2 _ _ en
  refine ⟨_, rfl, nl, rfl, ⟨_, SqL.of en2⟩, fun L hL => lc_list (K := K) (a := nl) (xs := ns.map V.str) (fun i H' => ∃ l : List Str, l.length ≤ i ∧ H' L = some (.lst (l.map V.str)) ∧ (∀ x ∈ l, x ∈ NS ds) ∧ Same H2 H')
    ⟨[], Nat.le_refl _, upd_same, (fun _ z => nomatch z), Same.new hL⟩ (fun i H' _ ⟨_, _, _, _, s⟩ => SqL.of (s _ _ en2)) ?_ ?_⟩
  · rintro i x H' hx ⟨l, hll, el, hm, s3⟩
    obtain ⟨y, hy, rfl⟩ : ∃ y, y ∈ ns ∧ V.str y = x := List.mem_map.mp (List.mem_of_getElem? hx)
    have hi : i < ns.length := by
      have := (List.getElem?_eq_some_iff.mp hx).1
      rwa [List.length_map] at this
    refine ⟨rfl, _, rfl, _, rfl, rfl, _, rfl, ?_⟩
    by_cases hyw : y = mkS w1
    · refine ifF (by rw [str_yes hyw]; rfl) ⟨l, by omega, el, hm, s3⟩
    · refine ifT (by rw [str_no hyw]; rfl) ⟨_, rfl, _, el, small1000 (by rw [List.length_map]; omega), l ++ [y], by rw [List.length_append]; show l.length + 1 ≤ i + 1; omega, ?_, ?_, s3.mut hL⟩
      · rw [upd_same, List.map_append]
        rfl
      · intro x hx
        rcases List.mem_append.mp hx with z | z
        · exact hm x z
        · rw [List.mem_singleton.mp z]
          exact hnm y hy
  rintro H3 ⟨l, hll, el, hm, s3⟩
  rw [List.length_map] at hll
  dsimp only [gName]
  refine slots (σ' := [some (.ref a), some (.ref b), some (.int n), some v, some (.str (mkS s0.text)), some (.int (d : Int)), some (.ref nl), some (.ref rl), some (.str (mkS (quT e))), some (.str (mkS w1)), some (.ref L), none]) rfl ?_
  have a3 := a2.trans s3
  refine ⟨_, rfl, _, rfl, _, rfl, by show 3 ≤ sizeLine; decide, fun t ht => ?_⟩
  have R : Rep K (upd H3 t (.tup [.str (mkS (quT e)), .str (mkS w1), v])) (.ref t) (Stm.qu e w1 s0).dat := by
    unfold Stm.dat
    exact .new upd_same (.cons (.str _) (.cons (.str _) (.cons (rv.keep (a3.trans (Same.new ht)).tups) .nil)))
  have s4 := Same.new ht (o := .tup [.str (mkS (quT e)), .str (mkS w1), v])
  generalize upd H3 t (.tup [.str (mkS (quT e)), .str (mkS w1), v]) = H4 at R s4 ⊢
  have a4 := a3.trans s4
  refine ⟨_, rfl, _, _, rfl, rfl, sz (by simp only [nS, gS, cS, add_kk, len_mkS, List.length_append, List.length_cons, List.length_nil]; omega), _, rfl, _, _, rfl, rfl, sz (by simp only [nS, gS, cS, add_kk, len_mkS, List.length_append, List.length_cons, List.length_nil]; omega), _, _, rfl, rfl, sz (by simp only [nS, gS, cS, add_kk, len_mkS, List.length_append, List.length_cons, List.length_nil]; omega), _, rfl, _, _, rfl, rfl, sz (by simp only [nS, gS, cS, add_kk, len_mkS, List.length_append, List.length_cons, List.length_nil]; omega), _, rfl, _, _, rfl, rfl, _, rfl, _, rfl, by show 5 ≤ sizeLine; decide, fun c hc => ?_⟩
  have et : mkS (quT e) ++ Str.ofString " " ++ mkS w1 ++ Str.ofString ": " ++ mkS s0.text = mkS (Stm.qu e w1 s0).text := by
    rw [gS, cS, add_kk, add_kk, add_kk, add_kk]
    show _ = mkS (quT e ++ 32 :: (w1 ++ (58 :: 32 :: s0.text)))
    simp
  refine q (.qu e w1 s0) c _ ⟨hw, hok⟩ rfl ?_ (a4.trans (Same.new hc)) ?_
  · show (quT e ++ 32 :: (w1 ++ (58 :: 32 :: s0.text))).length ≤ _
    simp only [List.length_append, List.length_cons]
    omega
  refine ⟨.ref t, L, rl, l, rs, ?_, R.keep (Same.new hc).tups, (Same.new hc) _ _ (s4 _ _ el), (Same.new hc) _ _ (a4 _ _ er), ⟨by omega, hm⟩, ⟨hr4, hrm⟩, fun z => hN _ z (a4.free hc), fun z => hN _ z (a2.free hL), x3⟩
  rw [upd_same, et]
  rfl
theorem scTwoL : FnScope ["_law_one", "_law_other", "_law_number", "_law_kind", "_law_line", "_law_names"] ["_law_one", "_law_other", "_law_number"] (defScope sTwoL) := ⟨rfl, rfl, rfl, by decide +kernel, rfl, by decide +kernel, by decide +kernel⟩
theorem ok_twoL (D : Def K mg "_law_two" sTwoL ["_law_one", "_law_other", "_law_number"] f fd) (X : Tx K mg) : FnOk P w K mg base CX0 1 f fd ["_law_one", "_law_other", "_law_number"] (spTwoL K) := by
  refine D.F.ok scTwoL (fun vs H Q E h => ?_) (fun cdv A outer s H vs Q E hr h => ?_)
  · obtain ⟨b1, b2, n, N, n0, r0, s1, s2, d1, d2, rfl, _⟩ := h
    rfl
  obtain ⟨b1, b2, n, N, n0, r0, s1, s2, d1, d2, rfl, hN, hn4, hr4, I1, I2, ok1, ok2, hlen, q⟩ := h
  have nd := scTwoL.nd
  refine ⟨_, pss_cons (ps_set (i := 3) nd rfl (Or.inl rfl) (pe_ix ix_list (pe_lst (pa_cons pe_str (pa_cons pe_str pa_nil))) (pe_op o_mod (pv 2) pe_int) (fun _ _ => rfl)))
    (pss_cons (ps_set (i := 4) nd rfl (Or.inl rfl) (pe_op op_add_str (pe_op op_add_str (pe_op op_add_str (pe_op op_add_str (pe_op op_add_str (pe_op op_add_str pe_str (pe_ix ix_list (pv 0) pe_int (fun _ _ => rfl))) pe_str) (pv 3)) pe_str) (pe_ix ix_list (pv 1) pe_int (fun _ _ => rfl))) pe_str))
    (pss_cons (ps_set (i := 5) nd rfl (Or.inl rfl) (pe_callB (cr_sortedT rfl) rfl X.sorted (by decide +kernel) (pa_cons (pe_callTy (cr_setT rfl) rfl X.set (by decide +kernel) (pa_cons (pe_op op_cat (pe_ix ix_list (pv 0) pe_int (fun _ _ => rfl)) (pe_ix ix_list (pv 1) pe_int (fun _ _ => rfl))) pa_nil)) pa_nil)))
    (pss_one (ps_ret (pe_lst (pa_cons (pe_tup (pa_cons (pv 3) (pa_cons (pe_ix ix_list (pv 0) pe_int (fun _ _ => rfl)) (pa_cons (pe_ix ix_list (pv 1) pe_int (fun _ _ => rfl)) pa_nil)))) (pa_cons (pv 4)
      (pa_cons (pe_op o_add pe_int (pe_callB (call_max2 rfl) rfl X.max (by decide +kernel) (pa_cons (pe_ix ix_list (pv 0) pe_int (fun _ _ => rfl)) (pa_cons (pe_ix ix_list (pv 1) pe_int (fun _ _ => rfl)) pa_nil))))
      (pa_cons (pv 5) (pa_cons (pe_callB (cr_sortedT rfl) rfl X.sorted (by decide +kernel) (pa_cons (pe_callTy (cr_setT rfl) rfl X.set (by decide +kernel) (pa_cons (pe_op op_cat (pe_ix ix_list (pv 0) pe_int (fun _ _ => rfl)) (pe_ix ix_list (pv 1) pe_int (fun _ _ => rfl))) pa_nil)) pa_nil)) pa_nil)))))))))), ?_⟩
  obtain ⟨v1, nl1, rl1, ns1, rs1, e1, r1, en1, er1, ⟨hn1, hnm1⟩, ⟨hr1, hrm1⟩, _, _, _⟩ := I1
  obtain ⟨v2, nl2, rl2, ns2, rs2, e2, r2, en2, er2, ⟨hn2, hnm2⟩, ⟨hr2, hrm2⟩, _, _, _⟩ := I2
  have gS : Str.ofString " " = mkS [32] := by decide +kernel
  have oS : Str.ofString "(" = mkS [40] := by decide +kernel
  have kS : Str.ofString ")" = mkS [41] := by decide +kernel
  obtain ⟨o, eo⟩ := pickO n
  have q3 := two_len o
  refine ⟨two1000, fun t0 ht0 => ⟨_, rfl, _, _, rfl, rfl, by decide, t0, _, _, _, rfl, rfl, SqL.of upd_same, eo, ?_⟩⟩
  have s3 := Same.new ht0 (o := .lst [.str (Str.ofString "and"), .str (Str.ofString "or")])
  generalize upd H t0 (.lst [.str (Str.ofString "and"), .str (Str.ofString "or")]) = H3 at s3 ⊢
  dsimp only [gName]
  refine slots (σ' := [some (.ref b1), some (.ref b2), some (.int n), some (.str (mkS (twoT o))), none, none]) rfl ?_
  have e13 := s3 _ _ e1
  have e23 := s3 _ _ e2
  refine ⟨_, rfl, b1, _, _, _, rfl, rfl, SqL.of e13, atI_nat (j := 1) rfl, _, _, rfl, rfl, sz (by simp only [gS, oS, kS, add_kk, len_mkS, List.length_append, List.length_cons, List.length_nil]; omega), _, _, rfl, rfl, sz (by simp only [gS, oS, kS, add_kk, len_mkS, List.length_append, List.length_cons, List.length_nil]; omega), _, rfl, _, _, rfl, rfl, sz (by simp only [gS, oS, kS, add_kk, len_mkS, List.length_append, List.length_cons, List.length_nil]; omega), _, _, rfl, rfl, sz (by simp only [gS, oS, kS, add_kk, len_mkS, List.length_append, List.length_cons, List.length_nil]; omega), _, rfl, b2, _, _, _, rfl, rfl, SqL.of e23, atI_nat (j := 1) rfl, _, _, rfl, rfl, sz (by simp only [gS, oS, kS, add_kk, len_mkS, List.length_append, List.length_cons, List.length_nil]; omega), _, _, rfl, rfl, sz (by simp only [gS, oS, kS, add_kk, len_mkS, List.length_append, List.length_cons, List.length_nil]; omega), ?_⟩
  have et : Str.ofString "(" ++ mkS s1.text ++ Str.ofString " " ++ mkS (twoT o) ++ Str.ofString " " ++ mkS s2.text ++ Str.ofString ")" = mkS (Stm.two o s1 s2).text := by
    rw [gS, oS, kS, add_kk, add_kk, add_kk, add_kk, add_kk, add_kk]
    show _ = mkS (40 :: (s1.text ++ (32 :: (twoT o ++ 32 :: (s2.text ++ [41])))))
    simp
  rw [et]
  dsimp only [gName]
  refine slots (σ' := [some (.ref b1), some (.ref b2), some (.int n), some (.str (mkS (twoT o))), some (.str (mkS (Stm.two o s1 s2).text)), none]) rfl ?_
  refine ⟨_, rfl, b1, _, _, _, rfl, rfl, SqL.of e13, atI_nat (j := 3) rfl, _, rfl, b2, _, _, _, rfl, rfl, SqL.of e23, atI_nat (j := 3) rfl, nl1, nl2, _, _, rfl, rfl, s3 _ _ en1, s3 _ _ en2, sz (by rw [List.length_map, List.length_map]; omega), fun lc hlc => ?_⟩
  dsimp only [tNil]
  refine sort_k (a := lc) (ys := ns1 ++ ns2) (n0 := n0) ?_ ?_ hn4 (fun y hy => (List.mem_append.mp hy).elim (hnm1 y) (hnm2 y)) (fun p zs H4 s4' np' e4 len4 mem4 => ?_)
  · refine SqL.of ?_
    rw [upd_same, List.map_append]
  · rw [List.length_append]
    omega
  have s4 : Same H3 H4 := (Same.new hlc).trans s4'
  have np : H3 p = none := (Same.new hlc).free np'
  dsimp only [gName]
  refine slots (σ' := [some (.ref b1), some (.ref b2), some (.int n), some (.str (mkS (twoT o))), some (.str (mkS (Stm.two o s1 s2).text)), some (.ref p)]) rfl ?_
  have e14 := s4 _ _ e13
  have e24 := s4 _ _ e23
  refine ⟨_, rfl, _, rfl, b1, _, _, _, rfl, rfl, SqL.of e14, atI_nat (j := 0) rfl, _, rfl, b2, _, _, _, rfl, rfl, SqL.of e24, atI_nat (j := 0) rfl, by show 3 ≤ sizeLine; decide, fun t ht => ?_⟩
  have R : Rep K (upd H4 t (.tup [.str (mkS (twoT o)), v1, v2])) (.ref t) (Stm.two o s1 s2).dat := by
    unfold Stm.dat
    exact .new upd_same (.cons (.str _) (.cons (r1.keep (s3.trans (s4.trans (Same.new ht))).tups) (.cons (r2.keep (s3.trans (s4.trans (Same.new ht))).tups) .nil)))
  have s5 := Same.new ht (o := .tup [.str (mkS (twoT o)), v1, v2])
  generalize upd H4 t (.tup [.str (mkS (twoT o)), v1, v2]) = H5 at R s5 ⊢
  have e15 := s5 _ _ e14
  have e25 := s5 _ _ e24
  have a5 : Same H H5 := s3.trans (s4.trans s5)
  refine ⟨_, rfl, _, rfl, b1, _, _, _, rfl, rfl, SqL.of e15, atI_nat (j := 2) rfl, _, rfl, b2, _, _, _, rfl, rfl, SqL.of e25, atI_nat (j := 2) rfl, _, _, rfl, _, _, rfl, rfl, _, rfl, ?_⟩
  refine ⟨_, rfl, b1, _, _, _, rfl, rfl, SqL.of e15, atI_nat (j := 4) rfl, _, rfl, b2, _, _, _, rfl, rfl, SqL.of e25, atI_nat (j := 4) rfl, rl1, rl2, _, _, rfl, rfl, a5 _ _ er1, a5 _ _ er2, sz (by rw [List.length_map, List.length_map]; omega), fun lc2 hlc2 => ?_⟩
  dsimp only [tNil]
  refine sort_k (a := lc2) (ys := rs1 ++ rs2) (n0 := r0) ?_ ?_ hr4 (fun y hy => (List.mem_append.mp hy).elim (hrm1 y) (hrm2 y)) (fun rl ws H6 s6' nr' e6 len6 mem6 => ?_)
  · refine SqL.of ?_
    rw [upd_same, List.map_append]
  · rw [List.length_append]
    omega
  have s6 : Same H5 H6 := (Same.new hlc2).trans s6'
  have nr : H5 rl = none := (Same.new hlc2).free nr'
  have a6 : Same H H6 := a5.trans s6
  refine ⟨by show 5 ≤ sizeLine; decide, fun c hc => ?_⟩
  refine q (.two o s1 s2) c _ ⟨ok1, ok2⟩ rfl ?_ (a6.trans (Same.new hc)) ?_
  · show (40 :: (s1.text ++ (32 :: (twoT o ++ 32 :: (s2.text ++ [41]))))).length ≤ _
    simp only [List.length_append, List.length_cons, List.length_nil]
    omega
  refine ⟨.ref t, p, rl, zs, ws, ?_, R.keep (s6.trans (Same.new hc)).tups, (Same.new hc) _ _ (s6 _ _ (s5 _ _ e4)), (Same.new hc) _ _ e6, ⟨len4, mem4⟩, ⟨len6, mem6⟩, fun z => hN _ z (a6.free hc), fun z => hN _ z (s3.free np), fun z => hN _ z (a5.free nr)⟩
  rw [upd_same]
  have em : (1 : Int) + (if (d2 : Int) > (d1 : Int) then (d2 : Int) else (d1 : Int)) = ((max d1 d2 + 1 : Nat) : Int) := by
    split <;> omega
  rw [em]
end
end K53

/-! The law's heap of statements: items, built. -/
namespace K53
open PySem L2 TL

abbrev sItems : Stmt := tp 38
abbrev sBuilt : Stmt := tp 39
/-- the lengths of all, with seven for each -/
def tot : List (Addr × Stm) → Nat
  | [] => 0
  | p :: r => (p.2.text.length + 7) + tot r
theorem tot_app : ∀ (a b : List (Addr × Stm)), tot (a ++ b) = tot a + tot b
  | [], b => by
    show tot b = 0 + tot b
    omega
  | p :: r, b => by
    have ih := tot_app r b
    show (p.2.text.length + 7) + tot (r ++ b) = (p.2.text.length + 7) + tot r + tot b
    omega
theorem tot_one (p : Addr × Stm) : tot [p] = p.2.text.length + 7 := rfl
theorem tot_sum : ∀ l : List (Addr × Stm), (l.map fun p => ((p.2.text.length : Nat) : Int) + 7).sum = ((tot l : Nat) : Int)
  | [] => rfl
  | p :: r => by
    have ih := tot_sum r
    rw [List.map_cons, List.sum_cons, ih]
    show ((p.2.text.length : Nat) : Int) + 7 + ((tot r : Nat) : Int) = (((p.2.text.length + 7) + tot r : Nat) : Int)
    omega
theorem last_split {α : Type} {l : List α} (h : l ≠ []) : ∃ i p, l = i ++ [p] := ⟨l.dropLast, l.getLast h, (List.dropLast_concat_getLast h).symm⟩
theorem last_at {l : List (Addr × Stm)} {p : Addr × Stm} : ((l ++ [p]).map fun p => V.ref p.1)[((l ++ [p]).map fun p => V.ref p.1).length - 1]? = some (V.ref p.1) := by
  rw [List.map_append, List.length_append]
  simp
theorem last_off {l : List (Addr × Stm)} {p : Addr × Stm} : ((l ++ [p]).map fun p => V.ref p.1).dropLast = l.map fun p => V.ref p.1 := by
  rw [List.map_append]
  exact List.dropLast_concat
theorem tot_mem : ∀ {l : List (Addr × Stm)} {p : Addr × Stm}, p ∈ l → p.2.text.length + 7 ≤ tot l
  | q :: r, p, h => by
    show _ ≤ (q.2.text.length + 7) + tot r
    rcases List.mem_cons.mp h with e | h
    · rw [e]
      omega
    · have := tot_mem h
      omega
theorem take_more {α β : Type} (g : α → β) {l : List α} {i : Nat} (h : i < l.length) : (l.take (i + 1)).map g = (l.take i).map g ++ [g l[i]] := by
  rw [List.take_succ_eq_append_getElem h, List.map_append]
  rfl
theorem It.txt {K : PySem.W.Frag} {N : Addr → Prop} {n0 r0 : List Str} {H : Hp} {a : Addr} {s : Stm} {d : Nat} (h : It K N n0 r0 H a s d) : ∃ v nl rl, H a = some (.lst [v, .str (mkS s.text), .int (d : Int), .ref nl, .ref rl]) := by
  obtain ⟨v, nl, rl, ns, rs, h1, _⟩ := h
  exact ⟨v, nl, rl, h1⟩
structure Its (K : PySem.W.Frag) (L : Addr) (n0 r0 : List Str) (G H : Hp) (l : List (Addr × Stm)) : Prop where
  el : H L = some (.lst (l.map fun p => V.ref p.1))
  it : ∀ p ∈ l, It K (· = L) n0 r0 H p.1 p.2 p.2.depth
  ok : ∀ p ∈ l, p.2.Ok
  sm : Same G H
section
variable {K : PySem.W.Frag} {L : Addr} {n0 r0 : List Str} {G H H' : Hp} {l : List (Addr × Stm)} {p : Addr × Stm}
theorem Its.hid (h : Its K L n0 r0 G H l) : ∀ x, (x = L) → H x ≠ none := fun x e z => by
  rw [e, h.el] at z
  cases z
theorem Its.grow (h : Its K L n0 r0 G H l) (s : Same H H') : Its K L n0 r0 G H' l := ⟨s _ _ h.el, fun p hp => (h.it p hp).keep s, h.ok, h.sm.trans s⟩
theorem Its.pop (h : Its K L n0 r0 G H (l ++ [p])) (g : G L = none) : Its K L n0 r0 G (upd H L (.lst (l.map fun p => V.ref p.1))) l ∧ It K (· = L) n0 r0 (upd H L (.lst (l.map fun p => V.ref p.1))) p.1 p.2 p.2.depth ∧ p.2.Ok :=
  ⟨⟨upd_same, fun q hq => (h.it q (List.mem_append_left _ hq)).upd h.el rfl, fun q hq => h.ok q (List.mem_append_left _ hq), h.sm.mut g⟩, (h.it p (List.mem_append_right _ (List.mem_singleton.mpr rfl))).upd h.el rfl, h.ok p (List.mem_append_right _ (List.mem_singleton.mpr rfl))⟩
theorem Its.push (h : Its K L n0 r0 G H l) (g : G L = none) {a : Addr} {s : Stm} (i : It K (· = L) n0 r0 H a s s.depth) (o : s.Ok) : Its K L n0 r0 G (upd H L (.lst ((l.map fun p => V.ref p.1) ++ [.ref a]))) (l ++ [(a, s)]) := by
  refine ⟨?_, fun q hq => ?_, fun q hq => ?_, h.sm.mut g⟩
  · rw [upd_same, List.map_append]
    rfl
  · rcases List.mem_append.mp hq with z | z
    · exact (h.it q z).upd h.el rfl
    · rw [List.mem_singleton.mp z]
      exact i.upd h.el rfl
  · rcases List.mem_append.mp hq with z | z
    · exact h.ok q z
    · rw [List.mem_singleton.mp z]
      exact o
end
/-- the bounds of a heap of statements -/
structure Bnd (l : List (Addr × Stm)) : Prop where
  ne : l ≠ []
  tot : tot l ≤ 992
  deep : ∀ p ∈ l, p.2.depth + l.length ≤ 20
/-- and of truths -/
theorem and_b {t u : TT} {σ : St} {H : Hp} {b c : Bool} (h : Ans t σ H b) (g : Ans u σ H c) : Ans (tAnd t u) σ H (b && c) := fun Q q => by
  refine h _ ?_
  cases b with
  | true =>
    rw [if_pos rfl]
    exact g _ q
  | false =>
    rw [if_neg (by decide)]
    exact q
theorem ans_is {t : TT} {σ : St} {H : Hp} {b c : Bool} (h : Ans t σ H b) (e : b = c) : Ans t σ H c := by
  rw [← e]
  exact h
def spItems (K : PySem.W.Frag) : Sp := fun vs H Q _ => ∃ (a : Addr) (ds : List Int) (m : Nat), vs = [.ref a] ∧ Spread K H a ds m ∧
  ∀ (L : Addr) (l : List (Addr × Stm)) (H' : Hp), H L = none → Its K L (NS ds) (RS ds) H H' l → Bnd l → Q (.ref L) H'
section
variable {P : Program} {w : World} {K : PySem.W.Frag} {mg : Str → Option Value} {base : Heap} {f f1 f2 f3 f4 : Addr} {fd d1 d2 d3 d4 : FuncData}
theorem scItems : FnScope ["_law_spread_here", "_law_items_here", "_law_k", "_law_number", "_law_size", "_law_deep", "_law_other", "_law_item"] ["_law_spread_here"] (defScope sItems) := ⟨rfl, rfl, rfl, by decide +kernel, rfl, by decide +kernel, by decide +kernel⟩
theorem ok_items (D : Def K mg "_law_items" sItems ["_law_spread_here"] f fd) (X : Tx K mg) (D1 : Def K mg "_law_draw" sDraw ["_law_spread_here", "_law_k"] f1 d1) (G1 : FnOk P w K mg base CX0 1 f1 d1 ["_law_spread_here", "_law_k"] (spDraw K))
    (D2 : Def K mg "_law_plain" sPlainL ["_law_spread_here", "_law_at"] f2 d2) (G2 : FnOk P w K mg base CX0 4 f2 d2 ["_law_spread_here", "_law_at"] (spPlainL K))
    (D3 : Def K mg "_law_wrapped" sWrapped ["_law_spread_here", "_law_item", "_law_number"] f3 d3) (G3 : FnOk P w K mg base CX0 3 f3 d3 ["_law_spread_here", "_law_item", "_law_number"] (spWrapped K))
    (D4 : Def K mg "_law_two" sTwoL ["_law_one", "_law_other", "_law_number"] f4 d4) (G4 : FnOk P w K mg base CX0 1 f4 d4 ["_law_one", "_law_other", "_law_number"] (spTwoL K)) :
    FnOk P w K mg base CX0 5 f fd ["_law_spread_here"] (spItems K) := by
  refine D.F.ok scItems (fun vs H Q E h => ?_) (fun cdv A outer s H vs Q E hr h => ?_)
  · obtain ⟨a, ds, m, rfl, _⟩ := h
    rfl
  obtain ⟨a, ds, m, rfl, hS, q⟩ := h
  have nd := scItems.nd
  have h1 : Room 1 _ := hr.mono (by decide)
  have h3 : Room 3 _ := hr.mono (by decide)
  refine ⟨_, pss_cons (ps_set (i := 1) nd rfl (Or.inl rfl) (pe_lst (pa_cons (pe_call G2 hr rfl D2.m D2.F.kp D2.b .nil pass0 (pa_cons (pv 0) (pa_cons pe_int pa_nil))) pa_nil)))
    (pss_cons (ps_for PassesOwn.never rfl (pi_range1 rfl X.range (pa_cons (pe_callB (call_min2 rfl) rfl X.min (by decide +kernel) (pa_cons (pe_callB call_len_seq rfl X.len PySem.boot_len (pa_cons (pe_ix ix_list (pv 0) pe_int (fun _ _ => rfl)) pa_nil)) (pa_cons pe_int pa_nil))) pa_nil)) (pg_name (i := 2) nd rfl (Or.inl rfl))
      (pss_cons (ps_set (i := 3) nd rfl (Or.inl rfl) (pe_call G1 h1 rfl D1.m D1.F.kp D1.b .nil pass0 (pa_cons (pv 0) (pa_cons (pe_op o_add pe_int (pv 2)) pa_nil))))
      (pss_cons (ps_set (i := 4) nd rfl (Or.inl rfl) (pe_callB (cr_sum rfl) rfl X.sum (by decide +kernel) (pa_cons (pe_lc (own := [("_law_item", 7)]) (g := gName 7) (tt := tYes) rfl nd (pi_list (pv 1)) (blkOk_by (N := ["_law_spread_here", "_law_items_here", "_law_k", "_law_number", "_law_size", "_law_deep", "_law_other", "_law_item"]) (sc := defScope sItems) (by decide +kernel)) (fun _ _ _ _ _ => pg_name (i := 7) nd rfl (Or.inl rfl)) (fun _ _ _ _ _ => pts_nil)
        (fun _ _ _ _ _ => pe_op o_add (pe_callB call_len_str rfl X.len PySem.boot_len (pa_cons (pe_ix (r := rIxL K) ix_list (pv 7) pe_int (fun _ _ => rfl)) pa_nil)) pe_int)) pa_nil)))
      (pss_cons (ps_set (i := 5) nd rfl (Or.inl rfl) (pe_op o_add (pe_callB (cr_max rfl) rfl X.max (by decide +kernel) (pa_cons (pe_lc (own := [("_law_item", 7)]) (g := gName 7) (tt := tYes) rfl nd (pi_list (pv 1)) (blkOk_by (N := ["_law_spread_here", "_law_items_here", "_law_k", "_law_number", "_law_size", "_law_deep", "_law_other", "_law_item"]) (sc := defScope sItems) (by decide +kernel)) (fun _ _ _ _ _ => pg_name (i := 7) nd rfl (Or.inl rfl)) (fun _ _ _ _ _ => pts_nil)
        (fun _ _ _ _ _ => pe_ix (r := rIxL K) ix_list (pv 7) pe_int (fun _ _ => rfl))) pa_nil)) (pe_callB call_len_seq rfl X.len PySem.boot_len (pa_cons (pv 1) pa_nil))))
      (pss_one (ps_if (PW.pt (pw_and (pt_cmpR op_lt (pv 5) pe_int (nomark _)) (pw_and (pt_cmpR op_lt (pv 4) pe_int (nomark _)) (pw_and1 (pt_cmpR op_lt (pe_op o_mod (pv 3) pe_int) pe_int (nomark _))))))
        (pss_one (ps_expr (pe_bm PySem.F.plainAttrs_list PySem.F.slot_list_append PySem.F.type_list_append mt_append (pv 1) (pa_cons (pe_call G2 hr rfl D2.m D2.F.kp D2.b .nil pass0 (pa_cons (pv 0) (pa_cons (pe_op o_add pe_int (pe_op o_mul pe_int (pv 2))) pa_nil))) pa_nil))))
        (pss_one (ps_if (PW.pt (pw_and (pt_cmpR op_lt (pv 5) pe_int (nomark _)) (pw_and (pt_cmpR op_gt (pe_callB call_len_seq rfl X.len PySem.boot_len (pa_cons (pv 1) pa_nil)) pe_int (nomark _)) (pw_and1 (pt_cmpR op_lt (pe_op o_mod (pv 3) pe_int) pe_int (nomark _))))))
          (pss_cons (ps_set (i := 6) nd rfl (Or.inl rfl) (pe_bm0 PySem.F.plainAttrs_list PySem.F.slot_list_pop PySem.F.type_list_pop mt_pop (pv 1)))
          (pss_one (ps_expr (pe_bm PySem.F.plainAttrs_list PySem.F.slot_list_append PySem.F.type_list_append mt_append (pv 1) (pa_cons (pe_call G4 h1 rfl D4.m D4.F.kp D4.b .nil pass0 (pa_cons (pe_bm0 PySem.F.plainAttrs_list PySem.F.slot_list_pop PySem.F.type_list_pop mt_pop (pv 1)) (pa_cons (pv 6) (pa_cons (pe_op o_div (pv 3) pe_int) pa_nil)))) pa_nil)))))
          (pss_one (ps_if (PW.pt (pw_and (pt_cmpR op_lt (pv 5) pe_int (nomark _)) (pw_and1 (pt_cmpR op_lt (pv 4) pe_int (nomark _)))))
            (pss_one (ps_expr (pe_bm PySem.F.plainAttrs_list PySem.F.slot_list_append PySem.F.type_list_append mt_append (pv 1) (pa_cons (pe_call G3 h3 rfl D3.m D3.F.kp D3.b .nil pass0 (pa_cons (pv 0) (pa_cons (pe_bm0 PySem.F.plainAttrs_list PySem.F.slot_list_pop PySem.F.type_list_pop mt_pop (pv 1)) (pa_cons (pe_op o_div (pv 3) pe_int) pa_nil)))) pa_nil))))
            pss_nil))))))))))
    (pss_one (ps_ret (pv 1)))), ?_⟩
  have hS2 := hS
  obtain ⟨hl930, hm63, af, ag, ms, q1, q2, q3, q4⟩ := hS2
  refine ⟨_, rfl, a, ds, m, 0, fun _ => False, rfl, hS, by omega, fun _ z => z.elim, fun s0 b0 H1 ok0 pl0 s1 i0 => ⟨by show 1 ≤ sizeLine; decide, fun L hL => ?_⟩⟩
  dsimp only [gName]
  have hLn : H L = none := s1.free hL
  have d0 := plain_depth pl0
  have t0 := plain_len ok0 pl0
  have I0 : Its K L (NS ds) (RS ds) H (upd H1 L (.lst [.ref b0])) [(b0, s0)] := by
    refine ⟨upd_same, fun p hp => ?_, fun p hp => ?_, s1.trans (Same.new hL)⟩
    · rw [List.mem_singleton.mp hp]
      show It _ _ _ _ _ b0 s0 s0.depth
      rw [d0]
      exact (i0.set fun x e => by rw [e]; exact hL).keep (Same.new hL)
    · rw [List.mem_singleton.mp hp]
      exact ok0
  have B0 : Bnd [(b0, s0)] := by
    refine ⟨by simp, ?_, fun p hp => ?_⟩
    · show s0.text.length + 7 + 0 ≤ 992
      omega
    · rw [List.mem_singleton.mp hp]
      show s0.depth + 1 ≤ 20
      omega
  generalize upd H1 L (.lst [.ref b0]) = H2 at I0 ⊢
  obtain ⟨nn, hnn, enn⟩ : ∃ nn : Nat, nn ≤ 40 ∧ (if (40 : Int) < (((ms.map V.int).length : Nat) : Int) then (40 : Int) else (((ms.map V.int).length : Nat) : Int)) = (nn : Int) := by
    split
    · exact ⟨40, by decide, rfl⟩
    · exact ⟨(ms.map V.int).length, by omega, rfl⟩
  refine ⟨_, rfl, a, _, _, _, rfl, rfl, I0.sm.seq q1, atI_nat (j := 1) rfl, ag, _, rfl, .inl (I0.sm.seq q3), _, _, rfl, (nn : Int), ?_, by omega, by omega, ?_⟩
  · exact congrArg (fun x => [V.int x]) enn
  rw [Int.toNat_natCast]
  refine for_range (lo := 0) (n := nn) (fun i σ' H' => ∃ (l : List (Addr × Stm)) (x2 x3 x4 x5 x6 : Option V), σ' = [some (.ref a), some (.ref L), x2, x3, x4, x5, x6, none] ∧ Its K L (NS ds) (RS ds) H H' l ∧ Bnd l)
    ⟨_, _, _, _, _, _, rfl, I0, B0⟩ ?_ ?_
  · rintro i σ' H3 hi ⟨l, x2, x3, x4, x5, x6, rfl, I, B⟩
    rw [Int.zero_add]
    dsimp only [gName]
    refine ⟨_, rfl, _, rfl, _, _, rfl, rfl, a, ds, m, 50 + i, ?_, hS.keep I.sm, by omega, ?_⟩
    · rw [show ((50 + i : Nat) : Int) = 50 + (i : Int) by omega]
      rfl
    dsimp only [gName]
    generalize ds.getD (50 + i) 0 = n
    refine slots (σ' := [some (.ref a), some (.ref L), some (.int (i : Int)), some (.int n), x4, x5, x6, none]) rfl ?_
    -- the size
    refine ⟨_, rfl, L, rfl, ⟨_, SqL.of I.el⟩, fun D1 hD1 => lc_list (K := K) (a := L) (xs := l.map fun p => V.ref p.1) (fun j H' => H' D1 = some (.lst (((l.take j).map fun p => ((p.2.text.length : Nat) : Int) + 7).map V.int)) ∧ Same H3 H')
      ⟨upd_same, Same.new hD1⟩ (fun j H' _ ⟨_, s⟩ => SqL.of (s _ _ I.el)) ?_ ?_⟩
    · rintro j x H4 hx ⟨el, s4⟩
      obtain ⟨hj, ej⟩ := List.getElem?_eq_some_iff.mp hx
      rw [List.length_map] at hj
      rw [List.getElem_map] at ej
      subst ej
      have hmem := List.getElem_mem hj
      obtain ⟨v, nl, rl, e1⟩ := (I.it _ hmem).txt
      have e4 := s4 _ _ e1
      have ht := tot_mem hmem
      have hb := B.tot
      have ll := B.deep _ hmem
      refine ⟨rfl, yes_in ⟨_, rfl, _, _, _, _, rfl, rfl, SqL.of e4, atI_nat (j := 1) rfl, _, rfl, sz (by rw [len_mkS]; omega), _, _, rfl, rfl, _, el, small1000 (by rw [List.length_map, List.length_map, List.length_take]; omega), ?_, s4.mut hD1⟩⟩
      rw [upd_same, take_more _ hj, List.map_append, len_mkS]
      rfl
    rintro H4 ⟨el4, s4⟩
    rw [List.length_map, List.take_length] at el4
    refine ⟨D1, _, rfl, SqL.of el4, ?_⟩
    rw [tot_sum]
    have I4 := I.grow s4
    clear el4
    dsimp only [gName]
    refine slots (σ' := [some (.ref a), some (.ref L), some (.int (i : Int)), some (.int n), some (.int ((tot l : Nat) : Int)), x5, x6, none]) rfl ?_
    -- the depth
    refine ⟨_, rfl, L, rfl, ⟨_, SqL.of I4.el⟩, fun D2 hD2 => lc_list (K := K) (a := L) (xs := l.map fun p => V.ref p.1) (fun j H' => H' D2 = some (.lst (((l.take j).map fun p => ((p.2.depth : Nat) : Int)).map V.int)) ∧ Same H4 H')
      ⟨upd_same, Same.new hD2⟩ (fun j H' _ ⟨_, s⟩ => SqL.of (s _ _ I4.el)) ?_ ?_⟩
    · rintro j x H5 hx ⟨el, s5⟩
      obtain ⟨hj, ej⟩ := List.getElem?_eq_some_iff.mp hx
      rw [List.length_map] at hj
      rw [List.getElem_map] at ej
      subst ej
      have hmem := List.getElem_mem hj
      obtain ⟨v, nl, rl, e1⟩ := (I4.it _ hmem).txt
      have e4 := s5 _ _ e1
      have ll := B.deep _ hmem
      refine ⟨rfl, yes_in ⟨_, rfl, _, _, _, _, rfl, rfl, SqL.of e4, atI_nat (j := 2) rfl, _, el, small1000 (by rw [List.length_map, List.length_map, List.length_take]; omega), ?_, s5.mut hD2⟩⟩
      rw [upd_same, take_more _ hj, List.map_append]
      rfl
    rintro H5 ⟨el5, s5⟩
    rw [List.length_map, List.take_length] at el5
    have hpos : 0 < l.length := List.length_pos_iff.mpr B.ne
    have I5 := I4.grow s5
    refine ⟨D2, _, rfl, SqL.of el5, by rw [List.length_map]; exact hpos, fun mx hmem hmax => ⟨_, rfl, L, _, rfl, .inl (SqL.of I5.el), _, _, rfl, rfl, ?_⟩⟩
    obtain ⟨pm, hpm, em⟩ := List.mem_map.mp hmem
    have hM : ∀ p ∈ l, p.2.depth ≤ pm.2.depth := fun p hp => by
      have := hmax _ (List.mem_map.mpr ⟨p, hp, rfl⟩)
      rw [← em] at this
      omega
    subst em
    have hMl := B.deep _ hpm
    generalize pm.2.depth = M at hM hMl
    clear hmem hmax el5
    rw [List.length_map]
    dsimp only [gName]
    refine slots (σ' := [some (.ref a), some (.ref L), some (.int (i : Int)), some (.int n), some (.int ((tot l : Nat) : Int)), some (.int ((M : Int) + (l.length : Int))), x6, none]) rfl ?_
    have bt := B.tot
    have bd := B.deep
    have hpush : l.length < sizeLine := small1000 (by omega)
    by_cases c1 : (decide ((M : Int) + (l.length : Int) < 20) && (decide (((tot l : Nat) : Int) < 780) && decide (n % 8 < 2))) = true
    · refine st_yes (ans_is (and_b (fun Q q => ⟨_, rfl, _, _, rfl, rfl, _, rfl, q⟩) (and_b (fun Q q => ⟨_, rfl, _, _, rfl, rfl, _, rfl, q⟩) (fun Q q => ⟨_, rfl, _, _, rfl, rfl, by decide, _, _, rfl, rfl, _, rfl, q⟩))) c1) ?_
      simp only [Bool.and_eq_true, decide_eq_true_eq] at c1
      refine ⟨_, rfl, .inl ⟨rfl, _, SqL.of I5.el⟩, _, rfl, _, rfl, _, _, rfl, rfl, ⟨by decide, by decide⟩, _, _, rfl, rfl, a, ds, m, 100 + 19 * i, (· = L), ?_, hS.keep I5.sm, by omega, I5.hid, fun s b H6 ok pl sm it => ?_⟩
      · rw [show ((100 + 19 * i : Nat) : Int) = 100 + 19 * (i : Int) by omega]
        rfl
      have I6 := I5.grow sm
      have dp := plain_depth pl
      have tp := plain_len ok pl
      refine ⟨L, _, _, rfl, rfl, I6.el, by rw [List.length_map]; exact hpush, ?_⟩
      refine ⟨l ++ [(b, s)], _, _, _, _, _, rfl, I6.push hLn (by rw [dp]; exact it) ok, ?_, ?_, fun p hp => ?_⟩
      · simp
      · rw [tot_app, tot_one]
        show tot l + (s.text.length + 7) ≤ 992
        omega
      · rw [List.length_append]
        show _ + (l.length + 1) ≤ 20
        rcases List.mem_append.mp hp with z | z
        · have := hM p z
          omega
        · rw [List.mem_singleton.mp z]
          show s.depth + _ ≤ 20
          omega
    rw [Bool.not_eq_true] at c1
    refine st_no (ans_is (and_b (fun Q q => ⟨_, rfl, _, _, rfl, rfl, _, rfl, q⟩) (and_b (fun Q q => ⟨_, rfl, _, _, rfl, rfl, _, rfl, q⟩) (fun Q q => ⟨_, rfl, _, _, rfl, rfl, by decide, _, _, rfl, rfl, _, rfl, q⟩))) c1) ?_
    clear c1
    by_cases c2 : (decide ((M : Int) + (l.length : Int) < 20) && (decide ((1 : Int) < (((l.map fun p => V.ref p.1).length : Nat) : Int)) && decide (n % 8 < 5))) = true
    · refine st_yes (ans_is (and_b (fun Q q => ⟨_, rfl, _, _, rfl, rfl, _, rfl, q⟩) (and_b (fun Q q => ⟨_, rfl, L, _, rfl, .inl (SqL.of I5.el), _, _, rfl, rfl, _, rfl, q⟩) (fun Q q => ⟨_, rfl, _, _, rfl, rfl, by decide, _, _, rfl, rfl, _, rfl, q⟩))) c2) ?_
      simp only [Bool.and_eq_true, decide_eq_true_eq, List.length_map] at c2
      obtain ⟨l1, p2, rfl⟩ := last_split B.ne
      obtain ⟨l0, p1, rfl⟩ : ∃ l0 p1, l1 = l0 ++ [p1] := last_split (fun e => by
        rw [e] at c2
        have : (1 : Int) < ((([] ++ [p2] : List (Addr × Stm)).length : Nat) : Int) := c2.2.1
        exact absurd this (by simp))
      refine ⟨_, rfl, .inl ⟨rfl, _, SqL.of I5.el⟩, L, _, _, rfl, rfl, I5.el, last_at, ?_⟩
      rw [last_off]
      obtain ⟨I6, i2, ok2⟩ := I5.pop hLn
      generalize upd H5 L (.lst ((l0 ++ [p1]).map fun p => V.ref p.1)) = H6 at I6 i2 ⊢
      dsimp only [gName]
      refine ⟨_, rfl, .inl ⟨rfl, _, SqL.of I6.el⟩, _, rfl, .inl ⟨rfl, _, SqL.of I6.el⟩, L, _, _, rfl, rfl, I6.el, last_at, ?_⟩
      rw [last_off]
      have i2' := i2.upd (o := .lst (l0.map fun p => V.ref p.1)) I6.el rfl
      obtain ⟨I7, i1, ok1⟩ := I6.pop hLn
      generalize upd H6 L (.lst (l0.map fun p => V.ref p.1)) = H7 at I7 i1 i2' ⊢
      rw [tot_app, tot_app, tot_one, tot_one] at bt
      have m1 := hM p1 (by simp)
      have m2 := hM p2 (by simp)
      simp only [List.length_append, List.length_singleton] at c2 hMl hpush
      refine ⟨_, rfl, _, rfl, _, _, rfl, rfl, ⟨by decide, by decide⟩, p1.1, p2.1, _, (· = L), NS ds, RS ds, p1.2, p2.2, _, _, rfl, I7.hid, show 4 ≤ 4 by decide, show 3 ≤ 4 by decide, i1, i2', ok1, ok2, by omega, fun t c H8 okt dt lt sm it => ?_⟩
      have I8 := I7.grow sm
      refine ⟨L, _, _, rfl, rfl, I8.el, by rw [List.length_map]; omega, ?_⟩
      refine ⟨l0 ++ [(c, t)], _, _, _, _, _, rfl, I8.push hLn (by rw [dt]; exact it) okt, ?_, ?_, fun p hp => ?_⟩
      · simp
      · rw [tot_app, tot_one]
        show tot l0 + (t.text.length + 7) ≤ 992
        omega
      · rw [List.length_append]
        show _ + (l0.length + 1) ≤ 20
        rcases List.mem_append.mp hp with z | z
        · have := hM p (by simp [z])
          omega
        · rw [List.mem_singleton.mp z]
          show t.depth + _ ≤ 20
          omega
    rw [Bool.not_eq_true] at c2
    refine st_no (ans_is (and_b (fun Q q => ⟨_, rfl, _, _, rfl, rfl, _, rfl, q⟩) (and_b (fun Q q => ⟨_, rfl, L, _, rfl, .inl (SqL.of I5.el), _, _, rfl, rfl, _, rfl, q⟩) (fun Q q => ⟨_, rfl, _, _, rfl, rfl, by decide, _, _, rfl, rfl, _, rfl, q⟩))) c2) ?_
    clear c2
    by_cases c3 : (decide ((M : Int) + (l.length : Int) < 20) && decide (((tot l : Nat) : Int) < 980)) = true
    · refine st_yes (ans_is (and_b (fun Q q => ⟨_, rfl, _, _, rfl, rfl, _, rfl, q⟩) (fun Q q => ⟨_, rfl, _, _, rfl, rfl, _, rfl, q⟩)) c3) ?_
      simp only [Bool.and_eq_true, decide_eq_true_eq] at c3
      obtain ⟨l0, p1, rfl⟩ := last_split B.ne
      refine ⟨_, rfl, .inl ⟨rfl, _, SqL.of I5.el⟩, _, rfl, _, rfl, .inl ⟨rfl, _, SqL.of I5.el⟩, L, _, _, rfl, rfl, I5.el, last_at, ?_⟩
      rw [last_off]
      obtain ⟨I6, i1, ok1⟩ := I5.pop hLn
      generalize upd H5 L (.lst (l0.map fun p => V.ref p.1)) = H6 at I6 i1 ⊢
      rw [tot_app, tot_one] at bt c3
      have m1 := hM p1 (by simp)
      simp only [List.length_append, List.length_singleton] at c3 hMl hpush
      refine ⟨_, rfl, _, _, rfl, rfl, ⟨by decide, by decide⟩, a, p1.1, ds, m, _, (· = L), p1.2, _, rfl, hS.keep I6.sm, I6.hid, i1, ok1, by omega, fun t c H7 okt dt lt sm it => ?_⟩
      have I7 := I6.grow sm
      refine ⟨L, _, _, rfl, rfl, I7.el, by rw [List.length_map]; omega, ?_⟩
      refine ⟨l0 ++ [(c, t)], _, _, _, _, _, rfl, I7.push hLn (by rw [dt]; exact it) okt, ?_, ?_, fun p hp => ?_⟩
      · simp
      · rw [tot_app, tot_one]
        show tot l0 + (t.text.length + 7) ≤ 992
        omega
      · rw [List.length_append]
        show _ + (l0.length + 1) ≤ 20
        rcases List.mem_append.mp hp with z | z
        · have := hM p (by simp [z])
          omega
        · rw [List.mem_singleton.mp z]
          show t.depth + _ ≤ 20
          omega
    rw [Bool.not_eq_true] at c3
    refine st_no (ans_is (and_b (fun Q q => ⟨_, rfl, _, _, rfl, rfl, _, rfl, q⟩) (fun Q q => ⟨_, rfl, _, _, rfl, rfl, _, rfl, q⟩)) c3) ?_
    exact ⟨l, _, _, _, _, _, rfl, I5, B⟩
  · rintro σ' H3 ⟨l, x2, x3, x4, x5, x6, rfl, I, B⟩
    exact ⟨_, rfl, q L l H3 hLn I B⟩
theorem scBuilt : FnScope ["_law_spread_here", "_law_items_here", "_law_other", "_law_statement", "_law_line", "_law_deep", "_law_names", "_law_rows"] ["_law_spread_here"] (defScope sBuilt) := ⟨rfl, rfl, rfl, by decide +kernel, rfl, by decide +kernel, by decide +kernel⟩
def spBuilt (K : PySem.W.Frag) : Sp := fun vs H Q _ => ∃ (a : Addr) (ds : List Int) (m : Nat), vs = [.ref a] ∧ Spread K H a ds m ∧
  ∀ (b : Addr) (s : Stm) (v x3 x4 x5 : V) (H' : Hp), Same H H' → s.Ok → s.depth ≤ 20 → s.text.length ≤ 1000 → Rep K H' v s.dat → H' b = some (.lst [v, .str (mkS s.text), x3, x4, x5]) → Q (.ref b) H'
theorem ok_built (D : Def K mg "_law_built" sBuilt ["_law_spread_here"] f fd) (X : Tx K mg) (D1 : Def K mg "_law_draw" sDraw ["_law_spread_here", "_law_k"] f1 d1) (G1 : FnOk P w K mg base CX0 1 f1 d1 ["_law_spread_here", "_law_k"] (spDraw K))
    (D2 : Def K mg "_law_items" sItems ["_law_spread_here"] f2 d2) (G2 : FnOk P w K mg base CX0 5 f2 d2 ["_law_spread_here"] (spItems K))
    (D4 : Def K mg "_law_two" sTwoL ["_law_one", "_law_other", "_law_number"] f4 d4) (G4 : FnOk P w K mg base CX0 1 f4 d4 ["_law_one", "_law_other", "_law_number"] (spTwoL K)) :
    FnOk P w K mg base CX0 6 f fd ["_law_spread_here"] (spBuilt K) := by
  refine D.F.ok scBuilt (fun vs H Q E h => ?_) (fun cdv A outer s H vs Q E hr h => ?_)
  · obtain ⟨a, ds, m, rfl, _⟩ := h
    rfl
  obtain ⟨a, ds, m, rfl, hS, q⟩ := h
  have nd := scBuilt.nd
  have h1 : Room 1 _ := hr.mono (by decide)
  refine ⟨_, pss_cons (ps_set (i := 1) nd rfl (Or.inl rfl) (pe_call G2 hr rfl D2.m D2.F.kp D2.b .nil pass0 (pa_cons (pv 0) pa_nil)))
    (pss_cons (ps_while PassesOwn.never (pt_cmpR op_gt (pe_callB call_len_seq rfl X.len PySem.boot_len (pa_cons (pv 1) pa_nil)) pe_int (nomark _))
      (pss_cons (ps_set (i := 2) nd rfl (Or.inl rfl) (pe_bm0 PySem.F.plainAttrs_list PySem.F.slot_list_pop PySem.F.type_list_pop mt_pop (pv 1)))
      (pss_one (ps_expr (pe_bm PySem.F.plainAttrs_list PySem.F.slot_list_append PySem.F.type_list_append mt_append (pv 1) (pa_cons (pe_call G4 h1 rfl D4.m D4.F.kp D4.b .nil pass0 (pa_cons (pe_bm0 PySem.F.plainAttrs_list PySem.F.slot_list_pop PySem.F.type_list_pop mt_pop (pv 1)) (pa_cons (pv 2) (pa_cons (pe_callB call_len_seq rfl X.len PySem.boot_len (pa_cons (pv 1) pa_nil)) pa_nil)))) pa_nil))))))
    (pss_cons (ps_asg (pe_ix ix_list (pv 1) pe_int (fun _ _ => rfl)) (pg_unl rfl (pgs_cons (pg_name (i := 3) nd rfl (Or.inl rfl)) (pgs_cons (pg_name (i := 4) nd rfl (Or.inl rfl)) (pgs_cons (pg_name (i := 5) nd rfl (Or.inl rfl)) (pgs_cons (pg_name (i := 6) nd rfl (Or.inl rfl)) (pgs_cons (pg_name (i := 7) nd rfl (Or.inl rfl)) pgs_nil)))))))
    (Evl.pss_cut (ps_if (pt_cmpR op_eq (pe_op o_mod (pe_call G1 h1 rfl D1.m D1.F.kp D1.b .nil pass0 (pa_cons (pv 0) (pa_cons pe_int pa_nil))) pe_int) pe_int (nomark _))
      (pss_one (ps_while PassesOwn.never (PW.pt (pw_and (pt_cmpR op_lt (pv 5) pe_int (nomark _)) (pw_and1 (pt_cmpR op_lt (pe_callB call_len_str rfl X.len PySem.boot_len (pa_cons (pv 4) pa_nil)) pe_int (nomark _)))))
        (pss_cons (ps_set (i := 3) nd rfl (Or.inl rfl) (pe_tup (pa_cons pe_str (pa_cons (pv 3) pa_nil))))
        (pss_cons (ps_set (i := 4) nd rfl (Or.inl rfl) (pe_op op_add_str pe_str (pv 4)))
        (pss_one (ps_set (i := 5) nd rfl (Or.inl rfl) (pe_op o_add (pv 5) pe_int))))))) pss_nil)
    (pss_one (ps_ret (pe_lst (pa_cons (pv 3) (pa_cons (pv 4) (pa_cons (pv 5) (pa_cons (pv 6) (pa_cons (pv 7) pa_nil))))))))))), ?_⟩
  refine ⟨_, rfl, a, ds, m, rfl, hS, fun L l H1 hL I B => ?_⟩
  dsimp only [gName]
  refine slots (σ' := [some (.ref a), some (.ref L), none, none, none, none, none, none]) rfl ?_
  refine ⟨fun k σ' H' => ∃ (l : List (Addr × Stm)) (x2 : Option V), k = l.length ∧ σ' = [some (.ref a), some (.ref L), x2, none, none, none, none, none] ∧ Its K L (NS ds) (RS ds) H H' l ∧ Bnd l, ⟨_, l, none, rfl, rfl, I, B⟩, ?_⟩
  clear I B
  rintro k σ' H2 ⟨l, x2, rfl, rfl, I, B⟩
  have bt := B.tot
  by_cases c : 1 < l.length
  · refine useT (fun Q q => ⟨_, rfl, L, _, rfl, .inl (SqL.of I.el), _, _, rfl, rfl, _, rfl, dT (by rw [List.length_map]; omega) q⟩) ?_
    refine ⟨fun σ' H' => ∃ (l' : List (Addr × Stm)) (x2 : Option V), l'.length < l.length ∧ σ' = [some (.ref a), some (.ref L), x2, none, none, none, none, none] ∧ Its K L (NS ds) (RS ds) H H' l' ∧ Bnd l', fun σ' H' ⟨l', x2, z, h⟩ => ⟨_, z, l', x2, rfl, h⟩, ?_⟩
    obtain ⟨l1, p2, rfl⟩ := last_split B.ne
    obtain ⟨l0, p1, rfl⟩ : ∃ l0 p1, l1 = l0 ++ [p1] := last_split (fun e => by
      rw [e] at c
      exact absurd c (by simp))
    refine ⟨_, rfl, .inl ⟨rfl, _, SqL.of I.el⟩, L, _, _, rfl, rfl, I.el, last_at, ?_⟩
    rw [last_off]
    obtain ⟨I6, i2, ok2⟩ := I.pop hL
    generalize upd H2 L (.lst ((l0 ++ [p1]).map fun p => V.ref p.1)) = H6 at I6 i2 ⊢
    dsimp only [gName]
    refine ⟨_, rfl, .inl ⟨rfl, _, SqL.of I6.el⟩, _, rfl, .inl ⟨rfl, _, SqL.of I6.el⟩, L, _, _, rfl, rfl, I6.el, last_at, ?_⟩
    rw [last_off]
    have i2' := i2.upd (o := .lst (l0.map fun p => V.ref p.1)) I6.el rfl
    obtain ⟨I7, i1, ok1⟩ := I6.pop hL
    generalize upd H6 L (.lst (l0.map fun p => V.ref p.1)) = H7 at I7 i1 i2' ⊢
    rw [tot_app, tot_app, tot_one, tot_one] at bt
    have m1 := B.deep p1 (by simp)
    have m2 := B.deep p2 (by simp)
    have m0 : ∀ p ∈ l0, p.2.depth + ((l0 ++ [p1]) ++ [p2]).length ≤ 20 := fun p hp => B.deep p (by simp [hp])
    simp only [List.length_append, List.length_singleton] at m1 m2 m0
    refine ⟨_, rfl, _, rfl, L, _, rfl, .inl (SqL.of I7.el), p1.1, p2.1, _, (· = L), NS ds, RS ds, p1.2, p2.2, _, _, rfl, I7.hid, show 4 ≤ 4 by decide, show 3 ≤ 4 by decide, i1, i2', ok1, ok2, by omega, fun t c H8 okt dt lt sm it => ?_⟩
    have I8 := I7.grow sm
    refine ⟨L, _, _, rfl, rfl, I8.el, small1000 (by rw [List.length_map]; omega), ?_⟩
    refine ⟨l0 ++ [(c, t)], _, ?_, rfl, I8.push hL (by rw [dt]; exact it) okt, ?_, ?_, fun p hp => ?_⟩
    · simp
    · simp
    · rw [tot_app, tot_one]
      show tot l0 + (t.text.length + 7) ≤ 992
      omega
    · rw [List.length_append]
      show _ + (l0.length + 1) ≤ 20
      rcases List.mem_append.mp hp with z | z
      · have := m0 p z
        omega
      · rw [List.mem_singleton.mp z]
        show t.depth + _ ≤ 20
        omega
  refine useF (fun Q q => ⟨_, rfl, L, _, rfl, .inl (SqL.of I.el), _, _, rfl, rfl, _, rfl, dF (by rw [List.length_map]; omega) q⟩) ?_
  obtain ⟨l0, p, rfl⟩ := last_split B.ne
  obtain rfl : l0 = [] := by
    rw [List.length_append] at c
    exact List.length_eq_zero_iff.mp (by have : ¬ (1 < l0.length + 1) := c; omega)
  have ok := I.ok p (List.mem_singleton.mpr rfl)
  have hd : p.2.depth + 1 ≤ 20 := B.deep p (List.mem_singleton.mpr rfl)
  have hlen : p.2.text.length + 7 ≤ 992 := bt
  obtain ⟨v, nl, rl, ns, rs, e1, rv, _⟩ := I.it p (List.mem_singleton.mpr rfl)
  have eL : H2 L = some (.lst [.ref p.1]) := I.el
  have sm := I.sm
  dsimp only
  refine ⟨_, rfl, L, _, _, _, rfl, rfl, SqL.of eL, atI_nat (j := 0) rfl, p.1, _, rfl, SqL.of e1, rfl, _, _, rfl, _, _, rfl, _, _, rfl, _, _, rfl, _, _, rfl, rfl, ?_⟩
  dsimp only
  refine slots (σ' := [some (.ref a), some (.ref L), x2, some v, some (.str (mkS p.2.text)), some (.int (p.2.depth : Int)), some (.ref nl), some (.ref rl)]) rfl ?_
  generalize p.2 = s0 at ok hd hlen rv
  clear I B eL e1 c bt
  have nS : Str.ofString "not " = mkS [110, 111, 116, 32] := by decide +kernel
  refine ⟨fun σ' H' => ∃ (s : Stm) (v x5 : V), σ' = [some (.ref a), some (.ref L), x2, some v, some (.str (mkS s.text)), some x5, some (.ref nl), some (.ref rl)] ∧ Rep K H' v s.dat ∧ s.Ok ∧ s.depth ≤ 20 ∧ s.text.length ≤ 1000 ∧ Same H H', ?_, ?_⟩
  · have hl930 := hS.1
    by_cases hc : ds.getD 99 0 % 4 = 0
    · refine st_yes (fun Q q => ⟨_, rfl, a, ds, m, 99, rfl, hS.keep sm, by omega, _, _, rfl, rfl, by decide, rfl, _, rfl, bE (decide_eq_true (by rw [hc])) q⟩) ?_
      refine ⟨fun k σ' H' => ∃ (s : Stm) (v : V), k = 20 - s.depth ∧ σ' = [some (.ref a), some (.ref L), x2, some v, some (.str (mkS s.text)), some (.int (s.depth : Int)), some (.ref nl), some (.ref rl)] ∧ Rep K H' v s.dat ∧ s.Ok ∧ s.depth ≤ 20 ∧ s.text.length ≤ 1000 ∧ Same H H',
        ⟨_, s0, v, rfl, rfl, rv, ok, by omega, by omega, sm⟩, ?_⟩
      clear rv ok hd hlen sm
      rintro k σ' H3 ⟨s, v, rfl, rfl, rv, ok, hd, hlen, sm⟩
      by_cases cw : (decide ((s.depth : Int) < 20) && decide ((((mkS s.text).length : Nat) : Int) < 997)) = true
      · refine useT (ans_is (and_b (fun Q q => ⟨_, rfl, _, _, rfl, rfl, _, rfl, q⟩) (fun Q q => ⟨_, rfl, _, rfl, sz (by rw [len_mkS]; exact hlen), _, _, rfl, rfl, _, rfl, q⟩)) cw) ?_
        simp only [Bool.and_eq_true, decide_eq_true_eq, len_mkS] at cw
        refine ⟨fun σ' H' => ∃ (s' : Stm) (v : V), 20 - s'.depth < 20 - s.depth ∧ σ' = [some (.ref a), some (.ref L), x2, some v, some (.str (mkS s'.text)), some (.int (s'.depth : Int)), some (.ref nl), some (.ref rl)] ∧ Rep K H' v s'.dat ∧ s'.Ok ∧ s'.depth ≤ 20 ∧ s'.text.length ≤ 1000 ∧ Same H H',
          fun σ' H' ⟨s', v, z, h⟩ => ⟨_, z, s', v, rfl, h⟩, ?_⟩
        refine ⟨_, rfl, two1000, fun t ht => ?_⟩
        dsimp only [gName]
        refine ⟨_, rfl, _, _, rfl, rfl, sz (by rw [nS, len_mkS, len_mkS]; show 4 + _ ≤ 1000; omega), ?_⟩
        dsimp only [gName]
        refine ⟨_, rfl, _, _, rfl, rfl, ?_⟩
        have et : Str.ofString "not " ++ mkS s.text = mkS (Stm.neg s).text := by
          rw [nS, add_kk]
          rfl
        rw [et]
        have lt : (Stm.neg s).text.length = 4 + s.text.length := by
          show ([110, 111, 116, 32] ++ s.text).length = _
          rw [List.length_append]
          rfl
        have dt : (Stm.neg s).depth = s.depth + 1 := rfl
        refine ⟨.neg s, .ref t, by omega, rfl, ?_, ok, by omega, by omega, sm.trans (Same.new ht)⟩
        show Rep K _ _ (.tup [.str (mkS notK), s.dat])
        rw [show mkS notK = Str.ofString "not" by decide +kernel]
        exact .new upd_same (.cons (.str _) (.cons (rv.keep (Same.new ht).tups) .nil))
      · rw [Bool.not_eq_true] at cw
        refine useF (ans_is (and_b (fun Q q => ⟨_, rfl, _, _, rfl, rfl, _, rfl, q⟩) (fun Q q => ⟨_, rfl, _, rfl, sz (by rw [len_mkS]; exact hlen), _, _, rfl, rfl, _, rfl, q⟩)) cw) ?_
        exact ⟨s, v, _, rfl, rv, ok, hd, hlen, sm⟩
    · refine st_no (fun Q q => ⟨_, rfl, a, ds, m, 99, rfl, hS.keep sm, by omega, _, _, rfl, rfl, by decide, rfl, _, rfl, bE (int_no hc) q⟩) ?_
      exact ⟨s0, v, _, rfl, rv, ok, by omega, by omega, sm⟩
  · rintro σ' H3 ⟨s, v, x5, rfl, rv, ok, hd, hlen, sm⟩
    exact ⟨_, rfl, _, rfl, _, rfl, _, rfl, _, rfl, by show 5 ≤ sizeLine; decide, fun b hb => q b s v _ _ _ _ (sm.trans (Same.new hb)) ok hd hlen (rv.keep (Same.new hb).tups) upd_same⟩
end
end K53

/-! The law itself: told, law; all put together. -/
namespace K53
open PySem L2 TL

abbrev sLaw : Stmt := tp 43
def spTold (K : PySem.W.Frag) : Sp := fun vs H Q _ => ∃ (b : Addr) (s : Stm) (v x3 x4 x5 : V), vs = [.ref b] ∧ H b = some (.lst [v, .str (mkS s.text), x3, x4, x5]) ∧ Rep K H v s.dat ∧ s.Ok ∧ s.depth ≤ 20 ∧ s.text.length ≤ 1000 ∧ ∀ H', Same H H' → Q (.bl true) H'
theorem hand_len : (hand.all fun p => decide ((Str.ofString p.1).length ≤ 1000)) = true := by decide +kernel
theorem stm_lev24 {s : Stm} (h : s.depth ≤ 20) : Lev 24 s.dat := (stm_lev s).le (by omega)
section
variable {P : Program} {w : World} {K : PySem.W.Frag} {mg : Str → Option Value} {base : Heap} {f f1 f2 f3 f4 f5 f6 f7 : Addr} {fd d1 d2 d3 d4 d5 d6 d7 : FuncData}
theorem scTold : FnScope ["_law_item", "_law_found"] ["_law_item"] (defScope sTold) := ⟨rfl, rfl, rfl, by decide +kernel, rfl, by decide +kernel, by decide +kernel⟩
theorem ok_told (D : Def K mg "_law_told" sTold ["_law_item"] f fd) (D1 : Def K mg "read" sRead ["text"] f1 d1) (G1 : FnOk P w K mg base CX0 50 f1 d1 ["text"] (spRead K))
    (D2 : Def K mg "_law_same" sSame ["_law_found", "_law_due"] f2 d2) (G2 : FnOk P w K mg base CX0 24 f2 d2 ["_law_found", "_law_due"] (spSame K 24))
    (D3 : Def K mg "shown" sShown ["statement"] f3 d3) (G3 : FnOk P w K mg base CX0 (21 + 2) f3 d3 ["statement"] (spShown K 21)) : FnOk P w K mg base CX0 51 f fd ["_law_item"] (spTold K) := by
  refine D.F.ok scTold (fun vs H Q E h => ?_) (fun cdv A outer s H vs Q E hr h => ?_)
  · obtain ⟨b, s, v, x3, x4, x5, rfl, _⟩ := h
    rfl
  obtain ⟨b, s, v, x3, x4, x5, rfl, e, rv, ok, hd, hl, q⟩ := h
  have nd := scTold.nd
  have h24 : Room 24 _ := hr.mono (by decide)
  have h23 : Room (21 + 2) _ := hr.mono (by decide)
  refine ⟨_, pss_cons (ps_set (i := 1) nd rfl (Or.inl rfl) (pe_call G1 hr rfl D1.m D1.F.kp D1.b .nil pass0 (pa_cons (pe_ix ix_list (pv 0) pe_int (fun _ _ => rfl)) pa_nil)))
    (pss_one (ps_ret (pe_and (pe_call G2 h24 rfl D2.m D2.F.kp D2.b .nil pass0 (pa_cons (pv 1) (pa_cons (pe_ix ix_list (pv 0) pe_int (fun _ _ => rfl)) pa_nil)))
      (pe_one (pe_cmpR op_eq (pe_call G3 h23 rfl D3.m D3.F.kp D3.b .nil pass0 (pa_cons (pv 1) pa_nil)) (pe_ix ix_list (pv 0) pe_int (fun _ _ => rfl)) (nomark _)))))), ?_⟩
  refine ⟨_, rfl, b, _, _, _, rfl, rfl, SqL.of e, atI_nat (j := 1) rfl, mkS s.text, s, rfl, rfl, ok, hd, by rw [len_mkS]; exact hl, fun x H1 s1 rx => ?_⟩
  dsimp only [gName]
  refine ⟨_, rfl, _, rfl, b, _, _, _, rfl, rfl, SqL.of (s1 _ _ e), atI_nat (j := 0) rfl, x, v, s.dat, rfl, rx, rv.keep s1.tups, stm_lev24 hd, fun H2 s2 => ⟨true, rfl, ifT rfl ?_⟩⟩
  refine ⟨_, rfl, x, s, rfl, rx.keep s2.tups, ok, by omega, hl, fun H3 s3 => ?_⟩
  refine ⟨_, rfl, b, _, _, _, rfl, rfl, SqL.of (s3 _ _ (s2 _ _ (s1 _ _ e))), atI_nat (j := 1) rfl, rfl, ?_⟩
  rw [str_yes rfl]
  exact q H3 (s1.trans (s2.trans s3))
theorem scLaw : FnScope ["_law_script", "_law_spread_here", "_law_item", "_law_line", "_law_statement"] ["_law_script"] (defScope sLaw) := ⟨rfl, rfl, rfl, by decide +kernel, rfl, by decide +kernel, by decide +kernel⟩
theorem ok_law (F : Fun K "law" "law" sLaw f fd) (D1 : Def K mg "read" sRead ["text"] f1 d1) (G1 : FnOk P w K mg base CX0 50 f1 d1 ["text"] (spRead K))
    (D2 : Def K mg "_law_same" sSame ["_law_found", "_law_due"] f2 d2) (G2 : FnOk P w K mg base CX0 24 f2 d2 ["_law_found", "_law_due"] (spSame K 24))
    (D3 : Def K mg "_law_told" sTold ["_law_item"] f3 d3) (G3 : FnOk P w K mg base CX0 51 f3 d3 ["_law_item"] (spTold K))
    (D4 : Def K mg "_law_spread" sSpread ["_law_script"] f4 d4) (G4 : FnOk P w K mg base CX0 2 f4 d4 ["_law_script"] (spSpread K))
    (D5 : Def K mg "_law_built" sBuilt ["_law_spread_here"] f5 d5) (G5 : FnOk P w K mg base CX0 6 f5 d5 ["_law_spread_here"] (spBuilt K))
    (D6 : Def K mg "_law_plain" sPlainL ["_law_spread_here", "_law_at"] f6 d6) (G6 : FnOk P w K mg base CX0 4 f6 d6 ["_law_spread_here", "_law_at"] (spPlainL K))
    (D7 : Def K mg "_law_by_hand" sHand [] f7 d7) (G7 : FnOk P w K mg base CX0 1 f7 d7 [] (spHand K)) : FnOk P w K mg base CX0 60 f fd ["_law_script"] (spLaw K) := by
  refine F.ok scLaw (fun vs H Q E h => ?_) (fun cdv A outer s H vs Q E hr h => ?_)
  · obtain ⟨a, ns, rfl, _⟩ := h
    rfl
  obtain ⟨a, ns, rfl, hS, h63, q⟩ := h
  have nd := scLaw.nd
  have r51 : Room 51 _ := hr.mono (by decide)
  have r50 : Room 50 _ := hr.mono (by decide)
  have r24 : Room 24 _ := hr.mono (by decide)
  have r6 : Room 6 _ := hr.mono (by decide)
  have r4 : Room 4 _ := hr.mono (by decide)
  have r2 : Room 2 _ := hr.mono (by decide)
  have r1 : Room 1 _ := hr.mono (by decide)
  refine ⟨_, pss_cons (ps_set (i := 1) nd rfl (Or.inl rfl) (pe_call G4 r2 rfl D4.m D4.F.kp D4.b .nil pass0 (pa_cons (pv 0) pa_nil)))
    (pss_cons (ps_set (i := 2) nd rfl (Or.inl rfl) (pe_call G5 r6 rfl D5.m D5.F.kp D5.b .nil pass0 (pa_cons (pv 1) pa_nil)))
    (pss_cons (ps_if (PW.pt (pw_or (pt_not (pt_val (pe_call G3 r51 rfl D3.m D3.F.kp D3.b .nil pass0 (pa_cons (pv 2) pa_nil))))
      (pw_or (pt_not (pt_val (pe_call G3 r51 rfl D3.m D3.F.kp D3.b .nil pass0 (pa_cons (pe_call G6 r4 rfl D6.m D6.F.kp D6.b .nil pass0 (pa_cons (pv 1) (pa_cons pe_int pa_nil))) pa_nil))))
      (pw_or1 (pt_not (pt_val (pe_call G3 r51 rfl D3.m D3.F.kp D3.b .nil pass0 (pa_cons (pv 2) pa_nil)))))))) (pss_one (ps_ret pe_bl)) pss_nil)
    (pss_cons (ps_for PassesOwn.never rfl (pi_list (pe_call0 G7 r1 rfl D7.m D7.F.kp D7.b .nil pass0)) (pg_tup rfl (pgs_cons (pg_name (i := 3) nd rfl (Or.inl rfl)) (pgs_cons (pg_name (i := 4) nd rfl (Or.inl rfl)) pgs_nil)))
      (pss_one (ps_if (pt_not (pt_val (pe_call G2 r24 rfl D2.m D2.F.kp D2.b .nil pass0 (pa_cons (pe_call G1 r50 rfl D1.m D1.F.kp D1.b .nil pass0 (pa_cons (pv 3) pa_nil)) (pa_cons (pv 4) pa_nil))))) (pss_one (ps_ret pe_bl)) pss_nil)))
    (pss_one (ps_ret pe_bl))))), ?_⟩
  refine ⟨_, rfl, a, ns, rfl, hS, h63, fun sp ds m H1 s1 S1 => ?_⟩
  dsimp only [gName]
  refine ⟨_, rfl, sp, ds, m, rfl, S1, fun b st v x3 x4 x5 H2 s2 ok hd hl rv eb => ?_⟩
  dsimp only [gName]
  refine slots (σ' := [some (.ref a), some (.ref sp), some (.ref b), none, none]) rfl ?_
  refine ⟨_, rfl, b, st, v, x3, x4, x5, rfl, eb, rv, ok, hd, hl, fun H3 s3 => ⟨true, rfl, ifF rfl ?_⟩⟩
  refine ⟨_, rfl, sp, ds, m, 0, fun _ => False, rfl, (S1.keep s2).keep s3, by omega, fun _ z => z.elim, fun t c H4 okt plt s4 it => ?_⟩
  have dt := plain_depth plt
  have lt := plain_len okt plt
  obtain ⟨u, nl, rl, us, rs, ec, ru, _⟩ := it
  refine ⟨c, t, u, _, _, _, rfl, ec, ru, okt, by omega, by omega, fun H5 s5 => ⟨true, rfl, ifF rfl ?_⟩⟩
  have s25 : Same H2 H5 := s3.trans (s4.trans s5)
  refine ⟨_, rfl, b, st, v, x3, x4, x5, rfl, s25 _ _ eb, rv.keep s25.tups, ok, hd, hl, fun H6 s6 => ⟨true, rfl, ifF rfl ?_⟩⟩
  dsimp only [tNext]
  refine ⟨rfl, fun l us2 H7 s7 el rr => ⟨l, rfl, ⟨_, SqL.of el⟩, ?_⟩⟩
  refine for_list (K := K) (a := l) (xs := us2) (fun i σ' H' => ∃ x3 x4, σ' = [some (.ref a), some (.ref sp), some (.ref b), x3, x4] ∧ Same H7 H') ⟨_, _, rfl, Same.refl _⟩ (fun i σ' H' _ ⟨_, _, _, s⟩ => SqL.of (s _ _ el)) ?_ ?_
  · rintro i y σ' H8 hy ⟨y3, y4, rfl, s8⟩
    obtain ⟨d, hdd, ry⟩ := rr.get hy
    obtain ⟨p, hp, rfl⟩ : ∃ p, p ∈ hand ∧ handD p = d := List.mem_map.mp (List.mem_of_getElem? hdd)
    have k1 := List.all_eq_true.mp hand_ok p hp
    have k2 := List.all_eq_true.mp hand_len p hp
    simp only [Bool.and_eq_true, decide_eq_true_eq] at k1 k2
    obtain ⟨⟨k1, k3⟩, k4⟩ := k1
    obtain ⟨t, xs, rfl, ht, rx⟩ := dat_tup (ry.keep s8.tups)
    obtain ⟨v1, r1, rfl, w1, rx⟩ := reps1 rx
    obtain ⟨v2, r2, rfl, w2, rx⟩ := reps1 rx
    rw [rep_str w1, reps0 rx] at ht
    refine ⟨t, _, rfl, ht, rfl, _, _, rfl, _, _, rfl, rfl, ?_⟩
    dsimp only
    refine ⟨_, rfl, Str.ofString p.1, p.2, rfl, k4, okStm.is k1, k3, k2, fun x H9 s9 rx9 => ?_⟩
    refine ⟨_, rfl, x, v2, p.2.dat, rfl, rx9, w2.keep s9.tups, stm_lev24 k3, fun H10 s10 => ⟨true, rfl, ifF rfl ?_⟩⟩
    exact ⟨_, _, rfl, s8.trans (s9.trans s10)⟩
  · rintro σ' H8 ⟨y3, y4, rfl, s8⟩
    exact q H8
end
theorem ok_lawAll {P : Program} {w : World} {K : PySem.W.Frag} {mg : Str → Option Value} {base : Heap} {f : Addr} {fd : FuncData} (A : All K mg) (F : Fun K "law" "law" (tp 43) f fd) : FnOk P w K mg base CX0 60 f fd ["_law_script"] (spLaw K) := by
  have X := A.tx
  obtain ⟨a11, c11, D11⟩ := A.d11
  obtain ⟨a12, c12, D12⟩ := A.d12
  obtain ⟨a13, c13, D13⟩ := A.d13
  obtain ⟨a14, c14, D14⟩ := A.d14
  obtain ⟨a15, c15, D15⟩ := A.d15
  obtain ⟨a16, c16, D16⟩ := A.d16
  obtain ⟨a17, c17, D17⟩ := A.d17
  obtain ⟨a18, c18, D18⟩ := A.d18
  obtain ⟨a19, c19, D19⟩ := A.d19
  obtain ⟨a20, c20, D20⟩ := A.d20
  obtain ⟨a21, c21, D21⟩ := A.d21
  obtain ⟨a22, c22, D22⟩ := A.d22
  obtain ⟨a24, c24, D24⟩ := A.d24
  obtain ⟨a25, c25, D25⟩ := A.d25
  obtain ⟨a26, c26, D26⟩ := A.d26
  obtain ⟨a28, c28, D28⟩ := A.d28
  obtain ⟨a29, c29, D29⟩ := A.d29
  obtain ⟨a30, c30, D30⟩ := A.d30
  obtain ⟨a31, c31, D31⟩ := A.d31
  obtain ⟨a32, c32, D32⟩ := A.d32
  obtain ⟨a33, c33, D33⟩ := A.d33
  obtain ⟨a34, c34, D34⟩ := A.d34
  obtain ⟨a35, c35, D35⟩ := A.d35
  obtain ⟨a36, c36, D36⟩ := A.d36
  obtain ⟨a37, c37, D37⟩ := A.d37
  obtain ⟨a38, c38, D38⟩ := A.d38
  obtain ⟨a39, c39, D39⟩ := A.d39
  obtain ⟨a40, c40, D40⟩ := A.d40
  obtain ⟨a41, c41, D41⟩ := A.d41
  obtain ⟨a42, c42, D42⟩ := A.d42
  have G11 : FnOk P w K mg base CX0 1 a11 c11 _ _ := ok_run D11 X
  have G12 : FnOk P w K mg base CX0 1 a12 c12 _ _ := ok_past D12 X
  have G13 : FnOk P w K mg base CX0 2 a13 c13 _ _ := ok_name D13 X D11
  have G14 : FnOk P w K mg base CX0 2 a14 c14 _ _ := ok_num D14 X D11
  have G15 : FnOk P w K mg base CX0 3 a15 c15 _ _ := ok_part D15 X D13 G13 D14 G14
  have G16 : FnOk P w K mg base CX0 4 a16 c16 _ _ := ok_sum D16 X D15 G15
  have G17 : FnOk P w K mg base CX0 5 a17 c17 _ _ := ok_place D17 X D11 G11 D16 G16 D12 G12
  have G18 : FnOk P w K mg base CX0 1 a18 c18 _ _ := ok_isrow D18 X
  have G19 : FnOk P w K mg base CX0 6 a19 c19 _ _ := ok_plain D19 X D18 G18 D17 G17 D12 G12 D14 G14 D16 G16
  have G21 := st_all (P := P) (w := w) (base := base) D21 X D20 D13 G13 D12 G12 D19 G19 21
  have G22 : FnOk P w K mg base CX0 50 a22 c22 _ _ := ok_read D22 X D21 G21
  have G24 : FnOk P w K mg base CX0 1 a24 c24 _ _ := ok_sums D24 X
  have G25 : FnOk P w K mg base CX0 2 a25 c25 _ _ := ok_places D25 X D24 G24
  have G26 := shown_all (P := P) (w := w) (base := base) D26 X D24 G24 D25 G25 21
  have G28 : FnOk P w K mg base CX0 1 a28 c28 _ _ := ok_mixed D28 X
  have G29 : FnOk P w K mg base CX0 2 a29 c29 _ _ := ok_spread D29 X D28 G28
  have G30 : FnOk P w K mg base CX0 1 a30 c30 _ _ := ok_draw D30
  have G31 : FnOk P w K mg base CX0 1 a31 c31 _ _ := ok_word D31
  have G32 : FnOk P w K mg base CX0 2 a32 c32 _ _ := ok_nameL D32 D31 G31 D30 G30
  have G33 : FnOk P w K mg base CX0 2 a33 c33 _ _ := ok_rowL D33 D31 G31 D30 G30
  have G34 : FnOk P w K mg base CX0 3 a34 c34 _ _ := ok_sumL D34 X D30 G30 D32 G32
  have G35 : FnOk P w K mg base CX0 4 a35 c35 _ _ := ok_plainL D35 X D30 G30 D33 G33 D34 G34
  have G36 : FnOk P w K mg base CX0 3 a36 c36 _ _ := ok_wrapped D36 X D32 G32
  have G37 : FnOk P w K mg base CX0 1 a37 c37 _ _ := ok_twoL D37 X
  have G38 : FnOk P w K mg base CX0 5 a38 c38 _ _ := ok_items D38 X D30 G30 D35 G35 D36 G36 D37 G37
  have G39 : FnOk P w K mg base CX0 6 a39 c39 _ _ := ok_built D39 X D30 G30 D38 G38 D37 G37
  have G40 := same_all (P := P) (w := w) (base := base) D40 X 24
  have G41 : FnOk P w K mg base CX0 1 a41 c41 _ _ := ok_hand D41
  have G42 : FnOk P w K mg base CX0 51 a42 c42 _ _ := ok_told D42 D22 G22 D40 G40 D26 G26
  exact ok_law F D22 G22 D40 G40 D42 G42 D29 G29 D39 G39 D35 G35 D41 G41
end K53

/-! The head and the end. -/
namespace K53
open PySem L2
theorem walk {l : PySem.W.OpenLaw} {q : Program} {loose : List Str} {XP : (Str → Option Value) → Heap → Prop} {YP : World → Heap → Prop} {d : DefRec} {K : Params → PySem.W.Frag} (hn : l.most = some 63) (hdf : d.params.defaults = [])
    (hY : ∀ (w : World) (h : Heap), YP w h → (K w.params).In h)
    (F : ∀ (w : World) (mg : Str → Option Value) (fa : Addr) (h : Heap), (K w.params).In h → h.Ns mainGlobals mg → mg d.name = some (.ref fa) →
      ∃ fd : FuncData, (∀ (s : Shared) (u : Value), BindsTo s fd ⟨[u], []⟩ [("_law_script", u)]) ∧ ∀ base : Heap, (K w.params).In base → base.Ns mainGlobals mg → FnOk l.prog w (K w.params) mg base CX0 60 fa fd ["_law_script"] (spLaw (K w.params))) :
    PySem.W.WalkO q loose XP YP l.row.toRowW d [] (fun f vs => PySem.call f vs) :=
  L2.walk_of (n := 63) (k := 60) (x := "_law_script") (CX := fun _ => CX0) (sp := fun w => spLaw (K w.params)) hn (by decide) hdf ⟨rfl, by decide, by decide⟩ hY F (fun _ _ a ns hl _ hS => ⟨a, ns, rfl, hS, hl, fun _ => rfl⟩) fun _ _ _ _ _ z => z
theorem law_mk {l : PySem.W.OpenLaw} {w : World} {K : PySem.W.Frag} {h : Heap} {mg : Str → Option Value} {fa f : Addr} (X : K.In h) (G : h.Ns mainGlobals mg) (hfa : mg "law" = some (.ref fa)) {oc : Value} {od an : Option Addr} {osl : Array (Option Value)} {kV doc pm cdv ct : Value}
    (a : PySem.W.nsIn K mainGlobals "law" = some (some (.ref f))) (l0 : K.lookup f = some ⟨oc, od, .func (PySem.W.fnOf "law" "law" (defArgs (tp 43)) (defBody (tp 43)) (defScope (tp 43)) .none kV doc pm an cdv ct), osl⟩)
    (c : PySem.W.codeIn K cdv "law" = true) (k : PySem.W.keepIn K (.ref f) = true) (A : All K mg) :
    ∃ fd : FuncData, (∀ (s : Shared) (u : Value), BindsTo s fd ⟨[u], []⟩ [("_law_script", u)]) ∧ ∀ base : Heap, K.In base → base.Ns mainGlobals mg → FnOk l.prog w K mg base CX0 60 fa fd ["_law_script"] (spLaw K) := by
  have e := hfa.symm.trans (PySem.W.mg_of X G a)
  cases e
  exact ⟨PySem.W.fnOf "law" "law" (defArgs (tp 43)) (defBody (tp 43)) (defScope (tp 43)) .none kV doc pm an cdv ct, fun s v => .of_eq rfl, fun base _ _ => ok_lawAll A (fun_mk (st := tp 43) l0 c k)⟩
end K53
open PySem PySem.W PyProof.Rows
set_option maxRecDepth 100000 in
set_option maxHeartbeats 0 in
theorem PySem.Challenge.cw_figuretell_k53_whole_read_holds : PySem.Challenge.rw_figuretell_k53_whole_read.Holds := by
  w_on; o_law; k_head; (case hw => w_witness2)
  k_fill
  refine K53.walk (l := PySem.Challenge.rw_figuretell_k53_whole_read) rfl rfl (fun w h Y => PySem.W.kIn_of Y) ?F
  case F =>
    intro w mg fa h KX G hmg
    refine' K53.law_mk KX G hmg ?a0 ?l0 ?c0 ?k0 ?A
    (case a0 => k_is); (case l0 => k_is); (case c0 => k_is); (case k0 => k_is)
    case A =>
      refine' ⟨?tx, ?d11, ?d12, ?d13, ?d14, ?d15, ?d16, ?d17, ?d18, ?d19, ?d20, ?d21, ?d22, ?d24, ?d25, ?d26, ?d28, ?d29, ?d30, ?d31, ?d32, ?d33, ?d34, ?d35, ?d36, ?d37, ?d38, ?d39, ?d40, ?d41, ?d42⟩
      case tx =>
        refine' ⟨?z0, ?z1, ?z2, ?z3, ?z4, ?z5, ?z6, ?z7, ?z8, ?z9, ?z10, ?z11, ?z12, ?z13, ?figs, ?small, ?great, ?longest, ?deepest, ?parts, ?words⟩
        (case z0 => refine' PySem.W.mg_none_of KX G ?_; k_is)
        (case z1 => refine' PySem.W.mg_none_of KX G ?_; k_is)
        (case z2 => refine' PySem.W.mg_none_of KX G ?_; k_is)
        (case z3 => refine' PySem.W.mg_none_of KX G ?_; k_is)
        (case z4 => refine' PySem.W.mg_none_of KX G ?_; k_is)
        (case z5 => refine' PySem.W.mg_none_of KX G ?_; k_is)
        (case z6 => refine' PySem.W.mg_none_of KX G ?_; k_is)
        (case z7 => refine' PySem.W.mg_none_of KX G ?_; k_is)
        (case z8 => refine' PySem.W.mg_none_of KX G ?_; k_is)
        (case z9 => refine' PySem.W.mg_none_of KX G ?_; k_is)
        (case z10 => refine' PySem.W.mg_none_of KX G ?_; k_is)
        (case z11 => refine' PySem.W.mg_none_of KX G ?_; k_is)
        (case z12 => refine' PySem.W.mg_none_of KX G ?_; k_is)
        (case z13 => refine' PySem.W.mg_none_of KX G ?_; k_is)
        (case figs => refine' K53.gs_mk KX G ?e; (case e => k_is))
        (case small => refine' K53.gs_mk KX G ?e; (case e => k_is))
        (case great => refine' K53.gs_mk KX G ?e; (case e => k_is))
        (case longest => refine' K53.gi_mk KX G ?e; (case e => k_is))
        (case deepest => refine' K53.gi_mk KX G ?e; (case e => k_is))
        (case parts => refine' K53.gi_mk KX G ?e; (case e => k_is))
        (case words => refine' K53.words_mk KX G ?e ?l; (case e => k_is); (case l => k_is))
      (case d11 => refine' K53.def_mk KX G (fun _ _ _ _ _ _ us hl => match us, hl with | [_, _, _], _ => rfl) ?a ?l ?c ?k; (case a => k_is); (case l => k_is); (case c => k_is); (case k => k_is))
      (case d12 => refine' K53.def_mk KX G (fun _ _ _ _ _ _ us hl => match us, hl with | [_, _, _], _ => rfl) ?a ?l ?c ?k; (case a => k_is); (case l => k_is); (case c => k_is); (case k => k_is))
      (case d13 => refine' K53.def_mk KX G (fun _ _ _ _ _ _ us hl => match us, hl with | [_, _], _ => rfl) ?a ?l ?c ?k; (case a => k_is); (case l => k_is); (case c => k_is); (case k => k_is))
      (case d14 => refine' K53.def_mk KX G (fun _ _ _ _ _ _ us hl => match us, hl with | [_, _], _ => rfl) ?a ?l ?c ?k; (case a => k_is); (case l => k_is); (case c => k_is); (case k => k_is))
      (case d15 => refine' K53.def_mk KX G (fun _ _ _ _ _ _ us hl => match us, hl with | [_, _], _ => rfl) ?a ?l ?c ?k; (case a => k_is); (case l => k_is); (case c => k_is); (case k => k_is))
      (case d16 => refine' K53.def_mk KX G (fun _ _ _ _ _ _ us hl => match us, hl with | [_, _], _ => rfl) ?a ?l ?c ?k; (case a => k_is); (case l => k_is); (case c => k_is); (case k => k_is))
      (case d17 => refine' K53.def_mk KX G (fun _ _ _ _ _ _ us hl => match us, hl with | [_, _], _ => rfl) ?a ?l ?c ?k; (case a => k_is); (case l => k_is); (case c => k_is); (case k => k_is))
      (case d18 => refine' K53.def_mk KX G (fun _ _ _ _ _ _ us hl => match us, hl with | [_, _], _ => rfl) ?a ?l ?c ?k; (case a => k_is); (case l => k_is); (case c => k_is); (case k => k_is))
      (case d19 => refine' K53.def_mk KX G (fun _ _ _ _ _ _ us hl => match us, hl with | [_, _], _ => rfl) ?a ?l ?c ?k; (case a => k_is); (case l => k_is); (case c => k_is); (case k => k_is))
      (case d20 => refine' K53.def_mk KX G (fun _ _ _ _ _ _ us hl => match us, hl with | [_, _, _], _ => rfl) ?a ?l ?c ?k; (case a => k_is); (case l => k_is); (case c => k_is); (case k => k_is))
      (case d21 => refine' K53.def_mk KX G (fun _ _ _ _ _ _ us hl => match us, hl with | [_, _, _], _ => rfl) ?a ?l ?c ?k; (case a => k_is); (case l => k_is); (case c => k_is); (case k => k_is))
      (case d22 => refine' K53.def_mk KX G (fun _ _ _ _ _ _ us hl => match us, hl with | [_], _ => rfl) ?a ?l ?c ?k; (case a => k_is); (case l => k_is); (case c => k_is); (case k => k_is))
      (case d24 => refine' K53.def_mk KX G (fun _ _ _ _ _ _ us hl => match us, hl with | [_], _ => rfl) ?a ?l ?c ?k; (case a => k_is); (case l => k_is); (case c => k_is); (case k => k_is))
      (case d25 => refine' K53.def_mk KX G (fun _ _ _ _ _ _ us hl => match us, hl with | [_, _], _ => rfl) ?a ?l ?c ?k; (case a => k_is); (case l => k_is); (case c => k_is); (case k => k_is))
      (case d26 => refine' K53.def_mk KX G (fun _ _ _ _ _ _ us hl => match us, hl with | [_], _ => rfl) ?a ?l ?c ?k; (case a => k_is); (case l => k_is); (case c => k_is); (case k => k_is))
      (case d28 => refine' K53.def_mk KX G (fun _ _ _ _ _ _ us hl => match us, hl with | [_, _], _ => rfl) ?a ?l ?c ?k; (case a => k_is); (case l => k_is); (case c => k_is); (case k => k_is))
      (case d29 => refine' K53.def_mk KX G (fun _ _ _ _ _ _ us hl => match us, hl with | [_], _ => rfl) ?a ?l ?c ?k; (case a => k_is); (case l => k_is); (case c => k_is); (case k => k_is))
      (case d30 => refine' K53.def_mk KX G (fun _ _ _ _ _ _ us hl => match us, hl with | [_, _], _ => rfl) ?a ?l ?c ?k; (case a => k_is); (case l => k_is); (case c => k_is); (case k => k_is))
      (case d31 => refine' K53.def_mk KX G (fun _ _ _ _ _ _ us hl => match us, hl with | [_, _], _ => rfl) ?a ?l ?c ?k; (case a => k_is); (case l => k_is); (case c => k_is); (case k => k_is))
      (case d32 => refine' K53.def_mk KX G (fun _ _ _ _ _ _ us hl => match us, hl with | [_, _], _ => rfl) ?a ?l ?c ?k; (case a => k_is); (case l => k_is); (case c => k_is); (case k => k_is))
      (case d33 => refine' K53.def_mk KX G (fun _ _ _ _ _ _ us hl => match us, hl with | [_, _], _ => rfl) ?a ?l ?c ?k; (case a => k_is); (case l => k_is); (case c => k_is); (case k => k_is))
      (case d34 => refine' K53.def_mk KX G (fun _ _ _ _ _ _ us hl => match us, hl with | [_, _], _ => rfl) ?a ?l ?c ?k; (case a => k_is); (case l => k_is); (case c => k_is); (case k => k_is))
      (case d35 => refine' K53.def_mk KX G (fun _ _ _ _ _ _ us hl => match us, hl with | [_, _], _ => rfl) ?a ?l ?c ?k; (case a => k_is); (case l => k_is); (case c => k_is); (case k => k_is))
      (case d36 => refine' K53.def_mk KX G (fun _ _ _ _ _ _ us hl => match us, hl with | [_, _, _], _ => rfl) ?a ?l ?c ?k; (case a => k_is); (case l => k_is); (case c => k_is); (case k => k_is))
      (case d37 => refine' K53.def_mk KX G (fun _ _ _ _ _ _ us hl => match us, hl with | [_, _, _], _ => rfl) ?a ?l ?c ?k; (case a => k_is); (case l => k_is); (case c => k_is); (case k => k_is))
      (case d38 => refine' K53.def_mk KX G (fun _ _ _ _ _ _ us hl => match us, hl with | [_], _ => rfl) ?a ?l ?c ?k; (case a => k_is); (case l => k_is); (case c => k_is); (case k => k_is))
      (case d39 => refine' K53.def_mk KX G (fun _ _ _ _ _ _ us hl => match us, hl with | [_], _ => rfl) ?a ?l ?c ?k; (case a => k_is); (case l => k_is); (case c => k_is); (case k => k_is))
      (case d40 => refine' K53.def_mk KX G (fun _ _ _ _ _ _ us hl => match us, hl with | [_, _], _ => rfl) ?a ?l ?c ?k; (case a => k_is); (case l => k_is); (case c => k_is); (case k => k_is))
      (case d41 => refine' K53.def_mk KX G (fun _ _ _ _ _ _ us hl => match us, hl with | [], _ => rfl) ?a ?l ?c ?k; (case a => k_is); (case l => k_is); (case c => k_is); (case k => k_is))
      (case d42 => refine' K53.def_mk KX G (fun _ _ _ _ _ _ us hl => match us, hl with | [_], _ => rfl) ?a ?l ?c ?k; (case a => k_is); (case l => k_is); (case c => k_is); (case k => k_is))
