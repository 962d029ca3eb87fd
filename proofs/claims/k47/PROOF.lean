import PyProof.Rows.All
import Wide.All
import OpenK.AllK
import Wide.FinOn
import HandS.ForMost
import HandS.Codes
import HandS.Defaults
import HandS.WideBits
import HandS.IsInst
import HandS.Rev
import HandS.Walk
import PySem.Challenge.RW_thaumatrope_k47_whole_transform_blocks_r
set_option Elab.async false
set_option linter.all false
set_option autoImplicit false
set_option maxRecDepth 100000
set_option maxHeartbeats 4000000
namespace K47
/-- one decision: its context (none: even), its bit -/
abbrev Dn := Option Nat × Bool
/-- the encoder's state -/
structure CS where
  ch : List Int
  low : Int
  span : Int
  sh : Nat
def cs0 : CS := ⟨List.replicate 256 2048, 0, 4294967295, 0⟩
def chance (s : CS) : Option Nat → Int
  | none => 2048
  | some c => s.ch.getD c 2048
def part (s : CS) (p : Int) : Int := s.span / 4096 * p
def spl (s : CS) (p : Int) (b : Bool) : CS := if b = true then ⟨s.ch, s.low + part s p, s.span - part s p, s.sh⟩ else ⟨s.ch, s.low, part s p, s.sh⟩
def nrm (s : CS) : CS := if s.span < 16777216 then ⟨s.ch, s.low * 256, s.span * 256, s.sh + 1⟩ else s
def adapt (p : Int) (b : Bool) : Int := if b = true then p - p / 32 else p + (4096 - p) / 32
def stp (s : CS) (p : Int) (b : Bool) : CS := nrm (spl s p b)
def learn (s : CS) (c : Option Nat) (v : Int) : CS := match c with
  | none => s
  | some c => ⟨s.ch.set c v, s.low, s.span, s.sh⟩
def stepC (s : CS) (d : Dn) : CS := learn (stp s (chance s d.1) d.2) d.1 (adapt (chance s d.1) d.2)
def run (s : CS) (ds : List Dn) : CS := ds.foldl stepC s
theorem run_nil (s : CS) : run s [] = s := rfl
theorem run_cons (s : CS) (d : Dn) (ds : List Dn) : run s (d :: ds) = run (stepC s d) ds := rfl
theorem run_app (s : CS) (ds es : List Dn) : run s (ds ++ es) = run (run s ds) es := List.foldl_append ..
structure Ok (s : CS) : Prop where
  len : s.ch.length = 256
  ps : ∀ p ∈ s.ch, 31 ≤ p ∧ p ≤ 4065
  sp1 : 16777216 ≤ s.span
  sp2 : s.span < 4294967296
  lo : 0 ≤ s.low
theorem ok0 : Ok cs0 where
  len := List.length_replicate ..
  ps := fun p h => by rw [(List.mem_replicate.mp h).2]; decide
  sp1 := by decide
  sp2 := by decide
  lo := by decide
theorem chance_ok {s : CS} (o : Ok s) (c : Option Nat) : 31 ≤ chance s c ∧ chance s c ≤ 4065 := by
  cases c with
  | none => exact ⟨(by decide : (31 : Int) ≤ 2048), (by decide : (2048 : Int) ≤ 4065)⟩
  | some c =>
    show 31 ≤ s.ch.getD c 2048 ∧ s.ch.getD c 2048 ≤ 4065
    rw [List.getD_eq_getElem?_getD]
    cases h : s.ch[c]? with
    | none => exact ⟨by decide, by decide⟩
    | some v => exact o.ps v (List.mem_of_getElem? h)
theorem part_bd {s : CS} {p : Int} (h1 : 16777216 ≤ s.span) (h2 : 31 ≤ p) (h3 : p ≤ 4065) : 126976 ≤ part s p ∧ part s p + 126976 ≤ s.span := by
  have q1 : 4096 ≤ s.span / 4096 := by omega
  have q2 : s.span / 4096 * 4096 ≤ s.span := by omega
  have a : s.span / 4096 * 31 ≤ s.span / 4096 * p := Int.mul_le_mul_of_nonneg_left h2 (by omega)
  have b : s.span / 4096 * p ≤ s.span / 4096 * 4065 := Int.mul_le_mul_of_nonneg_left h3 (by omega)
  unfold part
  omega
/-- what the split leaves -/
theorem split_bd {s : CS} {p : Int} (b : Bool) (h1 : 16777216 ≤ s.span) (h2 : 31 ≤ p) (h3 : p ≤ 4065) : 126976 ≤ (spl s p b).span ∧ (spl s p b).span ≤ s.span := by
  have q := part_bd (s := s) h1 h2 h3
  unfold spl
  cases b
  · rw [if_neg (by decide)]
    show 126976 ≤ part s p ∧ part s p ≤ s.span
    omega
  · rw [if_pos rfl]
    show 126976 ≤ s.span - part s p ∧ s.span - part s p ≤ s.span
    omega
theorem norm_ch (s : CS) : (nrm s).ch = s.ch := by unfold nrm; split <;> rfl
theorem split_ch (s : CS) (p : Int) (b : Bool) : (spl s p b).ch = s.ch := by unfold spl; split <;> rfl
theorem stp_ch (s : CS) (p : Int) (b : Bool) : (stp s p b).ch = s.ch := by unfold stp; rw [norm_ch, split_ch]
theorem adapt_ok {p : Int} (b : Bool) (h2 : 31 ≤ p) (h3 : p ≤ 4065) : 31 ≤ adapt p b ∧ adapt p b ≤ 4065 := by
  unfold adapt
  split <;> omega
theorem split_low {s : CS} {p : Int} (b : Bool) (o : Ok s) (h2 : 31 ≤ p) (h3 : p ≤ 4065) : 0 ≤ (spl s p b).low := by
  have q := part_bd (s := s) o.sp1 h2 h3
  have l := o.lo
  unfold spl
  split
  · show 0 ≤ s.low + part s p
    omega
  · exact l
theorem stp_ok {s : CS} {p : Int} (b : Bool) (o : Ok s) (h2 : 31 ≤ p) (h3 : p ≤ 4065) : Ok (stp s p b) := by
  have q := split_bd b o.sp1 h2 h3
  have l := split_low b o h2 h3
  have u := o.sp2
  refine ⟨by rw [stp_ch]; exact o.len, by rw [stp_ch]; exact o.ps, ?_, ?_, ?_⟩
  all_goals (unfold stp nrm; split)
  · show 16777216 ≤ (spl s p b).span * 256
    omega
  · omega
  · show (spl s p b).span * 256 < 4294967296
    omega
  · omega
  · show 0 ≤ (spl s p b).low * 256
    omega
  · exact l
theorem mem_set {l : List Int} {i : Nat} {v x : Int} (h : x ∈ l.set i v) : x = v ∨ x ∈ l := by
  induction l generalizing i with
  | nil => cases h
  | cons a l ih =>
    cases i with
    | zero =>
      rcases List.mem_cons.mp h with e | e
      · exact .inl e
      · exact .inr (List.mem_cons_of_mem _ e)
    | succ i =>
      rcases List.mem_cons.mp h with e | e
      · exact .inr (by rw [e]; exact List.mem_cons_self)
      · rcases ih e with e | e
        · exact .inl e
        · exact .inr (List.mem_cons_of_mem _ e)
theorem learn_ok {s : CS} (o : Ok s) (c : Option Nat) {v : Int} (h2 : 31 ≤ v) (h3 : v ≤ 4065) : Ok (learn s c v) := by
  cases c with
  | none => exact o
  | some c =>
    refine ⟨?_, ?_, o.sp1, o.sp2, o.lo⟩
    · show (s.ch.set c v).length = 256
      rw [List.length_set]
      exact o.len
    · intro p hp
      rcases mem_set (show p ∈ s.ch.set c v from hp) with e | e
      · rw [e]; exact ⟨h2, h3⟩
      · exact o.ps p e
theorem stepC_ok {s : CS} (o : Ok s) (d : Dn) : Ok (stepC s d) := by
  have c := chance_ok o d.1
  have a := adapt_ok d.2 c.1 c.2
  exact learn_ok (stp_ok d.2 o c.1 c.2) d.1 a.1 a.2
theorem run_ok {s : CS} (o : Ok s) (ds : List Dn) : Ok (run s ds) := by
  induction ds generalizing s with
  | nil => exact o
  | cons d ds ih => exact ih (stepC_ok o d)
/-- the interval of f lies in that of s, k octets further -/
def In (s f : CS) : Prop := ∃ k : Nat, f.sh = s.sh + k ∧ s.low * 256 ^ k ≤ f.low ∧ f.low + f.span ≤ (s.low + s.span) * 256 ^ k
theorem pow_pos (k : Nat) : (0 : Int) < 256 ^ k := Int.pow_pos (by decide)
theorem In.refl (s : CS) : In s s := ⟨0, rfl, by rw [Int.pow_zero]; omega, by rw [Int.pow_zero]; omega⟩
theorem In.trans {s t u : CS} (a : In s t) (b : In t u) : In s u := by
  obtain ⟨j, e1, l1, u1⟩ := a
  obtain ⟨k, e2, l2, u2⟩ := b
  have p := Int.le_of_lt (pow_pos k)
  refine ⟨j + k, by omega, ?_, ?_⟩
  · rw [Int.pow_add, ← Int.mul_assoc]
    exact Int.le_trans (Int.mul_le_mul_of_nonneg_right l1 p) l2
  · rw [Int.pow_add, ← Int.mul_assoc]
    exact Int.le_trans u2 (Int.mul_le_mul_of_nonneg_right u1 p)
theorem In.split {s : CS} {p : Int} (b : Bool) (h1 : 16777216 ≤ s.span) (h2 : 31 ≤ p) (h3 : p ≤ 4065) : In s (spl s p b) := by
  have q := part_bd (s := s) h1 h2 h3
  unfold spl
  cases b
  · refine ⟨0, rfl, ?_, ?_⟩
    · rw [Int.pow_zero]
      show s.low * 1 ≤ s.low
      omega
    · rw [Int.pow_zero]
      show s.low + part s p ≤ (s.low + s.span) * 1
      omega
  · refine ⟨0, rfl, ?_, ?_⟩
    · rw [Int.pow_zero]
      show s.low * 1 ≤ s.low + part s p
      omega
    · rw [Int.pow_zero]
      show s.low + part s p + (s.span - part s p) ≤ (s.low + s.span) * 1
      omega
theorem In.norm (s : CS) : In s (nrm s) := by
  unfold nrm
  split
  · refine ⟨1, rfl, ?_, ?_⟩
    · show s.low * 256 ^ 1 ≤ s.low * 256
      omega
    · show s.low * 256 + s.span * 256 ≤ (s.low + s.span) * 256 ^ 1
      omega
  · exact .refl s
theorem In.learn (s : CS) (c : Option Nat) (v : Int) : In s (learn s c v) := by
  cases c with
  | none => exact .refl s
  | some c => exact ⟨0, rfl, by rw [Int.pow_zero]; show s.low * 1 ≤ s.low; omega, by rw [Int.pow_zero]; show s.low + s.span ≤ _; omega⟩
theorem In.stepC (s : CS) (d : Dn) : In (spl s (chance s d.1) d.2) (stepC s d) := (In.norm _).trans (In.learn _ _ _)
theorem In.run {s : CS} (o : Ok s) (ds : List Dn) : In s (run s ds) := by
  induction ds generalizing s with
  | nil => exact .refl s
  | cons d ds ih =>
    have c := chance_ok o d.1
    exact ((In.split d.2 o.sp1 c.1 c.2).trans (In.stepC s d)).trans (ih (stepC_ok o d))
/-- what the decoder holds where the encoder stood at s and ended at f -/
def dval (f s : CS) : Int := f.low / 256 ^ (f.sh - s.sh) - s.low
theorem dval_bd {s f : CS} (a : In s f) (h : 1 ≤ f.span) : 0 ≤ dval f s ∧ dval f s < s.span := by
  obtain ⟨k, e, l, u⟩ := a
  have ek : f.sh - s.sh = k := by omega
  have p := pow_pos k
  unfold dval
  rw [ek]
  have x := (Int.le_ediv_iff_mul_le p).mpr l
  have y := (Int.ediv_lt_iff_lt_mul p).mpr (show f.low < (s.low + s.span) * 256 ^ k by omega)
  omega
theorem dval_split_f {f s : CS} {p : Int} : dval f (spl s p false) = dval f s := rfl
theorem dval_split_t {f s : CS} {p : Int} : dval f (spl s p true) = dval f s - part s p := by
  show f.low / 256 ^ (f.sh - s.sh) - (s.low + part s p) = f.low / 256 ^ (f.sh - s.sh) - s.low - part s p
  omega
/-- THE BIT: the decoder's value is below the part just where the decision is 0 -/
theorem bit_law {s f : CS} {d : Dn} {rest : List Dn} (o : Ok s) (e : f = run s (d :: rest)) : dval f s < part s (chance s d.1) ↔ d.2 = false := by
  have c := chance_ok o d.1
  have of : Ok f := by rw [e]; exact run_ok o _
  have w : In (spl s (chance s d.1) d.2) f := by
    rw [e, run_cons]
    exact (In.stepC s d).trans (In.run (stepC_ok o d) rest)
  have b := dval_bd w (by have := of.sp1; omega)
  cases h : d.2
  · rw [h, dval_split_f] at b
    have e2 : (spl s (chance s d.1) false).span = part s (chance s d.1) := rfl
    rw [e2] at b
    exact ⟨fun _ => rfl, fun _ => b.2⟩
  · rw [h, dval_split_t] at b
    exact ⟨fun q => by omega, fun q => by cases q⟩
/-- an octet of f, the highest first -/
def octF (f : CS) (i : Nat) : Int := f.low / 256 ^ (f.sh + 3 - i) % 256
theorem shift_law (n : Int) (k : Nat) : 256 * (n / 256 ^ (k + 1)) + n / 256 ^ k % 256 = n / 256 ^ k := by
  have e : n / 256 ^ (k + 1) = n / 256 ^ k / 256 := by
    rw [Int.pow_succ, Int.ediv_ediv_of_nonneg (Int.le_of_lt (pow_pos k))]
  rw [e]
  omega
theorem norm_law {s f : CS} (a : In (nrm s) f) : dval f (nrm s) = if s.span < 16777216 then 256 * dval f s + octF f (s.sh + 4) else dval f s := by
  by_cases h : s.span < 16777216
  · rw [if_pos h]
    have en : nrm s = ⟨s.ch, s.low * 256, s.span * 256, s.sh + 1⟩ := if_pos h
    obtain ⟨k, e, _, _⟩ := a
    rw [en] at e ⊢
    have e : f.sh = s.sh + 1 + k := e
    show f.low / 256 ^ (f.sh - (s.sh + 1)) - s.low * 256 = 256 * (f.low / 256 ^ (f.sh - s.sh) - s.low) + f.low / 256 ^ (f.sh + 3 - (s.sh + 4)) % 256
    have e1 : f.sh - (s.sh + 1) = k := by omega
    have e2 : f.sh - s.sh = k + 1 := by omega
    have e3 : f.sh + 3 - (s.sh + 4) = k := by omega
    rw [e1, e2, e3]
    have z := shift_law f.low k
    omega
  · rw [if_neg h]
    have en : nrm s = s := if_neg h
    rw [en]
theorem norm_sh (s : CS) : (nrm s).sh = if s.span < 16777216 then s.sh + 1 else s.sh := by unfold nrm; split <;> rfl
theorem norm_place {s f : CS} (a : In (nrm s) f) (h : s.span < 16777216) : s.sh + 4 < f.sh + 4 := by
  obtain ⟨k, e, _, _⟩ := a
  rw [norm_sh, if_pos h] at e
  omega
theorem sh_le {s : CS} (ds : List Dn) : (run s ds).sh ≤ s.sh + ds.length := by
  induction ds generalizing s with
  | nil => exact Nat.le_refl _
  | cons d ds ih =>
    have a := ih (s := stepC s d)
    have b : (stepC s d).sh ≤ s.sh + 1 := by
      have e1 : (stepC s d).sh = (stp s (chance s d.1) d.2).sh := by
        unfold stepC learn
        split <;> rfl
      have e2 : (spl s (chance s d.1) d.2).sh = s.sh := by unfold spl; split <;> rfl
      rw [e1]
      unfold stp
      rw [norm_sh, e2]
      split <;> omega
    rw [run_cons, List.length_cons]
    omega
/-- the octets: xs are f's, as the decoder reads them -/
def IsOct (f : CS) (xs : List Int) : Prop := ∀ i, i < f.sh + 4 → xs.getD i 0 = octF f i
/-- the low digits -/
def leD (n : Int) (k : Nat) : List Int := (List.range k).map fun j => n / 256 ^ j % 256
theorem leD_succ (n : Int) (k : Nat) : leD n (k + 1) = leD n k ++ [n / 256 ^ k % 256] := by
  unfold leD
  rw [List.range_succ, List.map_append]
  rfl
theorem leD_len (n : Int) (k : Nat) : (leD n k).length = k := by unfold leD; rw [List.length_map, List.length_range]
theorem isOct_of {f : CS} {xs : List Int} {z : Nat} (h : (leD f.low (f.sh + 4)).reverse = xs ++ List.replicate z 0) : IsOct f xs := by
  intro i hi
  have l : ((leD f.low (f.sh + 4)).reverse).getD i 0 = octF f i := by
    have hl : i < (leD f.low (f.sh + 4)).length := by rw [leD_len]; exact hi
    rw [List.getD_eq_getElem?_getD, List.getElem?_reverse hl]
    unfold leD octF
    rw [List.length_map, List.length_range, List.getElem?_map, List.getElem?_range (by omega)]
    show f.low / 256 ^ (f.sh + 4 - 1 - i) % 256 = _
    congr 3
  rw [← l, h]
  by_cases hx : i < xs.length
  · rw [List.getD_eq_getElem?_getD, List.getD_eq_getElem?_getD, List.getElem?_append_left hx]
  · rw [List.getD_eq_getElem?_getD, List.getD_eq_getElem?_getD, List.getElem?_append_right (by omega), List.getElem?_eq_none (by omega)]
    cases e : (List.replicate z (0 : Int))[i - xs.length]? with
    | none => rfl
    | some v =>
      have := List.mem_of_getElem? e
      rw [(List.mem_replicate.mp this).2]
      rfl
theorem start_zero {f : CS} (a : In cs0 f) (o : Ok f) : f.low / 256 ^ (f.sh + 4) = 0 := by
  obtain ⟨k, e, l, u⟩ := a
  have e : f.sh = k := by
    have : cs0.sh = 0 := rfl
    omega
  have u : f.low + f.span ≤ (0 + 4294967295) * 256 ^ k := u
  have p := pow_pos k
  have h : f.low < 256 ^ (k + 4) := by
    have : (256 : Int) ^ (k + 4) = 256 ^ k * 4294967296 := by rw [Int.pow_add]; rfl
    have := o.sp1
    omega
  rw [e]
  exact Int.ediv_eq_zero_of_lt o.lo h
/-- the decoder's first number after i octets -/
def first (f : CS) (i : Nat) : Int := f.low / 256 ^ (f.sh + 4 - i)
theorem first_step {f : CS} {i : Nat} (h : i < 4) : 256 * first f i + octF f i = first f (i + 1) := by
  unfold first octF
  have e1 : f.sh + 4 - i = f.sh + 3 - i + 1 := by omega
  have e2 : f.sh + 4 - (i + 1) = f.sh + 3 - i := by omega
  rw [e1, e2]
  exact shift_law f.low _
theorem first_four (f : CS) : first f 4 = dval f cs0 := by
  show f.low / 256 ^ (f.sh + 4 - 4) = f.low / 256 ^ (f.sh - 0) - 0
  rw [show f.sh + 4 - 4 = f.sh - 0 by omega]
  omega
end K47
namespace K47
/-! ### the syntax, as decisions -/
/-- a unary value: i ones are told, n are to come -/
def unD (base most : Nat) : Nat → Nat → List Dn
  | i, 0 => if i < most then [(some (base + min i 7), false)] else []
  | i, n + 1 => (some (base + min i 7), true) :: unD base most (i + 1) n
/-- the low digits of m, of k: n are to come -/
def tlD (base k m : Nat) : Nat → List Dn
  | 0 => []
  | n + 1 => (if n + 1 = k then some (base + 8 + min (k - 1) 7) else none, m.testBit n) :: tlD base k m n
def numD (base v : Nat) : List Dn := unD base 20 0 (v + 1).log2 ++ tlD base (v + 1).log2 (v + 1) (v + 1).log2
def nz (lv : List Int) (i : Nat) : Bool := decide (lv.getD i 0 ≠ 0)
def cls (count at_ : Nat) : Nat := if count = 64 then at_ else 4 * at_
/-- which levels are not 0: from index i on, n to come -/
def plD (lv : List Int) (last : Nat) : Nat → Nat → List Dn
  | _, 0 => []
  | i, n + 1 =>
    if nz lv i = true then (some (64 + cls lv.length i), true) :: (some (128 + cls lv.length i), decide (i = last)) :: (if i = last then [] else plD lv last (i + 1) n)
    else (some (64 + cls lv.length i), false) :: plD lv last (i + 1) n
def plc (lv : List Int) (k : Nat) : List Nat := (List.range k).filter (nz lv)
def lastOf (lv : List Int) : Nat → Nat
  | 0 => 0
  | n + 1 => if nz lv n = true then n else lastOf lv n
def nextB (x : Int) (base : Nat) : Nat := if 1 < x.natAbs then 208 else base
def levD : List Int → Nat → List Dn
  | [], _ => []
  | x :: xs, base => numD base (x.natAbs - 1) ++ (none, decide (x < 0)) :: levD xs (nextB x base)
def valsOf (lv : List Int) : List Int := (plc lv lv.length).reverse.map fun i => lv.getD i 0
def blkD (lv : List Int) : List Dn := plD lv (lastOf lv lv.length) 0 (lv.length - 1) ++ levD (valsOf lv) 192
structure Good (lv : List Int) (count : Nat) : Prop where
  len : lv.length = count
  c : count = 16 ∨ count = 64
  rg : ∀ x ∈ lv, -524288 ≤ x ∧ x ≤ 524287
  ex : ∃ i : Nat, i < lv.length ∧ nz lv i = true
def allD (ctx : Nat → Nat) (bt : Nat → Bool) : Nat → List (List Int) → List Dn
  | _, [] => []
  | i, lv :: r => blkD lv ++ (some (ctx i), bt i) :: allD ctx bt (i + 1) r
theorem allD_snoc (ctx : Nat → Nat) (bt : Nat → Bool) (lv : List Int) : ∀ (lvs : List (List Int)) (i : Nat), allD ctx bt i (lvs ++ [lv]) = allD ctx bt i lvs ++ (blkD lv ++ [(some (ctx (i + lvs.length)), bt (i + lvs.length))])
  | [], i => rfl
  | l :: lvs, i => by
    show blkD l ++ (some (ctx i), bt i) :: allD ctx bt (i + 1) (lvs ++ [lv]) = (blkD l ++ (some (ctx i), bt i) :: allD ctx bt (i + 1) lvs) ++ _
    rw [allD_snoc ctx bt lv lvs (i + 1), List.append_assoc, List.length_cons, show i + 1 + lvs.length = i + (lvs.length + 1) by omega]
    rfl
/-! lengths -/
theorem unD_len (base most : Nat) : ∀ n i, (unD base most i n).length ≤ n + 1
  | 0, i => by
    unfold unD
    split <;> simp
  | n + 1, i => by
    have := unD_len base most n (i + 1)
    show (unD base most (i + 1) n).length + 1 ≤ _
    omega
theorem tlD_len (base k m : Nat) : ∀ n, (tlD base k m n).length = n
  | 0 => rfl
  | n + 1 => by
    show (tlD base k m n).length + 1 = _
    rw [tlD_len base k m n]
theorem log_le {v : Nat} (h : v ≤ 1048576) : (v + 1).log2 ≤ 20 := by
  have : (v + 1).log2 < 21 := (Nat.log2_lt (by omega)).mpr (by omega)
  omega
theorem numD_len {base v : Nat} (h : v ≤ 1048576) : (numD base v).length ≤ 41 := by
  have l := log_le h
  have a := unD_len base 20 (v + 1).log2 0
  unfold numD
  rw [List.length_append, tlD_len]
  omega
theorem levD_len : ∀ (xs : List Int) (base : Nat), (∀ x ∈ xs, x.natAbs ≤ 1048576) → (levD xs base).length ≤ xs.length * 42
  | [], _, _ => Nat.zero_le _
  | x :: xs, base, h => by
    have a := numD_len (base := base) (v := x.natAbs - 1) (by have := h x List.mem_cons_self; omega)
    have b := levD_len xs (nextB x base) fun y hy => h y (List.mem_cons_of_mem _ hy)
    show (numD base (x.natAbs - 1) ++ (none, decide (x < 0)) :: levD xs (nextB x base)).length ≤ (xs.length + 1) * 42
    rw [List.length_append, List.length_cons]
    omega
theorem plD_len (lv : List Int) (last : Nat) : ∀ n i, (plD lv last i n).length ≤ 2 * n
  | 0, i => Nat.zero_le _
  | n + 1, i => by
    have := plD_len lv last n (i + 1)
    unfold plD
    split
    · split
      · show 2 ≤ 2 * (n + 1)
        omega
      · rw [List.length_cons, List.length_cons]
        omega
    · rw [List.length_cons]
      omega
theorem plc_len (lv : List Int) (k : Nat) : (plc lv k).length ≤ k := by
  have := List.length_filter_le (nz lv) (List.range k)
  rw [List.length_range] at this
  exact this
theorem getD_mem {lv : List Int} {i : Nat} (h : i < lv.length) : lv.getD i 0 ∈ lv := by
  rw [List.getD_eq_getElem?_getD, List.getElem?_eq_getElem h]
  exact List.getElem_mem h
theorem mem_plc {lv : List Int} {k i : Nat} : i ∈ plc lv k ↔ i < k ∧ nz lv i = true := by
  unfold plc
  rw [List.mem_filter, List.mem_range]
theorem blkD_len {lv : List Int} {c : Nat} (g : Good lv c) : (blkD lv).length ≤ 2814 := by
  have a := plD_len lv (lastOf lv lv.length) (lv.length - 1) 0
  have n := plc_len lv lv.length
  have hl : (valsOf lv).length ≤ lv.length := by
    unfold valsOf
    rw [List.length_map, List.length_reverse]
    exact n
  have b := levD_len (valsOf lv) 192 fun x hx => by
    obtain ⟨i, hi, rfl⟩ := List.mem_map.mp hx
    have := g.rg _ (getD_mem (mem_plc.mp (List.mem_reverse.mp hi)).1)
    omega
  have e := g.len
  have cc := g.c
  unfold blkD
  rw [List.length_append]
  omega
theorem allD_len (ctx : Nat → Nat) (bt : Nat → Bool) : ∀ (lvs : List (List Int)) (i : Nat), (∀ lv ∈ lvs, ∃ c, Good lv c) → (allD ctx bt i lvs).length ≤ lvs.length * 2815
  | [], _, _ => Nat.zero_le _
  | l :: lvs, i, h => by
    obtain ⟨c, g⟩ := h l List.mem_cons_self
    have a := blkD_len g
    have b := allD_len ctx bt lvs (i + 1) fun y hy => h y (List.mem_cons_of_mem _ hy)
    show (blkD l ++ (some (ctx i), bt i) :: allD ctx bt (i + 1) lvs).length ≤ (lvs.length + 1) * 2815
    rw [List.length_append, List.length_cons]
    omega
/-! places -/
theorem plc_succ (lv : List Int) (k : Nat) : plc lv (k + 1) = plc lv k ++ if nz lv k = true then [k] else [] := by
  unfold plc
  rw [List.range_succ, List.filter_append]
  congr 1
  by_cases h : nz lv k = true
  · rw [if_pos h, List.filter_cons, if_pos h]
    rfl
  · rw [if_neg h, List.filter_cons, if_neg h]
    rfl
theorem plc_last (lv : List Int) : ∀ k, (∃ i : Nat, i < k ∧ nz lv i = true) → (∃ ps, plc lv k = ps ++ [lastOf lv k]) ∧ lastOf lv k < k ∧ nz lv (lastOf lv k) = true ∧ ∀ j : Nat, lastOf lv k < j → j < k → nz lv j = false
  | 0, ⟨_, h, _⟩ => absurd h (Nat.not_lt_zero _)
  | k + 1, ⟨i, hi, hz⟩ => by
    rw [plc_succ]
    unfold lastOf
    by_cases h : nz lv k = true
    · rw [if_pos h, if_pos h]
      exact ⟨⟨_, rfl⟩, Nat.lt_succ_self k, h, fun j a b => by omega⟩
    · rw [if_neg h, if_neg h, List.append_nil]
      have hik : i ≠ k := fun e => h (e ▸ hz)
      obtain ⟨a, b, c, d⟩ := plc_last lv k ⟨i, by omega, hz⟩
      refine ⟨a, by omega, c, fun j h1 h2 => ?_⟩
      by_cases hj : j = k
      · rw [hj]
        exact Bool.eq_false_iff.mpr h
      · exact d j h1 (by omega)
/-- behind the last one there is none -/
theorem plc_full {lv : List Int} {i : Nat} (h : ∀ j : Nat, i < j → j < lv.length → nz lv j = false) (hi : i < lv.length) : plc lv lv.length = plc lv (i + 1) := by
  have key : ∀ d, i + 1 + d ≤ lv.length → plc lv (i + 1 + d) = plc lv (i + 1) := by
    intro d
    induction d with
    | zero => intro _; rfl
    | succ d ih =>
      intro hd
      rw [show i + 1 + (d + 1) = i + 1 + d + 1 by omega, plc_succ, ih (by omega), if_neg (by rw [h (i + 1 + d) (by omega) (by omega)]; decide), List.append_nil]
  have := key (lv.length - (i + 1)) (by omega)
  rw [← this]
  congr 1
  omega
/-! the blocks' levels come back -/
theorem getD_set {L : List Int} {a j : Nat} {x : Int} (h : a < L.length) : (L.set a x).getD j 0 = if j = a then x else L.getD j 0 := by
  rw [List.getD_eq_getElem?_getD, List.getD_eq_getElem?_getD]
  by_cases e : j = a
  · subst e
    rw [List.getElem?_set_self h, if_pos rfl]
    rfl
  · rw [List.getElem?_set_ne (fun q => e q.symm), if_neg e]
/-- behind i of the places told, the levels so far -/
structure Part (lv L : List Int) (i : Nat) : Prop where
  len : L.length = lv.length
  at_ : ∀ j : Nat, L.getD j 0 = if j ∈ (plc lv lv.length).reverse.take i then lv.getD j 0 else 0
theorem Part.start (lv : List Int) : Part lv (List.replicate lv.length 0) 0 where
  len := List.length_replicate ..
  at_ := fun j => by
    rw [List.take_zero, if_neg (by simp), List.getD_eq_getElem?_getD]
    cases e : (List.replicate lv.length (0 : Int))[j]? with
    | none => rfl
    | some v =>
      rw [(List.mem_replicate.mp (List.mem_of_getElem? e)).2]
      rfl
theorem Part.turn {lv L : List Int} {i a : Nat} (p : Part lv L i) (h : (plc lv lv.length).reverse[i]? = some a) : Part lv (L.set a (lv.getD a 0)) (i + 1) := by
  have ha : a < lv.length := (mem_plc.mp (List.mem_reverse.mp (List.mem_of_getElem? h))).1
  refine ⟨by rw [List.length_set]; exact p.len, fun j => ?_⟩
  rw [getD_set (by rw [p.len]; exact ha), List.take_add_one, h, p.at_]
  by_cases e : j = a
  · rw [if_pos e, if_pos (by rw [e]; simp), e]
  · rw [if_neg e]
    by_cases m : j ∈ (plc lv lv.length).reverse.take i
    · rw [if_pos m, if_pos (List.mem_append_left _ m)]
    · rw [if_neg m, if_neg]
      intro q
      rcases List.mem_append.mp q with q | q
      · exact m q
      · exact e (by simpa using q)
theorem Part.done {lv L : List Int} {i : Nat} (p : Part lv L i) (h : (plc lv lv.length).length ≤ i) : L = lv := by
  have e : ∀ j : Nat, L.getD j 0 = lv.getD j 0 := by
    intro j
    rw [p.at_ j, List.take_of_length_le (by rw [List.length_reverse]; exact h)]
    by_cases m : j ∈ (plc lv lv.length).reverse
    · rw [if_pos m]
    · rw [if_neg m]
      by_cases hj : j < lv.length
      · by_cases hz : nz lv j = true
        · exact absurd (List.mem_reverse.mpr (mem_plc.mpr ⟨hj, hz⟩)) m
        · unfold nz at hz
          exact (Classical.byContradiction fun q => hz (decide_eq_true fun r => q r.symm))
      · rw [List.getD_eq_getElem?_getD, List.getElem?_eq_none (by omega)]
        rfl
  refine List.ext_getElem p.len fun j h1 h2 => ?_
  have := e j
  rw [List.getD_eq_getElem?_getD, List.getD_eq_getElem?_getD, List.getElem?_eq_getElem h1, List.getElem?_eq_getElem h2] at this
  exact this
/-! numbers -/
def bit (b : Bool) : Int := if b = true then 1 else 0
theorem testBit_int (m n : Nat) : ((m : Int) / 2 ^ n) % 2 = bit (m.testBit n) := by
  rw [Nat.testBit_eq_decide_div_mod_eq]
  have e : ((m : Int) / 2 ^ n) % 2 = ((m / 2 ^ n % 2 : Nat) : Int) := by
    rw [Int.natCast_emod, Int.natCast_ediv, Int.natCast_pow]
    rfl
  rw [e]
  unfold bit
  by_cases h : m / 2 ^ n % 2 = 1
  · rw [decide_eq_true h, if_pos rfl, h]
    rfl
  · rw [decide_eq_false h, if_neg (by decide)]
    have : m / 2 ^ n % 2 = 0 := by omega
    rw [this]
    rfl
theorem digit_step (m n : Nat) : 2 * ((m / 2 ^ (n + 1) : Nat) : Int) + bit (m.testBit n) = ((m / 2 ^ n : Nat) : Int) := by
  rw [← testBit_int]
  have e : ((m : Int) / 2 ^ n) % 2 = ((m / 2 ^ n % 2 : Nat) : Int) := by
    rw [Int.natCast_emod, Int.natCast_ediv, Int.natCast_pow]
    rfl
  rw [e, Nat.pow_succ, ← Nat.div_div_eq_div_mul]
  omega
theorem digit_first {m : Nat} (h : m ≠ 0) : m / 2 ^ m.log2 = 1 := by
  have a := Nat.log2_self_le h
  have b : m < 2 ^ (m.log2 + 1) := Nat.lt_log2_self
  rw [Nat.pow_succ] at b
  have p : 0 < 2 ^ m.log2 := Nat.two_pow_pos _
  exact Nat.div_eq_of_lt_le (by omega) (by omega)
end K47
namespace K47
open PySem L2
open C8 (Cal Met Mak pe_c pe_mk pe_mt pe_mt0 fnScope)
/-! ### the text by places -/
def top (i : Nat) : Stmt := PySem.Challenge.pw_thaumatrope_k47_whole_transform_blocks_r.main.body.getD i (.Pass ⟨0, 0, 0, 0⟩)
abbrev sChkLevels : Stmt := top 11
abbrev sPosClass : Stmt := top 12
abbrev sPutPlaces : Stmt := top 13
abbrev sGetPlaces : Stmt := top 14
abbrev sPutLevels : Stmt := top 15
abbrev sGetLevels : Stmt := top 16
abbrev sAdapted : Stmt := top 22
abbrev sChkContext : Stmt := top 23
abbrev sChkDecision : Stmt := top 24
abbrev sEInit : Stmt := inClass (top 25) 0
abbrev sEStep : Stmt := inClass (top 25) 1
abbrev sECode : Stmt := inClass (top 25) 2
abbrev sEEven : Stmt := inClass (top 25) 3
abbrev sEOctets : Stmt := inClass (top 25) 5
abbrev sDInit : Stmt := inClass (top 26) 0
abbrev sDFol : Stmt := inClass (top 26) 1
abbrev sDStep : Stmt := inClass (top 26) 2
abbrev sDRead : Stmt := inClass (top 26) 3
abbrev sDEven : Stmt := inClass (top 26) 4
abbrev sChkContexts : Stmt := top 30
abbrev sChkUnary : Stmt := top 31
abbrev sWInit : Stmt := inClass (top 32) 0
abbrev sWEven : Stmt := inClass (top 32) 1
abbrev sWFlag : Stmt := inClass (top 32) 2
abbrev sWUnary : Stmt := inClass (top 32) 4
abbrev sWNumber : Stmt := inClass (top 32) 5
abbrev sRInit : Stmt := inClass (top 33) 0
abbrev sREven : Stmt := inClass (top 33) 1
abbrev sRFlag : Stmt := inClass (top 33) 2
abbrev sRUnary : Stmt := inClass (top 33) 4
abbrev sRNumber : Stmt := inClass (top 33) 5
abbrev sCell : Stmt := top 35
abbrev sDigits : Stmt := top 36
abbrev sIsInts : Stmt := top 37
abbrev sBlock : Stmt := top 38
abbrev sLaw : Stmt := top 39
/-! ### attributes by place -/
def ixS (f : Str) : List Str → Option Nat
  | [] => none
  | g :: r => if f = g then some 0 else (ixS f r).map (· + 1)
theorem look_z {f : Str} {v : V} : ∀ {ns : List Str} {vs : List V} {i : Nat}, ixS f ns = some i → vs[i]? = some v → (ns.zip vs).lookup f = some v
  | [], _, _, h, _ => by cases h
  | g :: r, [], _, _, e => by simp at e
  | g :: r, x :: vs, i, h, e => by
    show (match f == g with | true => some x | false => (r.zip vs).lookup f) = some v
    unfold ixS at h
    by_cases q : f = g
    · rw [if_pos q] at h
      cases h
      rw [beq_iff_eq.mpr q]
      exact e
    · rw [if_neg q] at h
      rw [beq_eq_false_iff_ne.mpr q]
      cases w : ixS f r with
      | none =>
        rw [w] at h
        cases h
      | some j =>
        rw [w] at h
        cases h
        exact look_z (ns := r) w e
theorem no_z {f : Str} : ∀ {ns : List Str} {vs : List V}, ixS f ns = none → (ns.zip vs).lookup f = none
  | [], _, _ => by simp
  | g :: r, [], _ => by simp
  | g :: r, x :: vs, h => by
    show (match f == g with | true => some x | false => (r.zip vs).lookup f) = none
    unfold ixS at h
    by_cases q : f = g
    · rw [if_pos q] at h
      cases h
    · rw [if_neg q] at h
      rw [beq_eq_false_iff_ne.mpr q]
      cases w : ixS f r with
      | none => exact no_z (ns := r) w
      | some j =>
        rw [w] at h
        cases h
theorem put_z {f : Str} {v : V} : ∀ {ns : List Str} {vs : List V} {i : Nat}, ixS f ns = some i → ns.length = vs.length → putF f v (ns.zip vs) = ns.zip (vs.set i v)
  | [], _, _, h, _ => by cases h
  | g :: r, [], _, _, e => by simp at e
  | g :: r, x :: vs, i, h, e => by
    show (if g = f then (g, v) :: r.zip vs else (g, x) :: putF f v (r.zip vs)) = _
    unfold ixS at h
    by_cases q : f = g
    · rw [if_pos q] at h
      cases h
      rw [if_pos q.symm]
      rfl
    · rw [if_neg q] at h
      rw [if_neg fun z => q z.symm]
      cases w : ixS f r with
      | none =>
        rw [w] at h
        cases h
      | some j =>
        rw [w] at h
        cases h
        rw [put_z (ns := r) (vs := vs) w (by simpa using e)]
        rfl
theorem add_z {f : Str} {v : V} : ∀ {ns : List Str} {vs : List V}, ixS f ns = none → ns.length = vs.length → putF f v (ns.zip vs) = (ns ++ [f]).zip (vs ++ [v])
  | [], [], _, _ => rfl
  | [], _ :: _, _, e => by simp at e
  | g :: r, [], _, e => by simp at e
  | g :: r, x :: vs, h, e => by
    show (if g = f then (g, v) :: r.zip vs else (g, x) :: putF f v (r.zip vs)) = _
    unfold ixS at h
    by_cases q : f = g
    · rw [if_pos q] at h
      cases h
    · rw [if_neg q] at h
      rw [if_neg fun z => q z.symm]
      cases w : ixS f r with
      | none =>
        rw [add_z (ns := r) (vs := vs) w (by simpa using e)]
        rfl
      | some j =>
        rw [w] at h
        cases h
def eN : List Str := ["chances", "low", "span", "shifts"]
def dN : List Str := ["chances", "source", "place", "span", "value"]
def wN : List Str := ["encoder"]
def rN : List Str := ["decoder"]
/-- an encoder's attributes, a decoder's -/
def eF (l : Addr) (s : CS) : List (Str × V) := eN.zip [.ref l, .int s.low, .int s.span, .int (s.sh : Int)]
def dF (l src : Addr) (f s : CS) : List (Str × V) := dN.zip [.ref l, .ref src, .int ((s.sh + 4 : Nat) : Int), .int s.span, .int (dval f s)]
/-! ### the objects -/
/-- an encoder stands at p, in the state s; H0: what stands besides, all kept -/
structure EncAt (C : Addr) (H0 H : Hp) (p : Addr) (s : CS) : Prop where
  ok : Ok s
  same : Same H0 H
  np : H0 p = none
  ob : ∃ (dx l : Addr), H0 l = none ∧ H p = some (.ins C dx (eF l s)) ∧ H l = some (.lst (s.ch.map V.int))
/-- a decoder stands at q where the encoder stood at s; f: where it ended -/
structure DecAt (C : Addr) (H0 H : Hp) (q : Addr) (f s : CS) : Prop where
  ok : Ok s
  same : Same H0 H
  np : H0 q = none
  ob : ∃ (dx l src : Addr) (xs : List Int), H0 l = none ∧ H0 src = none ∧ src ≠ l ∧ H q = some (.ins C dx (dF l src f s)) ∧ H l = some (.lst (s.ch.map V.int)) ∧ H src = some (.lst (xs.map V.int)) ∧ IsOct f xs
section
variable {C p q : Addr} {H0 H0' H H' : Hp} {s f : CS} {o o' : HO} {a : Addr}
theorem same_upd (h : H a = none) : Same H (upd H a o) := fun b u e => by
  rw [upd_ne (ne_of_none e h)]
  exact e
theorem same_at (h : Same H H') (e : H' a = none) (k : H0 a = none → True) : H a = none := h.free e
theorem EncAt.mono (x : EncAt C H0 H p s) (m : Same H H') : EncAt C H0 H' p s := by
  obtain ⟨ok, sm, np, dx, l, nl, h1, h2⟩ := x
  exact ⟨ok, sm.trans m, np, dx, l, nl, m _ _ h1, m _ _ h2⟩
theorem EncAt.weaken (x : EncAt C H0' H p s) (m : Same H0 H0') : EncAt C H0 H p s := by
  obtain ⟨ok, sm, np, dx, l, nl, h1, h2⟩ := x
  exact ⟨ok, m.trans sm, m.free np, dx, l, m.free nl, h1, h2⟩
/-- a new object -/
theorem EncAt.new (x : EncAt C H0 H p s) (h : H a = none) : EncAt C (upd H0 a o) (upd H a o) p s := by
  obtain ⟨ok, sm, np, dx, l, nl, h1, h2⟩ := x
  have e1 := ne_of_none h1 h
  have e2 := ne_of_none h2 h
  refine ⟨ok, fun b u e => ?_, by rw [upd_ne e1]; exact np, dx, l, by rw [upd_ne e2]; exact nl, by rw [upd_ne e1]; exact h1, by rw [upd_ne e2]; exact h2⟩
  by_cases hb : b = a
  · subst hb
    rw [upd_same] at e ⊢
    exact e
  · rw [upd_ne hb] at e ⊢
    exact sm _ _ e
/-- an object of the rest is changed -/
theorem EncAt.put (x : EncAt C H0 H p s) (h : H0 a = some o') : EncAt C (upd H0 a o) (upd H a o) p s := by
  obtain ⟨ok, sm, np, dx, l, nl, h1, h2⟩ := x
  have e1 : p ≠ a := fun e => by rw [e, h] at np; cases np
  have e2 : l ≠ a := fun e => by rw [e, h] at nl; cases nl
  refine ⟨ok, fun b u e => ?_, by rw [upd_ne e1]; exact np, dx, l, by rw [upd_ne e2]; exact nl, by rw [upd_ne e1]; exact h1, by rw [upd_ne e2]; exact h2⟩
  by_cases hb : b = a
  · subst hb
    rw [upd_same] at e ⊢
    exact e
  · rw [upd_ne hb] at e ⊢
    exact sm _ _ e
theorem DecAt.mono (x : DecAt C H0 H q f s) (m : Same H H') : DecAt C H0 H' q f s := by
  obtain ⟨ok, sm, np, dx, l, src, xs, nl, ns, ne, h1, h2, h3, io⟩ := x
  exact ⟨ok, sm.trans m, np, dx, l, src, xs, nl, ns, ne, m _ _ h1, m _ _ h2, m _ _ h3, io⟩
theorem DecAt.weaken (x : DecAt C H0' H q f s) (m : Same H0 H0') : DecAt C H0 H q f s := by
  obtain ⟨ok, sm, np, dx, l, src, xs, nl, ns, ne, h1, h2, h3, io⟩ := x
  exact ⟨ok, m.trans sm, m.free np, dx, l, src, xs, m.free nl, m.free ns, ne, h1, h2, h3, io⟩
theorem DecAt.new (x : DecAt C H0 H q f s) (h : H a = none) : DecAt C (upd H0 a o) (upd H a o) q f s := by
  obtain ⟨ok, sm, np, dx, l, src, xs, nl, ns, ne, h1, h2, h3, io⟩ := x
  have e1 := ne_of_none h1 h
  have e2 := ne_of_none h2 h
  have e3 := ne_of_none h3 h
  refine ⟨ok, fun b u e => ?_, by rw [upd_ne e1]; exact np, dx, l, src, xs, by rw [upd_ne e2]; exact nl, by rw [upd_ne e3]; exact ns, ne, by rw [upd_ne e1]; exact h1, by rw [upd_ne e2]; exact h2, by rw [upd_ne e3]; exact h3, io⟩
  by_cases hb : b = a
  · subst hb
    rw [upd_same] at e ⊢
    exact e
  · rw [upd_ne hb] at e ⊢
    exact sm _ _ e
theorem DecAt.put (x : DecAt C H0 H q f s) (h : H0 a = some o') : DecAt C (upd H0 a o) (upd H a o) q f s := by
  obtain ⟨ok, sm, np, dx, l, src, xs, nl, ns, ne, h1, h2, h3, io⟩ := x
  have e1 : q ≠ a := fun e => by rw [e, h] at np; cases np
  have e2 : l ≠ a := fun e => by rw [e, h] at nl; cases nl
  have e3 : src ≠ a := fun e => by rw [e, h] at ns; cases ns
  refine ⟨ok, fun b u e => ?_, by rw [upd_ne e1]; exact np, dx, l, src, xs, by rw [upd_ne e2]; exact nl, by rw [upd_ne e3]; exact ns, ne, by rw [upd_ne e1]; exact h1, by rw [upd_ne e2]; exact h2, by rw [upd_ne e3]; exact h3, io⟩
  by_cases hb : b = a
  · subst hb
    rw [upd_same] at e ⊢
    exact e
  · rw [upd_ne hb] at e ⊢
    exact sm _ _ e
theorem same_two (m : Same H0 H) : Same (upd H0 a o) (upd H a o) := fun b u e => by
  by_cases hb : b = a
  · subst hb
    rw [upd_same] at e ⊢
    exact e
  · rw [upd_ne hb] at e ⊢
    exact m _ _ e
end
/-! ### a method called with keywords -/
def tMethN (C : Addr) (m : Str) (n j : Nat) (sp : Sp) (gV : List V → List V → List V) (E : XK) (ta : TE) (t tk : TA) : TE := fun σ H Q => ta σ H fun x H1 => ∃ a dx fs, x = .ref a ∧ H1 a = some (.ins C dx fs) ∧ fs.lookup m = none ∧
  t σ H1 fun vs H2 => tk σ H2 fun zs H3 => (x :: vs).length = n ∧ zs.length = j ∧ sp (gV (x :: vs) zs) H3 Q E
structure MetN (P : Program) (w : World) (K : PySem.W.Frag) (mg : Str → Option Value) (base : Heap) (k : Nat) (C : Addr) (m : Str) (n : Nat) (ks : List Str) (sp : Sp) : Prop where
  ex : ∃ (f : Addr) (fd : FuncData) (ps : List Str), Cls K C ∧ Meth K C m f ∧ FnOk P w K mg base C8.CX0 k f fd ps sp ∧ KBn K fd ps n ks (fun us ws => us ++ ws) (fun vs zs => vs ++ zs)
theorem pe_mtN {X : Cx} {k j n : Nat} {C : Addr} {m : Str} {ks : List Str} {sp : Sp} {pos apos : Pos} {e o : Expr} {es : List Expr} {kws : List Keyword} {ta : TE} {t tk : TA} {pl : Sem Bool} (c : MetN X.prog X.w X.K X.mg X.base k C m n ks sp) (hr : Room j X.A) (hk : k ≤ j) (he : PE X o ta) (ha : PA X (e :: es) t) (hkw : PK X kws tk)
    (hall : (backToKw pos (keywordEach kws X.env)).all (·.1.isSome) = true := by rfl) (hks : (backToKw pos (keywordEach kws X.env)).filterMap (·.1) = ks := by rfl)
    (hst : starEach (e :: es) X.env = (false, eval e X.env) :: starEach es X.env := by rfl)
    (hpl : ((backTo pos (starEach (e :: es) X.env)).any (·.1) || (backToKw pos (keywordEach kws X.env)).any (·.1.isNone)) = false := by rfl)
    (ht : eval (.Call (.Attribute o m apos) (e :: es) kws pos) X.env = (do
      let ov ← eval o X.env
      standAt apos.atName
      let (f, first) ← holding [ov] (getMethod ov m pl)
      callWith pos f first (backTo pos (starEach (e :: es) X.env)) (backToKw pos (keywordEach kws X.env))) := by rfl) :
    PE X (.Call (.Attribute o m apos) (e :: es) kws pos) (tMethN C m n ks.length sp (fun vs zs => vs ++ zs) C8.E0 ta t tk) := by
  obtain ⟨f, fd, ps, hc, hm, F, b⟩ := c.ex
  refine ⟨fun pins s σ H Q I h => ?_⟩
  refine PySem.W.methodCall_KW (pl := pl) (thn (he.run pins s σ H _ I h) fun u s1 ⟨x, H1, I1, rx, a, dx, fs, ex, ea, l, q⟩ => ?_) ht
  subst ex
  obtain rfl : u = Value.ref a := rx
  refine getmeth_ok I1 ea hc hm l ?_
  refine PySem.W.callWith_KW (first := [.ref a]) (h₀ := X.base) I.ok.mod.kin hm.kp hall (thn (ha.run pos pins s1 σ H1 _ I1 q) fun us s2 ⟨vs, H2, I2, r, q2⟩ => ?_) hpl hst
  refine thn (hkw.run pos pins s2 σ H2 _ I2 q2) fun ws s3 ⟨zs, H3, I3, rz, l1, l2, q3⟩ => ⟨I3.kIn, ?_⟩
  rw [hks]
  exact run_fnN (us := .ref a :: us) (vs := .ref a :: vs) F (hr.mono hk) b C8.pass0 I3 (.cons rfl r) rz l1 l2 q3
/-! ### what the top has left of the names -/
/-- a module's constant -/
def Kst (mg : Str → Option Value) (x : Str) (i : Int) : Prop := ∃ t, mg x = some (.int i t)
theorem pe_kst {X : Cx} {x : Str} {i : Int} {pos : Pos} (hg : Gl X x) (hm : Kst X.mg x i) (hdb : (x == ("__debug__" : Str)) = false := by decide) : PE X (.Name x pos) (tC (.int i)) := by
  obtain ⟨t, e⟩ := hm
  exact pe_glob (v := .int i) hg e ⟨_, rfl⟩ hdb
structure Txt (K : PySem.W.Frag) (mg : Str → Option Value) (CE CD CW CR : Addr) : Prop where
  clE : Cls K CE
  clD : Cls K CD
  clW : Cls K CW
  clR : Cls K CR
  eCh : NoAttr K CE "chances"
  eLo : NoAttr K CE "low"
  eSp : NoAttr K CE "span"
  eSh : NoAttr K CE "shifts"
  dCh : NoAttr K CD "chances"
  dSo : NoAttr K CD "source"
  dPl : NoAttr K CD "place"
  dSp : NoAttr K CD "span"
  dVa : NoAttr K CD "value"
  wE : NoAttr K CW "encoder"
  rD : NoAttr K CR "decoder"
  kSIG : Kst mg "SIGNIFICANT" 64
  kLAST : Kst mg "LAST" 128
  kLEVEL : Kst mg "LEVEL" 192
  kLEAST_LEVEL : Kst mg "LEAST_LEVEL" (-524288)
  kGREATEST_LEVEL : Kst mg "GREATEST_LEVEL" 524287
  kCONTEXTS : Kst mg "CONTEXTS" 256
  kEVEN : Kst mg "EVEN" 2048
  kFULL : Kst mg "FULL" 4294967295
  kLEAST : Kst mg "LEAST" 16777216
  kMAX : Kst mg "MAX_NUMBER" 1048576
  kPREFIX : Kst mg "PREFIX" 20
  len : mg "len" = none
  range : mg "range" = none
  min : mg "min" = none
  max : mg "max" = none
  abs : mg "abs" = none
  int : mg "int" = none
  list : mg "list" = none
  bool : mg "bool" = none
  any : mg "any" = none
  isinstance : mg "isinstance" = none
  reversed : mg "reversed" = none
  enumerate : mg "enumerate" = none
end K47
namespace K47
open PySem L2
open C8 (Cal Met Mak pe_c pe_mk pe_mt pe_mt0 fnScope pss_cut)
/-! ### tests whose answer is known -/
theorem iteD {c A B : Prop} [Decidable c] (hc : c) (h : A) : if decide c = true then A else B := by
  rw [decide_eq_true hc]
  exact iteT h
theorem iteDN {c A B : Prop} [Decidable c] (hc : ¬ c) (h : B) : if decide c = true then A else B := by
  rw [decide_eq_false hc]
  exact iteF h
theorem iteNSN {c A B : Prop} [Decidable c] (hc : ¬ c) (h : A) : if (!decide c) = true then A else B := by
  rw [decide_eq_false hc]
  exact iteT h
/-! ### the encoder's attributes -/
theorem eF_ch (l : Addr) (s : CS) : (eF l s).lookup ("chances" : Str) = some (.ref l) := look_z (i := 0) (by decide +kernel) rfl
theorem eF_low (l : Addr) (s : CS) : (eF l s).lookup ("low" : Str) = some (.int s.low) := look_z (i := 1) (by decide +kernel) rfl
theorem eF_span (l : Addr) (s : CS) : (eF l s).lookup ("span" : Str) = some (.int s.span) := look_z (i := 2) (by decide +kernel) rfl
theorem eF_sh (l : Addr) (s : CS) : (eF l s).lookup ("shifts" : Str) = some (.int (s.sh : Int)) := look_z (i := 3) (by decide +kernel) rfl
theorem eF_no (l : Addr) (s : CS) {m : Str} (h : ixS m eN = none) : (eF l s).lookup m = none := no_z h
theorem eF_len (l : Addr) (s : CS) : (eF l s).length < 1000 := by show 4 < 1000; decide
theorem eF_plow (l : Addr) (s : CS) (v : Int) : putF "low" (.int v) (eF l s) = eF l ⟨s.ch, v, s.span, s.sh⟩ := put_z (i := 1) (by decide +kernel) rfl
theorem eF_pspan (l : Addr) (s : CS) (v : Int) : putF "span" (.int v) (eF l s) = eF l ⟨s.ch, s.low, v, s.sh⟩ := put_z (i := 2) (by decide +kernel) rfl
theorem eF_psh (l : Addr) (s : CS) (v : Nat) : putF "shifts" (.int (v : Int)) (eF l s) = eF l ⟨s.ch, s.low, s.span, v⟩ := put_z (i := 3) (by decide +kernel) rfl
section
variable {P : Program} {w : World} {K : PySem.W.Frag} {mg : Str → Option Value} {base : Heap} {CE CD CW CR : Addr} {f : Addr} {fd : FuncData}
/-! ### adapted, check_context, check_decision -/
def spAdapted : Sp := fun vs H Q _ => ∃ (p : Int) (b : Bool), vs = [.int p, .int (bit b)] ∧ Q (.int (adapt p b)) H
theorem scAdapted : FnScope ["probability", "decision"] ["probability", "decision"] (fnScope sAdapted) := C8.fnScope_by (by decide +kernel)
theorem cal_adapted (F : C8.Def K mg "adapted" sAdapted f fd) (b : Binds K fd ["probability", "decision"] []) : Cal P w K mg base 1 "adapted" spAdapted [] := by
  refine C8.cal0 F b .nil scAdapted (fun vs H Q E h => ?_) (fun cdv A outer s H vs Q E hr h => ?_)
  · obtain ⟨p, b, rfl, _⟩ := h
    rfl
  · obtain ⟨p, b, rfl, k⟩ := h
    refine ⟨_, pss_cons (ps_if (pt_cmpR op_eq (pv 1) pe_int (nomark _)) (pss_one (ps_ret (pe_op op_add (pv 0) (pe_op op_shr (pe_op op_sub pe_int (pv 0)) pe_int)))) pss_nil)
      (pss_one (ps_ret (pe_op op_sub (pv 0) (pe_op op_shr (pv 0) pe_int)))), ?_⟩
    refine ⟨_, rfl, rfl, _, rfl, ?_⟩
    cases b
    · refine iteT ?_
      refine ⟨_, rfl, _, rfl, _, _, rfl, rfl, _, _, rfl, rfl, (by show (0 : Int) ≤ 5; decide), _, _, rfl, rfl, ?_⟩
      exact k
    · refine iteF ?_
      refine ⟨_, rfl, _, rfl, _, _, rfl, rfl, (by show (0 : Int) ≤ 5; decide), _, _, rfl, rfl, ?_⟩
      exact k
def spChkContext : Sp := fun vs H Q _ => ∃ c : Nat, vs = [.int (c : Int)] ∧ c < 256 ∧ Q .non H
theorem scChkContext : FnScope ["context"] ["context"] (fnScope sChkContext) := C8.fnScope_by (by decide +kernel)
theorem cal_chkContext (F : C8.Def K mg "check_context" sChkContext f fd) (b : Binds K fd ["context"] []) (T : Txt K mg CE CD CW CR) : Cal P w K mg base 1 "check_context" spChkContext [] := by
  refine C8.cal0 F b .nil scChkContext (fun vs H Q E h => ?_) (fun cdv A outer s H vs Q E hr h => ?_)
  · obtain ⟨c, rfl, _⟩ := h
    rfl
  · obtain ⟨c, rfl, hc, k⟩ := h
    refine ⟨_, pss_one (ps_if (pt_not (pt_chain op_le op_lt pe_int (pv 0) (pe_kst (by rfl) T.kCONTEXTS))) (pss_one ps_never) pss_nil), ?_⟩
    refine ⟨_, rfl, _, _, rfl, rfl, _, rfl, iteD (by omega) ?_⟩
    refine ⟨_, _, rfl, rfl, _, rfl, ?_⟩
    exact iteNS (by omega) k
def spChkDecision : Sp := fun vs H Q _ => ∃ b : Bool, vs = [.int (bit b)] ∧ Q .non H
theorem scChkDecision : FnScope ["decision"] ["decision"] (fnScope sChkDecision) := C8.fnScope_by (by decide +kernel)
theorem bit_bd (b : Bool) : 0 ≤ bit b ∧ bit b ≤ 1 := by cases b <;> decide
theorem cal_chkDecision (F : C8.Def K mg "check_decision" sChkDecision f fd) (b : Binds K fd ["decision"] []) : Cal P w K mg base 1 "check_decision" spChkDecision [] := by
  refine C8.cal0 F b .nil scChkDecision (fun vs H Q E h => ?_) (fun cdv A outer s H vs Q E hr h => ?_)
  · obtain ⟨c, rfl, _⟩ := h
    rfl
  · obtain ⟨c, rfl, k⟩ := h
    refine ⟨_, pss_one (ps_if (pt_not (pt_chain op_le op_le pe_int (pv 0) pe_int)) (pss_one ps_never) pss_nil), ?_⟩
    refine ⟨_, rfl, _, _, rfl, rfl, _, rfl, iteD (bit_bd c).1 ?_⟩
    refine ⟨_, _, rfl, rfl, _, rfl, ?_⟩
    exact iteNS (bit_bd c).2 k
/-! ### Encoder.step -/
def spEStep (C : Addr) : Sp := fun vs H Q _ => ∃ (H0 : Hp) (p : Addr) (s : CS) (pr : Int) (b : Bool), vs = [.ref p, .int pr, .int (bit b)] ∧ EncAt C H0 H p s ∧ 31 ≤ pr ∧ pr ≤ 4065 ∧ ∀ H', EncAt C H0 H' p (stp s pr b) → Q .non H'
theorem scEStep : FnScope ["self", "probability", "decision", "part"] ["self", "probability", "decision"] (fnScope sEStep) := C8.fnScope_by (by decide +kernel)
theorem met_eStep (F : C8.Fun K "step" "Encoder.step" sEStep f fd) (b : Binds K fd ["self", "probability", "decision"] []) (m : Meth K CE "step" f) (T : Txt K mg CE CD CW CR) : Met P w K mg base 1 CE "step" (spEStep CE) [] := by
  refine C8.met0 T.clE m F b scEStep (fun vs H Q E h => ?_) (fun cdv A outer s H vs Q E hr h => ?_)
  · obtain ⟨H0, p, s, pr, b, rfl, _⟩ := h
    rfl
  · obtain ⟨H0, p, s, pr, b, rfl, ⟨ok, sm, np, dx, l, nl, h1, h2⟩, p1, p2, k⟩ := h
    refine ⟨_, pss_cons (ps_set (i := 3) scEStep.nd rfl (Or.inl rfl) (pe_op op_mul (pe_op op_shr (pe_fld (pv 0) rfl) pe_int) (pv 1)))
      (pss_cut (ps_if (pt_cmpR op_eq (pv 2) pe_int (nomark _)) (pss_one (ps_fld (pv 0) (pv 3) rfl)) (pss_cons (ps_fldaug (pv 0) (pv 3) in_add) (pss_one (ps_fldaug (pv 0) (pv 3) in_sub))))
      (pss_one (ps_while PassesOwn.never (pt_cmpR op_lt (pe_fld (pv 0) rfl) (pe_kst (by rfl) T.kLEAST) (nomark _))
        (pss_cons (ps_fld (pv 0) (pe_op op_mul (pe_fld (pv 0) rfl) pe_int) rfl) (pss_cons (ps_fld (pv 0) (pe_op op_mul (pe_fld (pv 0) rfl) pe_int) rfl) (pss_one (ps_fldaug (pv 0) pe_int in_add))))))), ?_⟩
    have e12 : (2 : Int) ^ (12 : Int).toNat = 4096 := by decide
    have hpl : p ≠ l := ne_of h1 h2 (by intro z; cases z)
    have go : ∀ s1 : CS, s1.ch = s.ch → ∀ H' : Hp, H' = upd H p (.ins CE dx (eF l s1)) → Same H0 H' ∧ H' p = some (.ins CE dx (eF l s1)) ∧ H' l = some (.lst (s.ch.map V.int)) := by
      intro s1 _ H' e
      subst e
      refine ⟨fun x u e => ?_, upd_same, by rw [upd_ne hpl.symm]; exact h2⟩
      rw [upd_ne fun z => by rw [z, np] at e; cases e]
      exact sm _ _ e
    have bd := split_bd (s := s) b ok.sp1 p1 p2
    refine ⟨_, rfl, p, CE, dx, _, _, rfl, h1, T.clE, T.eSp, eF_span _ _, _, _, rfl, rfl, (by show (0 : Int) ≤ 12; decide), _, rfl, _, _, rfl, rfl, .inr ⟨by omega, by omega⟩, ?_⟩
    refine ⟨fun σ' H' => σ' = [some (.ref p), some (.int pr), some (.int (bit b)), some (.int (part s pr))] ∧ H' = upd H p (.ins CE dx (eF l (spl s pr b))), ?_, ?_⟩
    · rw [e12]
      refine ⟨_, rfl, rfl, _, rfl, ?_⟩
      cases b
      · refine iteT ?_
        refine ⟨_, rfl, _, rfl, p, CE, dx, _, rfl, h1, T.clE, T.eSp, eF_len _ _, rfl, ?_⟩
        rw [eF_pspan]
        rfl
      · refine iteF ?_
        refine ⟨_, rfl, p, CE, dx, _, _, rfl, h1, T.clE, T.eLo, eF_low _ _, _, rfl, _, _, rfl, rfl, dx, _, h1, eF_len _ _, ?_⟩
        refine ⟨_, rfl, p, CE, dx, _, _, rfl, upd_same, T.clE, T.eSp, (by rw [eF_plow]; exact eF_span _ _), _, rfl, _, _, rfl, rfl, dx, _, upd_same, (by rw [eF_plow]; exact eF_len _ _), rfl, ?_⟩
        rw [eF_plow, eF_pspan, upd_upd]
        rfl
    · rintro σ' H' ⟨rfl, rfl⟩
      refine ⟨fun m σ' H' => σ' = [some (.ref p), some (.int pr), some (.int (bit b)), some (.int (part s pr))] ∧ ((m = 1 ∧ H' = upd H p (.ins CE dx (eF l (spl s pr b)))) ∨ (m = 0 ∧ (spl s pr b).span < 16777216 ∧ H' = upd H p (.ins CE dx (eF l (nrm (spl s pr b)))))), ⟨1, rfl, .inl ⟨rfl, rfl⟩⟩, ?_⟩
      rintro m σ' H' ⟨rfl, ⟨rfl, rfl⟩ | ⟨rfl, lt, rfl⟩⟩
      · refine ⟨_, rfl, p, CE, dx, _, _, rfl, upd_same, T.clE, T.eSp, eF_span _ _, _, _, rfl, rfl, _, rfl, ?_⟩
        by_cases lt : (spl s pr b).span < 16777216
        · refine iteD lt ?_
          refine ⟨fun σ' H' => σ' = [some (.ref p), some (.int pr), some (.int (bit b)), some (.int (part s pr))] ∧ H' = upd H p (.ins CE dx (eF l (nrm (spl s pr b)))), ?_, ?_⟩
          · rintro σ' H' ⟨rfl, rfl⟩
            exact ⟨0, by decide, rfl, .inr ⟨rfl, lt, rfl⟩⟩
          · refine ⟨_, rfl, p, CE, dx, _, _, rfl, upd_same, T.clE, T.eLo, eF_low _ _, _, _, rfl, rfl, .inr ⟨by decide, by decide⟩, _, rfl, p, CE, dx, _, rfl, upd_same, T.clE, T.eLo, eF_len _ _, ?_⟩
            rw [eF_plow, upd_upd]
            refine ⟨_, rfl, p, CE, dx, _, _, rfl, upd_same, T.clE, T.eSp, eF_span _ _, _, _, rfl, rfl, .inr ⟨by decide, by decide⟩, _, rfl, p, CE, dx, _, rfl, upd_same, T.clE, T.eSp, eF_len _ _, ?_⟩
            rw [eF_pspan, upd_upd]
            refine ⟨_, rfl, p, CE, dx, _, _, rfl, upd_same, T.clE, T.eSh, eF_sh _ _, _, _, rfl, rfl, dx, _, upd_same, eF_len _ _, rfl, ?_⟩
            have en : nrm (spl s pr b) = ⟨(spl s pr b).ch, (spl s pr b).low * 256, (spl s pr b).span * 256, (spl s pr b).sh + 1⟩ := if_pos lt
            rw [en, ← eF_psh l ⟨(spl s pr b).ch, (spl s pr b).low * 256, (spl s pr b).span * 256, (spl s pr b).sh⟩ ((spl s pr b).sh + 1), upd_upd]
            rfl
        · refine iteDN lt ?_
          have en : nrm (spl s pr b) = spl s pr b := if_neg lt
          obtain ⟨g1, g2, g3⟩ := go (spl s pr b) (split_ch _ _ _) _ rfl
          refine k _ ⟨stp_ok b ok p1 p2, g1, np, dx, l, nl, ?_, ?_⟩
          · show _ = some (HO.ins CE dx (eF l (nrm (spl s pr b))))
            rw [en]
            exact g2
          · rw [stp_ch]
            exact g3
      · refine ⟨_, rfl, p, CE, dx, _, _, rfl, upd_same, T.clE, T.eSp, eF_span _ _, _, _, rfl, rfl, _, rfl, ?_⟩
        have o := stp_ok b ok p1 p2
        refine iteDN (show ¬ (stp s pr b).span < 16777216 by have := o.sp1; omega) ?_
        obtain ⟨g1, g2, g3⟩ := go (nrm (spl s pr b)) (by rw [norm_ch, split_ch]) _ rfl
        exact k _ ⟨o, g1, np, dx, l, nl, g2, by rw [stp_ch]; exact g3⟩
end
end K47
namespace K47
open PySem L2
open C8 (Cal Met Mak pe_c pe_mk pe_mt pe_mt0 fnScope pss_cut)
section
variable {P : Program} {w : World} {K : PySem.W.Frag} {mg : Str → Option Value} {base : Heap} {CE CD CW CR : Addr} {f : Addr} {fd : FuncData}
/-! ### Encoder.__init__ -/
def spEInit (C : Addr) : Sp := fun vs H Q _ => ∃ (H0 : Hp) (p dx : Addr), vs = [.ref p] ∧ Same H0 H ∧ H0 p = none ∧ H p = some (.ins C dx []) ∧ ∀ H', EncAt C H0 H' p cs0 → Q .non H'
theorem scEInit : FnScope ["self"] ["self"] (fnScope sEInit) := C8.fnScope_by (by decide +kernel)
theorem flat256 : (List.replicate (256 : Int).toNat [V.int 2048]).flatten = cs0.ch.map V.int := by
  show (List.replicate 256 [V.int 2048]).flatten = (List.replicate 256 2048).map V.int
  rw [List.map_replicate]
  decide
theorem fn_eInit (F : C8.Fun K "__init__" "Encoder.__init__" sEInit f fd) (T : Txt K mg CE CD CW CR) : FnOk P w K mg base C8.CX0 1 f fd ["self"] (spEInit CE) := by
  refine C8.fn0 F scEInit (fun vs H Q E h => ?_) (fun cdv A outer s H vs Q E hr h => ?_)
  · obtain ⟨H0, p, dx, rfl, _⟩ := h
    rfl
  · obtain ⟨H0, p, dx, rfl, sm, np, hp, k⟩ := h
    refine ⟨_, pss_cons (ps_fld (pv 0) (pe_op op_rep (pe_lst (pa_cons (pe_kst (by rfl) T.kEVEN) pa_nil)) (pe_kst (by rfl) T.kCONTEXTS)) rfl)
      (pss_cons (ps_fld (pv 0) pe_int rfl) (pss_cons (ps_fld (pv 0) (pe_kst (by rfl) T.kFULL) rfl) (pss_one (ps_fld (pv 0) pe_int rfl)))), ?_⟩
    refine ⟨(by show 1 ≤ sizeLine; decide), fun l0 n0 => ?_⟩
    have pl0 : p ≠ l0 := ne_of_none hp n0
    refine ⟨l0, _, _, rfl, rfl, upd_same, by decide, by decide, (by show 1 * 256 ≤ sizeLine; decide), fun l nl => ?_⟩
    have ll0 : l ≠ l0 := fun e => by
      rw [e, upd_same] at nl
      cases nl
    have nl' : H l = none := by
      rw [upd_ne ll0] at nl
      exact nl
    have pl : p ≠ l := ne_of_none hp nl'
    rw [flat256]
    refine ⟨_, rfl, p, CE, dx, _, rfl, (by rw [upd_ne pl, upd_ne pl0]; exact hp), T.clE, T.eCh, (by show 0 < 1000; decide), ?_⟩
    refine ⟨_, rfl, p, CE, dx, _, rfl, upd_same, T.clE, T.eLo, (by show 1 < 1000; decide), ?_⟩
    rw [upd_upd]
    refine ⟨_, rfl, p, CE, dx, _, rfl, upd_same, T.clE, T.eSp, ?_, ?_⟩
    · rw [show putF "low" (V.int 0) (putF "chances" (V.ref l) []) = (["chances", "low"] : List Str).zip [V.ref l, V.int 0] from add_z (ns := ["chances"]) (vs := [V.ref l]) (by decide +kernel) rfl]
      show 2 < 1000
      decide
    rw [upd_upd, show putF "low" (V.int 0) (putF "chances" (V.ref l) []) = (["chances", "low"] : List Str).zip [V.ref l, V.int 0] from add_z (ns := ["chances"]) (vs := [V.ref l]) (by decide +kernel) rfl,
      add_z (ns := ["chances", "low"]) (vs := [V.ref l, V.int 0]) (by decide +kernel) rfl]
    refine ⟨_, rfl, p, CE, dx, _, rfl, upd_same, T.clE, T.eSh, (by show 3 < 1000; decide), ?_⟩
    rw [upd_upd, add_z (by decide +kernel) rfl]
    refine k _ ⟨ok0, fun b u e => ?_, np, dx, l, sm.free nl', upd_same, ?_⟩
    · rw [upd_ne fun z => by rw [z, np] at e; cases e]
      have := sm _ _ e
      rw [upd_ne (ne_of_none this nl'), upd_ne (ne_of_none this n0)]
      exact this
    · rw [upd_ne pl.symm, upd_same]
/-! ### Encoder.code, code_even -/
def spECode (C : Addr) : Sp := fun vs H Q _ => ∃ (H0 : Hp) (p : Addr) (s : CS) (c : Nat) (b : Bool), vs = [.ref p, .int (c : Int), .int (bit b)] ∧ EncAt C H0 H p s ∧ c < 256 ∧ ∀ H', EncAt C H0 H' p (stepC s (some c, b)) → Q .non H'
theorem scECode : FnScope ["self", "context", "decision", "chance"] ["self", "context", "decision"] (fnScope sECode) := C8.fnScope_by (by decide +kernel)
theorem ch_at {s : CS} {c : Nat} (ok : Ok s) (hc : c < 256) : atI (s.ch.map V.int) (c : Int) = some (V.int (chance s (some c))) := by
  refine atI_nat ?_
  have h : c < s.ch.length := by rw [ok.len]; exact hc
  rw [List.getElem?_map, List.getElem?_eq_getElem h]
  show some (V.int s.ch[c]) = some (V.int (s.ch.getD c 2048))
  rw [List.getD_eq_getElem?_getD, List.getElem?_eq_getElem h]
  rfl
theorem ixN_nat {n j : Nat} (h : j < n) : ixN n (j : Int) = some j := by
  unfold ixN
  rw [if_pos (by omega), if_pos (by omega)]
  simp
theorem met_eCode (F : C8.Fun K "code" "Encoder.code" sECode f fd) (b : Binds K fd ["self", "context", "decision"] []) (m : Meth K CE "code" f) (T : Txt K mg CE CD CW CR)
    (c1 : Cal P w K mg base 1 "check_context" spChkContext []) (c2 : Cal P w K mg base 1 "check_decision" spChkDecision []) (c3 : Met P w K mg base 1 CE "step" (spEStep CE) []) (c4 : Cal P w K mg base 1 "adapted" spAdapted []) : Met P w K mg base 2 CE "code" (spECode CE) [] := by
  refine C8.met0 T.clE m F b scECode (fun vs H Q E h => ?_) (fun cdv A outer s H vs Q E hr h => ?_)
  · obtain ⟨H0, p, s, c, b, rfl, _⟩ := h
    rfl
  · obtain ⟨H0, p, s, c, b, rfl, R, hc, k⟩ := h
    obtain ⟨ok, sm, np, dx, l, nl, h1, h2⟩ := id R
    refine ⟨_, pss_cons (ps_expr (pe_c c1 hr (by decide) (by rfl) (pa_cons (pv 1) pa_nil)))
      (pss_cons (ps_expr (pe_c c2 hr (by decide) (by rfl) (pa_cons (pv 2) pa_nil)))
      (pss_cons (ps_set (i := 3) scECode.nd rfl (Or.inl rfl) (pe_ix ix_list (pe_fld (pv 0) rfl) (pv 1) (fun _ _ => rfl)))
      (pss_cons (ps_expr (pe_mt c3 hr (by decide) (pv 0) (pa_cons (pv 3) (pa_cons (pv 2) pa_nil))))
      (pss_one (ps_asg (pe_c c4 hr (by decide) (by rfl) (pa_cons (pv 3) (pa_cons (pv 2) pa_nil))) (pg_sub (pe_fld (pv 0) rfl) (pv 1) set_list)))))), ?_⟩
    refine ⟨_, rfl, c, rfl, hc, ?_⟩
    refine ⟨_, rfl, b, rfl, ?_⟩
    refine ⟨_, rfl, p, CE, dx, _, _, rfl, h1, T.clE, T.eCh, eF_ch _ _, _, rfl, l, _, _, _, rfl, rfl, SqL.of h2, ch_at ok hc, ?_⟩
    have cb := chance_ok ok (some c)
    refine ⟨_, rfl, p, dx, _, rfl, h1, eF_no _ _ (by decide +kernel), _, rfl, _, rfl, H0, p, s, _, b, rfl, R, cb.1, cb.2, fun H1 R1 => ?_⟩
    obtain ⟨ok1, sm1, np1, dx1, l1, nl1, g1, g2⟩ := id R1
    refine ⟨_, rfl, _, rfl, _, b, rfl, ?_⟩
    refine ⟨_, rfl, p, CE, dx1, _, _, rfl, g1, T.clE, T.eCh, eF_ch _ _, _, rfl, l1, _, _, c, rfl, rfl, g2, ixN_nat (by rw [List.length_map, stp_ch, ok.len]; exact hc), ?_⟩
    have pl1 : p ≠ l1 := ne_of g1 g2 (by intro z; cases z)
    have es : ((stp s (chance s (some c)) b).ch.map V.int).set c (V.int (adapt (chance s (some c)) b)) = (stepC s (some c, b)).ch.map V.int := by
      rw [← List.map_set]
      rfl
    refine k _ ⟨stepC_ok ok _, fun x u e => ?_, np, dx1, l1, nl1, ?_, ?_⟩
    · rw [upd_ne fun z => by rw [z, nl1] at e; cases e]
      exact sm1 _ _ e
    · rw [upd_ne pl1]
      exact g1
    · rw [upd_same, es]
def spEEven (C : Addr) : Sp := fun vs H Q _ => ∃ (H0 : Hp) (p : Addr) (s : CS) (b : Bool), vs = [.ref p, .int (bit b)] ∧ EncAt C H0 H p s ∧ ∀ H', EncAt C H0 H' p (stepC s (none, b)) → Q .non H'
theorem scEEven : FnScope ["self", "decision"] ["self", "decision"] (fnScope sEEven) := C8.fnScope_by (by decide +kernel)
theorem met_eEven (F : C8.Fun K "code_even" "Encoder.code_even" sEEven f fd) (b : Binds K fd ["self", "decision"] []) (m : Meth K CE "code_even" f) (T : Txt K mg CE CD CW CR)
    (c2 : Cal P w K mg base 1 "check_decision" spChkDecision []) (c3 : Met P w K mg base 1 CE "step" (spEStep CE) []) : Met P w K mg base 2 CE "code_even" (spEEven CE) [] := by
  refine C8.met0 T.clE m F b scEEven (fun vs H Q E h => ?_) (fun cdv A outer s H vs Q E hr h => ?_)
  · obtain ⟨H0, p, s, b, rfl, _⟩ := h
    rfl
  · obtain ⟨H0, p, s, b, rfl, R, k⟩ := h
    obtain ⟨ok, sm, np, dx, l, nl, h1, h2⟩ := id R
    refine ⟨_, pss_cons (ps_expr (pe_c c2 hr (by decide) (by rfl) (pa_cons (pv 1) pa_nil)))
      (pss_one (ps_expr (pe_mt c3 hr (by decide) (pv 0) (pa_cons (pe_kst (by rfl) T.kEVEN) (pa_cons (pv 1) pa_nil))))), ?_⟩
    refine ⟨_, rfl, b, rfl, ?_⟩
    refine ⟨_, rfl, p, dx, _, rfl, h1, eF_no _ _ (by decide +kernel), _, rfl, H0, p, s, _, b, rfl, R, by decide, by decide, fun H1 R1 => ?_⟩
    exact k _ R1
/-! ### Encoder.octets -/
def spEOct (C : Addr) : Sp := fun vs H Q _ => ∃ (H0 : Hp) (p : Addr) (s : CS), vs = [.ref p] ∧ EncAt C H0 H p s ∧ s.sh ≤ 1000000 ∧ ∀ (q : Addr) (xs : List Int), H q = none → IsOct s xs → Q (.ref q) (upd H q (.lst (xs.map V.int)))
theorem scEOct : FnScope ["self", "rest", "octets", "_"] ["self"] (fnScope sEOctets) := C8.fnScope_by (by decide +kernel)
theorem int_eq_iff {i j : Int} : (V.int i = V.int j) ↔ i = j := ⟨fun h => by injection h, fun h => by rw [h]⟩
theorem met_eOct (F : C8.Fun K "octets" "Encoder.octets" sEOctets f fd) (b : Binds K fd ["self"] []) (m : Meth K CE "octets" f) (T : Txt K mg CE CD CW CR) : Met P w K mg base 1 CE "octets" (spEOct CE) [] := by
  refine C8.met0 T.clE m F b scEOct (fun vs H Q E h => ?_) (fun cdv A outer s H vs Q E hr h => ?_)
  · obtain ⟨H0, p, s, rfl, _⟩ := h
    rfl
  · obtain ⟨H0, p, s, rfl, ⟨ok, sm, np, dx, l, nl, h1, h2⟩, hb, k⟩ := h
    refine ⟨_, pss_cons (ps_set (i := 1) scEOct.nd rfl (Or.inl rfl) (pe_fld (pv 0) rfl))
      (pss_cons (ps_set (i := 2) scEOct.nd rfl (Or.inl rfl) (pe_lst pa_nil))
      (pss_cons (ps_for PassesOwn.never rfl (pi_range1 rfl T.range (pa_cons (pe_op op_add (pe_fld (pv 0) rfl) pe_int) pa_nil)) (pg_name (i := 3) scEOct.nd rfl (Or.inl rfl))
        (pss_cons (ps_expr (pe_bm PySem.F.plainAttrs_list PySem.F.slot_list_append PySem.F.type_list_append mt_append (pv 2) (pa_cons (pe_op op_andM (pv 1) pe_int) pa_nil)))
        (pss_one (ps_set (i := 1) scEOct.nd rfl (Or.inl rfl) (pe_op op_shrN (pv 1) pe_int)))))
      (pss_cons (ps_expr (pe_bm0 PySem.F.plainAttrs_list PySem.F.slot_list_reverse PySem.F.type_list_reverse mt_reverse (pv 2)))
      (pss_cons (ps_while PassesOwn.never (PW.pt (pw_and (pt_truth (pv 2) (by intro _; rfl)) (pw_and1 (pt_cmpR op_eq (pe_ix ix_list (pv 2) (pe_un un_neg pe_int) (fun _ _ => rfl)) pe_int (nomark _)))))
        (pss_one (ps_expr (pe_bm0 PySem.F.plainAttrs_list PySem.F.slot_list_pop PySem.F.type_list_pop mt_pop (pv 2)))))
      (pss_one (ps_ret (pv 2))))))), ?_⟩
    have e8 : (2 : Int) ^ 8 = 256 := by decide
    refine ⟨_, rfl, p, CE, dx, _, _, rfl, h1, T.clE, T.eLo, eF_low _ _, ?_⟩
    refine ⟨(by show 0 ≤ sizeLine; decide), fun q nq => ?_⟩
    have pq : p ≠ q := ne_of_none h1 nq
    refine ⟨_, rfl, p, CE, dx, _, _, rfl, (by rw [upd_ne pq]; exact h1), T.clE, T.eSh, eF_sh _ _, _, _, rfl, rfl, ((s.sh + 4 : Nat) : Int), rfl, by omega, by omega, ?_⟩
    refine for_range (lo := 0) (n := s.sh + 4) (fun i σ H' => ∃ v : Option V, σ = [some (.ref p), some (.int (s.low / 256 ^ i)), some (.ref q), v] ∧ H' = upd H q (.lst ((leD s.low i).map V.int))) ⟨none, ?_, rfl⟩ ?_ ?_
    · rw [Int.pow_zero, Int.ediv_one]
      rfl
    · rintro i σ H' hi ⟨v, rfl, rfl⟩
      refine ⟨_, rfl, .inl ⟨rfl, _, SqL.of upd_same⟩, _, rfl, _, 8, rfl, rfl, q, _, _, rfl, rfl, upd_same, ?_, ?_⟩
      · rw [List.length_map, leD_len]
        exact Nat.lt_of_le_of_lt (show i ≤ 1000004 by omega) (by decide)
      refine ⟨_, rfl, _, 8, rfl, rfl, ?_⟩
      rw [upd_upd, e8]
      refine ⟨some (V.int (0 + (i : Int))), ?_, ?_⟩
      · rw [Int.pow_succ, ← Int.ediv_ediv_of_nonneg (Int.le_of_lt (pow_pos i))]
        rfl
      · rw [leD_succ, List.map_append]
        rfl
    · rintro σ H' ⟨v, rfl, rfl⟩
      refine ⟨_, rfl, .inl ⟨rfl, _, SqL.of upd_same⟩, q, _, rfl, rfl, upd_same, ?_⟩
      rw [upd_upd]
      refine ⟨fun n σ' H' => ∃ (xs : List Int) (z : Nat), σ' = [some (.ref p), some (.int (s.low / 256 ^ (s.sh + 4))), some (.ref q), v] ∧ H' = upd H q (.lst (xs.map V.int)) ∧ n = xs.length ∧ (leD s.low (s.sh + 4)).reverse = xs ++ List.replicate z 0, ⟨_, (leD s.low (s.sh + 4)).reverse, 0, rfl, by rw [List.map_reverse], rfl, by simp⟩, ?_⟩
      rintro n σ' H' ⟨xs, z, rfl, rfl, rfl, hx⟩
      refine ⟨_, rfl, !(xs.map V.int).isEmpty, .inl ⟨_, SqL.of upd_same, rfl⟩, ?_⟩
      have done : Q (.ref q) (upd H q (.lst (xs.map V.int))) := k q xs nq (isOct_of hx)
      by_cases he : xs = []
      · subst he
        exact iteF ⟨_, rfl, done⟩
      · obtain ⟨ys, y, rfl⟩ : ∃ ys y, xs = ys ++ [y] := ⟨xs.dropLast, xs.getLast he, (List.dropLast_concat_getLast he).symm⟩
        rw [show (!((ys ++ [y]).map V.int).isEmpty) = true by simp]
        refine iteT ?_
        refine ⟨_, rfl, _, rfl, q, _, _, _, rfl, rfl, SqL.of upd_same, (by rw [List.map_append]; exact atI_last _ _), rfl, _, rfl, ?_⟩
        by_cases hy : y = 0
        · refine iteD (int_eq_iff.mpr hy) ?_
          refine ⟨fun σ' H' => σ' = [some (.ref p), some (.int (s.low / 256 ^ (s.sh + 4))), some (.ref q), v] ∧ H' = upd H q (.lst (ys.map V.int)), ?_, ?_⟩
          · rintro σ' H' ⟨rfl, rfl⟩
            refine ⟨ys.length, by simp, ys, z + 1, rfl, rfl, rfl, ?_⟩
            rw [hx, hy, List.append_assoc]
            rfl
          · refine ⟨_, rfl, .inl ⟨rfl, _, SqL.of upd_same⟩, q, _, V.int y, rfl, rfl, upd_same, ?_, rfl, ?_⟩
            · simp
            · rw [upd_upd, List.map_append]
              simp
        · exact iteDN (fun e => hy (int_eq_iff.mp e)) ⟨_, rfl, done⟩
end
end K47
namespace K47
open PySem L2
open C8 (Cal Met Mak pe_c pe_mk pe_mt pe_mt0 fnScope pss_cut)
def gF (l src : Addr) (pl : Nat) (sp va : Int) : List (Str × V) := dN.zip [.ref l, .ref src, .int (pl : Int), .int sp, .int va]
theorem dF_g (l src : Addr) (f s : CS) : dF l src f s = gF l src (s.sh + 4) s.span (dval f s) := rfl
theorem gF_ch (l src : Addr) (pl : Nat) (sp va : Int) : (gF l src pl sp va).lookup ("chances" : Str) = some (.ref l) := look_z (i := 0) (by decide +kernel) rfl
theorem gF_so (l src : Addr) (pl : Nat) (sp va : Int) : (gF l src pl sp va).lookup ("source" : Str) = some (.ref src) := look_z (i := 1) (by decide +kernel) rfl
theorem gF_pl (l src : Addr) (pl : Nat) (sp va : Int) : (gF l src pl sp va).lookup ("place" : Str) = some (.int (pl : Int)) := look_z (i := 2) (by decide +kernel) rfl
theorem gF_sp (l src : Addr) (pl : Nat) (sp va : Int) : (gF l src pl sp va).lookup ("span" : Str) = some (.int sp) := look_z (i := 3) (by decide +kernel) rfl
theorem gF_va (l src : Addr) (pl : Nat) (sp va : Int) : (gF l src pl sp va).lookup ("value" : Str) = some (.int va) := look_z (i := 4) (by decide +kernel) rfl
theorem gF_no (l src : Addr) (pl : Nat) (sp va : Int) {m : Str} (h : ixS m dN = none) : (gF l src pl sp va).lookup m = none := no_z h
theorem gF_len (l src : Addr) (pl : Nat) (sp va : Int) : (gF l src pl sp va).length < 1000 := by show 5 < 1000; decide
theorem gF_ppl (l src : Addr) (pl pl' : Nat) (sp va : Int) : putF "place" (.int (pl' : Int)) (gF l src pl sp va) = gF l src pl' sp va := put_z (i := 2) (by decide +kernel) rfl
theorem gF_psp (l src : Addr) (pl : Nat) (sp sp' va : Int) : putF "span" (.int sp') (gF l src pl sp va) = gF l src pl sp' va := put_z (i := 3) (by decide +kernel) rfl
theorem gF_pva (l src : Addr) (pl : Nat) (sp va va' : Int) : putF "value" (.int va') (gF l src pl sp va) = gF l src pl sp va' := put_z (i := 4) (by decide +kernel) rfl
section
variable {P : Program} {w : World} {K : PySem.W.Frag} {mg : Str → Option Value} {base : Heap} {CE CD CW CR : Addr} {f : Addr} {fd : FuncData}
/-! ### Decoder.following -/
def spDFol (C : Addr) : Sp := fun vs H Q _ => ∃ (q dx src : Addr) (fs : List (Str × V)) (xs : List Int) (k : Nat), vs = [.ref q] ∧ H q = some (.ins C dx fs) ∧ fs.lookup ("source" : Str) = some (V.ref src) ∧ fs.lookup ("place" : Str) = some (V.int (k : Int)) ∧ H src = some (.lst (xs.map V.int)) ∧ fs.length < 1000 ∧
  Q (.int (xs.getD k 0)) (upd H q (.ins C dx (putF "place" (.int ((k + 1 : Nat) : Int)) fs)))
theorem scDFol : FnScope ["self", "octet"] ["self"] (fnScope sDFol) := C8.fnScope_by (by decide +kernel)
theorem met_dFol (F : C8.Fun K "following" "Decoder.following" sDFol f fd) (b : Binds K fd ["self"] []) (m : Meth K CD "following" f) (T : Txt K mg CE CD CW CR) : Met P w K mg base 1 CD "following" (spDFol CD) [] := by
  refine C8.met0 T.clD m F b scDFol (fun vs H Q E h => ?_) (fun cdv A outer s H vs Q E hr h => ?_)
  · obtain ⟨q, dx, src, fs, xs, k, rfl, _⟩ := h
    rfl
  · obtain ⟨q, dx, src, fs, xs, n, rfl, h1, hs, hp, h2, hl, k⟩ := h
    refine ⟨_, pss_cut (ps_set (i := 1) scDFol.nd rfl (Or.inl rfl) (pe_ifExp (pt_cmpR op_lt (pe_fld (pv 0) rfl) (pe_callB call_len_seq (by rfl) T.len PySem.boot_len (pa_cons (pe_fld (pv 0) rfl) pa_nil)) (nomark _)) (pe_ix ix_list (pe_fld (pv 0) rfl) (pe_fld (pv 0) rfl) (fun _ _ => rfl)) pe_int))
      (pss_cons (ps_fldaug (pv 0) pe_int in_add) (pss_one (ps_ret (pv 1)))), ?_⟩
    refine ⟨fun σ' H' => σ' = [some (.ref q), some (.int (xs.getD n 0))] ∧ H' = H, ?_, ?_⟩
    · refine ⟨_, rfl, q, CD, dx, _, _, rfl, h1, T.clD, T.dPl, hp, _, rfl, q, CD, dx, _, _, rfl, h1, T.clD, T.dSo, hs, src, _, rfl, .inl (SqL.of h2), _, _, rfl, rfl, _, rfl, ?_⟩
      rw [List.length_map]
      by_cases lt : n < xs.length
      · refine iteD (by omega) ?_
        refine ⟨_, rfl, q, CD, dx, _, _, rfl, h1, T.clD, T.dSo, hs, _, rfl, q, CD, dx, _, _, rfl, h1, T.clD, T.dPl, hp, src, _, _, _, rfl, rfl, SqL.of h2, atI_nat (v := V.int (xs.getD n 0)) ?_, rfl, rfl⟩
        rw [List.getElem?_map, List.getElem?_eq_getElem lt, List.getD_eq_getElem?_getD, List.getElem?_eq_getElem lt]
        rfl
      · refine iteDN (by omega) ⟨?_, rfl⟩
        rw [List.getD_eq_getElem?_getD, List.getElem?_eq_none (by omega)]
        rfl
    · rintro σ' H' ⟨rfl, rfl⟩
      refine ⟨_, rfl, q, CD, dx, _, _, rfl, h1, T.clD, T.dPl, hp, _, _, rfl, rfl, dx, _, h1, hl, _, rfl, ?_⟩
      exact k
/-! ### Decoder.__init__ -/
def spDInit (C : Addr) : Sp := fun vs H Q _ => ∃ (H0 : Hp) (q dx a : Addr) (xs : List Int) (ds : List Dn), vs = [.ref q, .ref a] ∧ Same H0 H ∧ H0 q = none ∧ H q = some (.ins C dx []) ∧ H a = some (.lst (xs.map V.int)) ∧ IsOct (run cs0 ds) xs ∧ ∀ H', DecAt C H0 H' q (run cs0 ds) cs0 → Q .non H'
theorem scDInit : FnScope ["self", "octets", "value", "_"] ["self", "octets"] (fnScope sDInit) := C8.fnScope_by (by decide +kernel)
def hF (l src : Addr) (pl : Nat) : List (Str × V) := (["chances", "source", "place", "span"] : List Str).zip [.ref l, .ref src, .int (pl : Int), .int 4294967295]
theorem hF_ppl (l src : Addr) (pl pl' : Nat) : putF "place" (.int (pl' : Int)) (hF l src pl) = hF l src pl' := put_z (i := 2) (by decide +kernel) rfl
theorem hF_val (l src : Addr) (pl : Nat) (v : Int) : putF "value" (.int v) (hF l src pl) = gF l src pl 4294967295 v := add_z (by decide +kernel) rfl
theorem fn_dInit (F : C8.Fun K "__init__" "Decoder.__init__" sDInit f fd) (T : Txt K mg CE CD CW CR) (c1 : Met P w K mg base 1 CD "following" (spDFol CD) []) : FnOk P w K mg base C8.CX0 2 f fd ["self", "octets"] (spDInit CD) := by
  refine C8.fn0 F scDInit (fun vs H Q E h => ?_) (fun cdv A outer s H vs Q E hr h => ?_)
  · obtain ⟨H0, q, dx, a, xs, ds, rfl, _⟩ := h
    rfl
  · obtain ⟨H0, q, dx, a, xs, ds, rfl, sm, np, hq, ha, io, k⟩ := h
    refine ⟨_, pss_cons (ps_fld (pv 0) (pe_op op_rep (pe_lst (pa_cons (pe_kst (by rfl) T.kEVEN) pa_nil)) (pe_kst (by rfl) T.kCONTEXTS)) rfl)
      (pss_cons (ps_fld (pv 0) (pe_callTy call_list_of (by rfl) T.list (by decide +kernel) (pa_cons (pv 1) pa_nil)) rfl)
      (pss_cons (ps_fld (pv 0) pe_int rfl) (pss_cons (ps_fld (pv 0) (pe_kst (by rfl) T.kFULL) rfl)
      (pss_cons (ps_set (i := 2) scDInit.nd rfl (Or.inl rfl) pe_int)
      (pss_cons (ps_for PassesOwn.never rfl (pi_range1 rfl T.range (pa_cons pe_int pa_nil)) (pg_name (i := 3) scDInit.nd rfl (Or.inl rfl))
        (pss_one (ps_set (i := 2) scDInit.nd rfl (Or.inl rfl) (pe_op op_add (pe_op op_mul pe_int (pv 2)) (pe_mt0 c1 hr (by decide) (pv 0))))))
      (pss_one (ps_fld (pv 0) (pe_callB (call_min2 rfl) (by rfl) T.min (by decide +kernel) (pa_cons (pv 2) (pa_cons (pe_op op_sub (pe_kst (by rfl) T.kFULL) pe_int) pa_nil))) rfl))))))), ?_⟩
    refine ⟨(by show 1 ≤ sizeLine; decide), fun l0 n0 => ?_⟩
    have ql0 : q ≠ l0 := ne_of_none hq n0
    have al0 : a ≠ l0 := ne_of_none ha n0
    have qa : q ≠ a := ne_of hq ha (by intro z; cases z)
    refine ⟨l0, _, _, rfl, rfl, upd_same, by decide, by decide, (by show 1 * 256 ≤ sizeLine; decide), fun l nl => ?_⟩
    have ll0 : l ≠ l0 := fun e => by
      rw [e, upd_same] at nl
      cases nl
    have nl' : H l = none := by
      rw [upd_ne ll0] at nl
      exact nl
    have ql : q ≠ l := ne_of_none hq nl'
    have al : a ≠ l := ne_of_none ha nl'
    rw [flat256]
    refine ⟨_, rfl, q, CD, dx, _, rfl, (by rw [upd_ne ql, upd_ne ql0]; exact hq), T.clD, T.dCh, (by show 0 < 1000; decide), ?_⟩
    refine ⟨_, rfl, a, _, rfl, .inl (SqL.of (by rw [upd_ne qa.symm, upd_ne al, upd_ne al0]; exact ha)), fun src ns => ?_⟩
    have sq : src ≠ q := fun e => by
      rw [e, upd_same] at ns
      cases ns
    have sl : src ≠ l := fun e => by
      rw [e, upd_ne ql.symm, upd_same] at ns
      cases ns
    have sl0 : src ≠ l0 := fun e => by
      rw [e, upd_ne ql0.symm, upd_ne ll0.symm, upd_same] at ns
      cases ns
    have ns' : H src = none := by
      rw [upd_ne sq, upd_ne sl, upd_ne sl0] at ns
      exact ns
    refine ⟨_, rfl, q, CD, dx, _, rfl, (by rw [upd_ne sq.symm]; exact upd_same), T.clD, T.dSo, (by show 1 < 1000; decide), ?_⟩
    refine ⟨_, rfl, q, CD, dx, _, rfl, upd_same, T.clD, T.dPl, ?_, ?_⟩
    · rw [show putF "source" (V.ref src) (putF "chances" (V.ref l) []) = (["chances", "source"] : List Str).zip [V.ref l, V.ref src] from add_z (ns := ["chances"]) (vs := [V.ref l]) (by decide +kernel) rfl]
      show 2 < 1000
      decide
    rw [upd_upd, show putF "source" (V.ref src) (putF "chances" (V.ref l) []) = (["chances", "source"] : List Str).zip [V.ref l, V.ref src] from add_z (ns := ["chances"]) (vs := [V.ref l]) (by decide +kernel) rfl,
      add_z (ns := ["chances", "source"]) (vs := [V.ref l, V.ref src]) (by decide +kernel) rfl]
    refine ⟨_, rfl, q, CD, dx, _, rfl, upd_same, T.clD, T.dSp, (by show 3 < 1000; decide), ?_⟩
    rw [upd_upd, add_z (by decide +kernel) rfl]
    have oki : In cs0 (run cs0 ds) := In.run ok0 ds
    have okf : Ok (run cs0 ds) := run_ok ok0 ds
    refine ⟨4, rfl, by decide, by decide, for_range (lo := 0) (n := 4) (fun i σ H' => ∃ v : Option V, σ = [some (.ref q), some (.ref a), some (.int (first (run cs0 ds) i)), v] ∧ Same H0 H' ∧ H' q = some (.ins CD dx (hF l src i)) ∧ H' l = some (.lst (cs0.ch.map V.int)) ∧ H' src = some (.lst (xs.map V.int))) ⟨none, ?_, fun x u e => ?_, upd_same, ?_, ?_⟩ ?_ ?_⟩
    · show _ = [_, _, some (V.int (first (run cs0 ds) 0)), none]
      rw [show first (run cs0 ds) 0 = 0 from start_zero oki okf]
      rfl
    · have hx := sm _ _ e
      rw [upd_ne (fun z => by rw [z, np] at e; cases e), upd_ne (ne_of_none hx ns'), upd_ne (fun z => by rw [z, np] at e; cases e), upd_ne (ne_of_none hx nl'), upd_ne (ne_of_none hx n0)]
      exact hx
    · rw [upd_ne ql.symm, upd_ne sl.symm, upd_ne ql.symm, upd_same]
    · rw [upd_ne sq, upd_same]
    · rintro i σ H' hi ⟨v, rfl, m1, m2, m3, m4⟩
      refine ⟨_, rfl, _, _, rfl, rfl, .inl ⟨by decide, by decide⟩, _, rfl, q, dx, _, rfl, m2, no_z (by decide +kernel), q, dx, src, _, xs, i, rfl, m2, look_z (i := 1) (by decide +kernel) rfl, look_z (i := 2) (by decide +kernel) rfl, m4, (by show 4 < 1000; decide), ?_⟩
      refine ⟨_, _, rfl, rfl, ?_⟩
      refine ⟨some (V.int (0 + (i : Int))), ?_, fun x u e => ?_, ?_, ?_, ?_⟩
      · rw [io i (by omega), ← first_step hi]
        rfl
      · rw [upd_ne (fun z => by rw [z, np] at e; cases e)]
        exact m1 _ _ e
      · rw [upd_same, hF_ppl]
      · rw [upd_ne ql.symm]
        exact m3
      · rw [upd_ne sq]
        exact m4
    · rintro σ H' ⟨v, rfl, m1, m2, m3, m4⟩
      have bd := dval_bd oki (by have := okf.sp1; omega)
      refine ⟨_, rfl, _, _, rfl, rfl, _, _, rfl, ?_⟩
      rw [first_four, if_neg (show ¬ (4294967295 - 1 : Int) < dval (run cs0 ds) cs0 by have h : cs0.span = 4294967295 := rfl; omega)]
      refine ⟨_, rfl, q, CD, dx, _, rfl, m2, T.clD, T.dVa, (by show 4 < 1000; decide), ?_⟩
      rw [hF_val]
      refine k _ ⟨ok0, fun x u e => ?_, np, dx, l, src, xs, sm.free nl', sm.free ns', sl, ?_, ?_, ?_, io⟩
      · rw [upd_ne (fun z => by rw [z, np] at e; cases e)]
        exact m1 _ _ e
      · rw [upd_same]
        rfl
      · rw [upd_ne ql.symm]
        exact m3
      · rw [upd_ne sq]
        exact m4
end
end K47
namespace K47
open PySem L2
open C8 (Cal Met Mak pe_c pe_mk pe_mt pe_mt0 fnScope pss_cut)
section
variable {P : Program} {w : World} {K : PySem.W.Frag} {mg : Str → Option Value} {base : Heap} {CE CD CW CR : Addr} {f : Addr} {fd : FuncData}
/-! ### Decoder.step -/
def spDStep (C : Addr) : Sp := fun vs H Q _ => ∃ (H0 : Hp) (q : Addr) (s : CS) (d : Dn) (rest : List Dn), vs = [.ref q, .int (chance s d.1)] ∧ DecAt C H0 H q (run s (d :: rest)) s ∧ ∀ H', DecAt C H0 H' q (run s (d :: rest)) (stp s (chance s d.1) d.2) → Q (.int (bit d.2)) H'
theorem scDStep : FnScope ["self", "probability", "part", "decision"] ["self", "probability"] (fnScope sDStep) := C8.fnScope_by (by decide +kernel)
theorem met_dStep (F : C8.Fun K "step" "Decoder.step" sDStep f fd) (b : Binds K fd ["self", "probability"] []) (m : Meth K CD "step" f) (T : Txt K mg CE CD CW CR) (c1 : Met P w K mg base 1 CD "following" (spDFol CD) []) : Met P w K mg base 2 CD "step" (spDStep CD) [] := by
  refine C8.met0 T.clD m F b scDStep (fun vs H Q E h => ?_) (fun cdv A outer s H vs Q E hr h => ?_)
  · obtain ⟨H0, q, s, d, rest, rfl, _⟩ := h
    rfl
  · obtain ⟨H0, q, s, d, rest, rfl, ⟨ok, sm, np, dx, l, src, xs, nl, ns, sl, h1, h2, h3, io⟩, k⟩ := h
    refine ⟨_, pss_cons (ps_set (i := 2) scDStep.nd rfl (Or.inl rfl) (pe_op op_mul (pe_op op_shr (pe_fld (pv 0) rfl) pe_int) (pv 1)))
      (pss_cons (ps_set (i := 3) scDStep.nd rfl (Or.inl rfl) pe_int)
      (pss_cut (ps_if (pt_cmpR op_lt (pe_fld (pv 0) rfl) (pv 2) (nomark _)) (pss_one (ps_fld (pv 0) (pv 2) rfl)) (pss_cons (ps_set (i := 3) scDStep.nd rfl (Or.inl rfl) pe_int) (pss_cons (ps_fldaug (pv 0) (pv 2) in_sub) (pss_one (ps_fldaug (pv 0) (pv 2) in_sub)))))
      (pss_cons (ps_while PassesOwn.never (pt_cmpR op_lt (pe_fld (pv 0) rfl) (pe_kst (by rfl) T.kLEAST) (nomark _))
        (pss_cons (ps_fld (pv 0) (pe_op op_add (pe_op op_mul pe_int (pe_fld (pv 0) rfl)) (pe_mt0 c1 hr (by decide) (pv 0))) rfl) (pss_one (ps_fld (pv 0) (pe_op op_mul (pe_fld (pv 0) rfl) pe_int) rfl))))
      (pss_one (ps_ret (pv 3)))))), ?_⟩
    have e12 : (2 : Int) ^ (12 : Int).toNat = 4096 := by decide
    have ql : q ≠ l := ne_of h1 h2 (by intro z; cases z)
    have qs : q ≠ src := ne_of h1 h3 (by intro z; cases z)
    have cb := chance_ok ok d.1
    have bl := bit_law (f := run s (d :: rest)) ok rfl
    have isn : In (nrm (spl s (chance s d.1) d.2)) (run s (d :: rest)) := (In.learn _ d.1 (adapt (chance s d.1) d.2)).trans (In.run (stepC_ok ok d) rest)
    have so := stp_ok d.2 ok cb.1 cb.2
    have bd := split_bd (s := s) d.2 ok.sp1 cb.1 cb.2
    generalize ef : run s (d :: rest) = f at h1 bl isn k io
    generalize ep : chance s d.1 = pr at bl isn k cb so bd
    generalize eb : d.2 = b at bl isn k so bd
    have esh : (spl s pr b).sh = s.sh := by unfold spl; split <;> rfl
    refine ⟨_, rfl, q, CD, dx, _, _, rfl, h1, T.clD, T.dSp, gF_sp _ _ _ _ _, _, _, rfl, rfl, (by show (0 : Int) ≤ 12; decide), _, rfl, _, _, rfl, rfl, .inr ⟨by omega, by omega⟩, ?_⟩
    refine ⟨fun σ' H' => σ' = [some (.ref q), some (.int pr), some (.int (part s pr)), some (.int (bit b))] ∧ H' = upd H q (.ins CD dx (gF l src (s.sh + 4) (spl s pr b).span (dval f (spl s pr b)))), ?_, ?_⟩
    · rw [e12]
      refine ⟨_, rfl, q, CD, dx, _, _, rfl, h1, T.clD, T.dVa, gF_va _ _ _ _ _, _, rfl, _, _, rfl, rfl, _, rfl, ?_⟩
      cases b
      · refine iteD (bl.mpr rfl) ?_
        refine ⟨_, rfl, _, rfl, q, CD, dx, _, rfl, h1, T.clD, T.dSp, gF_len _ _ _ _ _, rfl, ?_⟩
        rw [dF_g, gF_psp]
        rfl
      · refine iteDN (fun z => by have := bl.mp z; cases this) ?_
        refine ⟨_, rfl, q, CD, dx, _, _, rfl, h1, T.clD, T.dVa, gF_va _ _ _ _ _, _, rfl, _, _, rfl, rfl, dx, _, h1, gF_len _ _ _ _ _, ?_⟩
        rw [dF_g, gF_pva]
        refine ⟨_, rfl, q, CD, dx, _, _, rfl, upd_same, T.clD, T.dSp, gF_sp _ _ _ _ _, _, rfl, _, _, rfl, rfl, dx, _, upd_same, gF_len _ _ _ _ _, rfl, ?_⟩
        rw [gF_psp, upd_upd, dval_split_t]
        rfl
    · rintro σ' H' ⟨rfl, rfl⟩
      have fin : ∀ H' : Hp, H' = upd H q (.ins CD dx (gF l src ((stp s pr b).sh + 4) (stp s pr b).span (dval f (stp s pr b)))) → Q (.int (bit b)) H' := by
        rintro H' rfl
        refine k _ ⟨so, fun x u e => ?_, np, dx, l, src, xs, nl, ns, sl, upd_same, ?_, ?_, io⟩
        · rw [upd_ne (fun z => by rw [z, np] at e; cases e)]
          exact sm _ _ e
        · rw [upd_ne ql.symm, stp_ch]
          exact h2
        · rw [upd_ne qs.symm]
          exact h3
      refine ⟨fun m σ' H' => σ' = [some (.ref q), some (.int pr), some (.int (part s pr)), some (.int (bit b))] ∧ ((m = 1 ∧ H' = upd H q (.ins CD dx (gF l src (s.sh + 4) (spl s pr b).span (dval f (spl s pr b))))) ∨ (m = 0 ∧ H' = upd H q (.ins CD dx (gF l src ((stp s pr b).sh + 4) (stp s pr b).span (dval f (stp s pr b)))))), ⟨1, rfl, .inl ⟨rfl, rfl⟩⟩, ?_⟩
      rintro m σ' H' ⟨rfl, ⟨rfl, rfl⟩ | ⟨rfl, rfl⟩⟩
      · refine ⟨_, rfl, q, CD, dx, _, _, rfl, upd_same, T.clD, T.dSp, gF_sp _ _ _ _ _, _, _, rfl, rfl, _, rfl, ?_⟩
        have nl0 := norm_law isn
        have ns0 := norm_sh (spl s pr b)
        by_cases lt : (spl s pr b).span < 16777216
        · refine iteD lt ?_
          have np0 := norm_place isn lt
          rw [if_pos lt] at nl0 ns0
          rw [esh] at nl0 ns0 np0
          refine ⟨fun σ' H' => σ' = [some (.ref q), some (.int pr), some (.int (part s pr)), some (.int (bit b))] ∧ H' = upd H q (.ins CD dx (gF l src ((stp s pr b).sh + 4) (stp s pr b).span (dval f (stp s pr b)))), ?_, ?_⟩
          · rintro σ' H' ⟨rfl, rfl⟩
            exact ⟨0, by decide, rfl, .inr ⟨rfl, rfl⟩⟩
          · refine ⟨_, rfl, q, CD, dx, _, _, rfl, upd_same, T.clD, T.dVa, gF_va _ _ _ _ _, _, _, rfl, rfl, .inl ⟨by decide, by decide⟩, _, rfl, q, dx, _, rfl, upd_same, gF_no _ _ _ _ _ (by decide +kernel),
              q, dx, src, _, xs, s.sh + 4, rfl, upd_same, gF_so _ _ _ _ _, gF_pl _ _ _ _ _, (by rw [upd_ne qs.symm]; exact h3), gF_len _ _ _ _ _, ?_⟩
            rw [gF_ppl, upd_upd]
            refine ⟨_, _, rfl, rfl, _, rfl, q, CD, dx, _, rfl, upd_same, T.clD, T.dVa, gF_len _ _ _ _ _, ?_⟩
            rw [gF_pva, upd_upd]
            refine ⟨_, rfl, q, CD, dx, _, _, rfl, upd_same, T.clD, T.dSp, gF_sp _ _ _ _ _, _, _, rfl, rfl, .inr ⟨by decide, by decide⟩, _, rfl, q, CD, dx, _, rfl, upd_same, T.clD, T.dSp, gF_len _ _ _ _ _, rfl, ?_⟩
            rw [gF_psp, upd_upd]
            have e1 : dval f (stp s pr b) = 256 * dval f (spl s pr b) + xs.getD (s.sh + 4) 0 := by
              rw [io _ np0]
              exact nl0
            have e2 : (stp s pr b).sh = s.sh + 1 := ns0
            have e3 : (stp s pr b).span = (spl s pr b).span * 256 := by
              unfold stp nrm
              rw [if_pos lt]
            rw [e1, e2, e3]
        · refine iteDN lt ?_
          have en : stp s pr b = spl s pr b := if_neg lt
          refine ⟨_, rfl, fin _ ?_⟩
          rw [en, esh]
      · refine ⟨_, rfl, q, CD, dx, _, _, rfl, upd_same, T.clD, T.dSp, gF_sp _ _ _ _ _, _, _, rfl, rfl, _, rfl, ?_⟩
        refine iteDN (show ¬ (stp s pr b).span < 16777216 by have := so.sp1; omega) ?_
        exact ⟨_, rfl, fin _ rfl⟩
/-! ### Decoder.read, read_even -/
def spDRead (C : Addr) : Sp := fun vs H Q _ => ∃ (H0 : Hp) (q : Addr) (s : CS) (c : Nat) (b : Bool) (rest : List Dn), vs = [.ref q, .int (c : Int)] ∧ c < 256 ∧ DecAt C H0 H q (run s ((some c, b) :: rest)) s ∧ ∀ H', DecAt C H0 H' q (run s ((some c, b) :: rest)) (stepC s (some c, b)) → Q (.int (bit b)) H'
theorem scDRead : FnScope ["self", "context", "chance", "decision"] ["self", "context"] (fnScope sDRead) := C8.fnScope_by (by decide +kernel)
theorem dval_learn (f s : CS) (c : Option Nat) (v : Int) : dval f (learn s c v) = dval f s := by cases c <;> rfl
theorem met_dRead (F : C8.Fun K "read" "Decoder.read" sDRead f fd) (b : Binds K fd ["self", "context"] []) (m : Meth K CD "read" f) (T : Txt K mg CE CD CW CR)
    (c1 : Cal P w K mg base 1 "check_context" spChkContext []) (c3 : Met P w K mg base 2 CD "step" (spDStep CD) []) (c4 : Cal P w K mg base 1 "adapted" spAdapted []) : Met P w K mg base 3 CD "read" (spDRead CD) [] := by
  refine C8.met0 T.clD m F b scDRead (fun vs H Q E h => ?_) (fun cdv A outer s H vs Q E hr h => ?_)
  · obtain ⟨H0, p, s, c, b, rest, rfl, _⟩ := h
    rfl
  · obtain ⟨H0, q, s, c, b, rest, rfl, hc, R, k⟩ := h
    obtain ⟨ok, sm, np, dx, l, src, xs, nl, ns, sl, h1, h2, h3, io⟩ := id R
    refine ⟨_, pss_cons (ps_expr (pe_c c1 hr (by decide) (by rfl) (pa_cons (pv 1) pa_nil)))
      (pss_cons (ps_set (i := 2) scDRead.nd rfl (Or.inl rfl) (pe_ix ix_list (pe_fld (pv 0) rfl) (pv 1) (fun _ _ => rfl)))
      (pss_cons (ps_set (i := 3) scDRead.nd rfl (Or.inl rfl) (pe_mt c3 hr (by decide) (pv 0) (pa_cons (pv 2) pa_nil)))
      (pss_cons (ps_asg (pe_c c4 hr (by decide) (by rfl) (pa_cons (pv 2) (pa_cons (pv 3) pa_nil))) (pg_sub (pe_fld (pv 0) rfl) (pv 1) set_list))
      (pss_one (ps_ret (pv 3)))))), ?_⟩
    refine ⟨_, rfl, c, rfl, hc, ?_⟩
    refine ⟨_, rfl, q, CD, dx, _, _, rfl, h1, T.clD, T.dCh, gF_ch _ _ _ _ _, _, rfl, l, _, _, _, rfl, rfl, SqL.of h2, ch_at ok hc, ?_⟩
    refine ⟨_, rfl, q, dx, _, rfl, h1, gF_no _ _ _ _ _ (by decide +kernel), _, rfl, H0, q, s, (some c, b), rest, rfl, R, fun H1 R1 => ?_⟩
    obtain ⟨ok1, sm1, np1, dx1, l1, src1, xs1, nl1, ns1, sl1, g1, g2, g3, io1⟩ := id R1
    refine ⟨_, rfl, _, rfl, _, b, rfl, ?_⟩
    refine ⟨_, rfl, q, CD, dx1, _, _, rfl, g1, T.clD, T.dCh, gF_ch _ _ _ _ _, _, rfl, l1, _, _, c, rfl, rfl, g2, ixN_nat (by rw [List.length_map, stp_ch, ok.len]; exact hc), ?_⟩
    have ql1 : q ≠ l1 := ne_of g1 g2 (by intro z; cases z)
    have es : ((stp s (chance s (some c)) b).ch.map V.int).set c (V.int (adapt (chance s (some c)) b)) = (stepC s (some c, b)).ch.map V.int := by
      rw [← List.map_set]
      rfl
    refine ⟨_, rfl, k _ ⟨stepC_ok ok _, fun x u e => ?_, np, dx1, l1, src1, xs1, nl1, ns1, sl1, ?_, ?_, ?_, io1⟩⟩
    · rw [upd_ne fun z => by rw [z, nl1] at e; cases e]
      exact sm1 _ _ e
    · rw [upd_ne ql1]
      exact g1
    · rw [upd_same]
      exact congrArg (fun z => some (HO.lst z)) es
    · rw [upd_ne sl1]
      exact g3
def spDEven (C : Addr) : Sp := fun vs H Q _ => ∃ (H0 : Hp) (q : Addr) (s : CS) (b : Bool) (rest : List Dn), vs = [.ref q] ∧ DecAt C H0 H q (run s ((none, b) :: rest)) s ∧ ∀ H', DecAt C H0 H' q (run s ((none, b) :: rest)) (stepC s (none, b)) → Q (.int (bit b)) H'
theorem scDEven : FnScope ["self"] ["self"] (fnScope sDEven) := C8.fnScope_by (by decide +kernel)
theorem met_dEven (F : C8.Fun K "read_even" "Decoder.read_even" sDEven f fd) (b : Binds K fd ["self"] []) (m : Meth K CD "read_even" f) (T : Txt K mg CE CD CW CR)
    (c3 : Met P w K mg base 2 CD "step" (spDStep CD) []) : Met P w K mg base 3 CD "read_even" (spDEven CD) [] := by
  refine C8.met0 T.clD m F b scDEven (fun vs H Q E h => ?_) (fun cdv A outer s H vs Q E hr h => ?_)
  · obtain ⟨H0, p, s, b, rest, rfl, _⟩ := h
    rfl
  · obtain ⟨H0, q, s, b, rest, rfl, R, k⟩ := h
    obtain ⟨ok, sm, np, dx, l, src, xs, nl, ns, sl, h1, h2, h3, io⟩ := id R
    refine ⟨_, pss_one (ps_ret (pe_mt c3 hr (by decide) (pv 0) (pa_cons (pe_kst (by rfl) T.kEVEN) pa_nil))), ?_⟩
    exact ⟨_, rfl, q, dx, _, rfl, h1, gF_no _ _ _ _ _ (by decide +kernel), H0, q, s, (none, b), rest, rfl, R, k⟩
end
end K47
namespace K47
open PySem L2
open C8 (Cal Met Mak pe_c pe_mk pe_mt pe_mt0 fnScope pss_cut)
def wF (p : Addr) : List (Str × V) := wN.zip [.ref p]
def rF (q : Addr) : List (Str × V) := rN.zip [.ref q]
theorem wF_e (p : Addr) : (wF p).lookup ("encoder" : Str) = some (.ref p) := look_z (i := 0) (by decide +kernel) rfl
theorem wF_no (p : Addr) {m : Str} (h : ixS m wN = none) : (wF p).lookup m = none := no_z h
theorem rF_d (p : Addr) : (rF p).lookup ("decoder" : Str) = some (.ref p) := look_z (i := 0) (by decide +kernel) rfl
theorem rF_no (p : Addr) {m : Str} (h : ixS m rN = none) : (rF p).lookup m = none := no_z h
theorem min7 (i : Nat) : (if (7 : Int) < 0 + (i : Int) then (7 : Int) else 0 + (i : Int)) = ((min i 7 : Nat) : Int) := by split <;> omega
theorem min7' (i : Nat) : (if (7 : Int) < (i : Int) then (7 : Int) else (i : Int)) = ((min i 7 : Nat) : Int) := by split <;> omega
theorem tlD_succ (b k m n : Nat) : tlD b k m (n + 1) = (if n + 1 = k then some (b + 8 + min (k - 1) 7) else none, m.testBit n) :: tlD b k m n := rfl
theorem unD_succ (b t i n : Nat) : unD b t i (n + 1) = (some (b + min i 7), true) :: unD b t (i + 1) n := rfl
theorem bits_nat (v : Nat) : Builtin.Int.intBits ((v : Int) + 1) = (v + 1).log2 + 1 := by
  unfold Builtin.Int.intBits
  rw [if_neg (by simp; omega)]
  rfl
section
variable {P : Program} {w : World} {K : PySem.W.Frag} {mg : Str → Option Value} {base : Heap} {CE CD CW CR : Addr} {f : Addr} {fd : FuncData}
/-! ### check_contexts, check_unary -/
def spChkContexts : Sp := fun vs H Q _ => ∃ b c : Nat, vs = [.int (b : Int), .int (c : Int)] ∧ b + c ≤ 256 ∧ Q .non H
theorem scChkContexts : FnScope ["base", "count"] ["base", "count"] (fnScope sChkContexts) := C8.fnScope_by (by decide +kernel)
theorem cal_chkContexts (F : C8.Def K mg "check_contexts" sChkContexts f fd) (b : Binds K fd ["base", "count"] []) : Cal P w K mg base 1 "check_contexts" spChkContexts [] := by
  refine C8.cal0 F b .nil scChkContexts (fun vs H Q E h => ?_) (fun cdv A outer s H vs Q E hr h => ?_)
  · obtain ⟨b, c, rfl, _⟩ := h
    rfl
  · obtain ⟨b, c, rfl, hc, k⟩ := h
    refine ⟨_, pss_one (ps_if (PW.pt (pw_or (pt_cmpR op_lt (pv 0) pe_int (nomark _)) (pw_or1 (pt_cmpR op_gt (pe_op op_add (pv 0) (pv 1)) pe_int (nomark _))))) (pss_one ps_never) pss_nil), ?_⟩
    refine ⟨_, rfl, _, _, rfl, rfl, _, rfl, iteDN (by omega) ?_⟩
    refine ⟨_, rfl, _, rfl, _, _, rfl, rfl, _, _, rfl, rfl, _, rfl, ?_⟩
    exact iteDN (by omega) k
def spChkUnary : Sp := fun vs H Q _ => ∃ b : Nat, vs = [.int (b : Int), .int 20] ∧ b + 8 ≤ 256 ∧ Q .non H
theorem scChkUnary : FnScope ["base", "most"] ["base", "most"] (fnScope sChkUnary) := C8.fnScope_by (by decide +kernel)
theorem cal_chkUnary (F : C8.Def K mg "check_unary" sChkUnary f fd) (b : Binds K fd ["base", "most"] []) (T : Txt K mg CE CD CW CR) (c1 : Cal P w K mg base 1 "check_contexts" spChkContexts []) : Cal P w K mg base 2 "check_unary" spChkUnary [] := by
  refine C8.cal0 F b .nil scChkUnary (fun vs H Q E h => ?_) (fun cdv A outer s H vs Q E hr h => ?_)
  · obtain ⟨b, rfl, _⟩ := h
    rfl
  · obtain ⟨b, rfl, hc, k⟩ := h
    refine ⟨_, pss_cons (ps_if (pt_not (pt_chain op_le op_le pe_int (pv 1) pe_int)) (pss_one ps_never) pss_nil)
      (pss_one (ps_if (pt_cmpR op_gt (pv 1) pe_int (nomark _)) (pss_one (ps_expr (pe_c c1 hr (by decide) (by rfl) (pa_cons (pv 0) (pa_cons (pe_callB (call_min2 rfl) (by rfl) T.min (by decide +kernel) (pa_cons (pv 1) (pa_cons pe_int pa_nil))) pa_nil))))) pss_nil)), ?_⟩
    refine ⟨_, rfl, _, _, rfl, rfl, _, rfl, iteD (by decide) ?_⟩
    refine ⟨_, _, rfl, rfl, _, rfl, iteNS (by decide) ?_⟩
    refine ⟨_, rfl, _, _, rfl, rfl, _, rfl, iteD (by decide) ?_⟩
    exact ⟨_, rfl, _, rfl, _, _, rfl, b, 8, rfl, hc, k⟩
/-! ### the writer -/
def spWInit (C : Addr) : Sp := fun vs H Q _ => ∃ (o dx p : Addr), vs = [.ref o, .ref p] ∧ H o = some (.ins C dx []) ∧ Q .non (upd H o (.ins C dx (wF p)))
theorem scWInit : FnScope ["self", "encoder"] ["self", "encoder"] (fnScope sWInit) := C8.fnScope_by (by decide +kernel)
theorem fn_wInit (F : C8.Fun K "__init__" "SymbolWriter.__init__" sWInit f fd) (T : Txt K mg CE CD CW CR) : FnOk P w K mg base C8.CX0 1 f fd ["self", "encoder"] (spWInit CW) := by
  refine C8.fn0 F scWInit (fun vs H Q E h => ?_) (fun cdv A outer s H vs Q E hr h => ?_)
  · obtain ⟨o, dx, p, rfl, _⟩ := h
    rfl
  · obtain ⟨o, dx, p, rfl, ho, k⟩ := h
    refine ⟨_, pss_one (ps_fld (pv 0) (pv 1) rfl), ?_⟩
    exact ⟨_, rfl, _, rfl, o, CW, dx, _, rfl, ho, T.clW, T.wE, (by show 0 < 1000; decide), k⟩
/-- a writer stands at o, over the encoder at p in the state s -/
structure WrAt (CE CW : Addr) (H0 H : Hp) (o p : Addr) (s : CS) : Prop where
  enc : EncAt CE H0 H p s
  wr : ∃ dw, H0 o = some (.ins CW dw (wF p))
def spWEven (CE CW : Addr) : Sp := fun vs H Q _ => ∃ (H0 : Hp) (o p : Addr) (s : CS) (b : Bool), vs = [.ref o, .int (bit b)] ∧ WrAt CE CW H0 H o p s ∧ ∀ H', EncAt CE H0 H' p (stepC s (none, b)) → Q .non H'
theorem scWEven : FnScope ["self", "decision"] ["self", "decision"] (fnScope sWEven) := C8.fnScope_by (by decide +kernel)
theorem met_wEven (F : C8.Fun K "even" "SymbolWriter.even" sWEven f fd) (b : Binds K fd ["self", "decision"] []) (m : Meth K CW "even" f) (T : Txt K mg CE CD CW CR) (c1 : Met P w K mg base 2 CE "code_even" (spEEven CE) []) : Met P w K mg base 3 CW "even" (spWEven CE CW) [] := by
  refine C8.met0 T.clW m F b scWEven (fun vs H Q E h => ?_) (fun cdv A outer s H vs Q E hr h => ?_)
  · obtain ⟨H0, o, p, s, b, rfl, _⟩ := h
    rfl
  · obtain ⟨H0, o, p, s, b, rfl, ⟨R, dw, hw⟩, k⟩ := h
    obtain ⟨ok, sm, np, dx, l, nl, h1, h2⟩ := id R
    refine ⟨_, pss_one (ps_expr (pe_mt c1 hr (by decide) (pe_fld (pv 0) rfl) (pa_cons (pv 1) pa_nil))), ?_⟩
    exact ⟨_, rfl, o, CW, dw, _, _, rfl, sm _ _ hw, T.clW, T.wE, wF_e _, p, dx, _, rfl, h1, eF_no _ _ (by decide +kernel), _, rfl, H0, p, s, b, rfl, R, k⟩
def spWFlag (CE CW : Addr) : Sp := fun vs H Q _ => ∃ (H0 : Hp) (o p : Addr) (s : CS) (c : Nat) (b : Bool), vs = [.ref o, .int (c : Int), .bl b] ∧ WrAt CE CW H0 H o p s ∧ c < 256 ∧ ∀ H', EncAt CE H0 H' p (stepC s (some c, b)) → Q .non H'
theorem scWFlag : FnScope ["self", "base", "value"] ["self", "base", "value"] (fnScope sWFlag) := C8.fnScope_by (by decide +kernel)
theorem met_wFlag (F : C8.Fun K "flag" "SymbolWriter.flag" sWFlag f fd) (b : Binds K fd ["self", "base", "value"] []) (m : Meth K CW "flag" f) (T : Txt K mg CE CD CW CR) (c0 : Cal P w K mg base 1 "check_contexts" spChkContexts []) (c1 : Met P w K mg base 2 CE "code" (spECode CE) []) : Met P w K mg base 3 CW "flag" (spWFlag CE CW) [] := by
  refine C8.met0 T.clW m F b scWFlag (fun vs H Q E h => ?_) (fun cdv A outer s H vs Q E hr h => ?_)
  · obtain ⟨H0, o, p, s, c, b, rfl, _⟩ := h
    rfl
  · obtain ⟨H0, o, p, s, c, b, rfl, ⟨R, dw, hw⟩, hc, k⟩ := h
    obtain ⟨ok, sm, np, dx, l, nl, h1, h2⟩ := id R
    refine ⟨_, pss_cons (ps_expr (pe_c c0 hr (by decide) (by rfl) (pa_cons (pv 1) (pa_cons pe_int pa_nil))))
      (pss_one (ps_expr (pe_mt c1 hr (by decide) (pe_fld (pv 0) rfl) (pa_cons (pv 1) (pa_cons (pe_ifExp (pt_truth (pv 2) (by intro _; rfl)) pe_int pe_int) pa_nil))))), ?_⟩
    refine ⟨_, rfl, c, 1, rfl, by omega, ?_⟩
    refine ⟨_, rfl, o, CW, dw, _, _, rfl, sm _ _ hw, T.clW, T.wE, wF_e _, p, dx, _, rfl, h1, eF_no _ _ (by decide +kernel), _, rfl, _, rfl, b, rfl, ?_⟩
    cases b
    · exact iteF ⟨H0, p, s, c, false, rfl, R, hc, k⟩
    · exact iteT ⟨H0, p, s, c, true, rfl, R, hc, k⟩
def spWUnary (CE CW : Addr) : Sp := fun vs H Q _ => ∃ (H0 : Hp) (o p : Addr) (s : CS) (c v : Nat), vs = [.ref o, .int (c : Int), .int (v : Int), .int 20] ∧ WrAt CE CW H0 H o p s ∧ c + 8 ≤ 256 ∧ v ≤ 20 ∧ ∀ H', EncAt CE H0 H' p (run s (unD c 20 0 v)) → Q .non H'
theorem scWUnary : FnScope ["self", "base", "value", "most", "at"] ["self", "base", "value", "most"] (fnScope sWUnary) := C8.fnScope_by (by decide +kernel)
theorem fn_wUnary (F : C8.Fun K "unary" "SymbolWriter.unary" sWUnary f fd) (T : Txt K mg CE CD CW CR) (c0 : Cal P w K mg base 2 "check_unary" spChkUnary []) (c1 : Met P w K mg base 2 CE "code" (spECode CE) []) : FnOk P w K mg base C8.CX0 3 f fd ["self", "base", "value", "most"] (spWUnary CE CW) := by
  refine C8.fn0 F scWUnary (fun vs H Q E h => ?_) (fun cdv A outer s H vs Q E hr h => ?_)
  · obtain ⟨H0, o, p, s, c, v, rfl, _⟩ := h
    rfl
  · obtain ⟨H0, o, p, s, c, v, rfl, ⟨R, dw, hw⟩, hc, hv, k⟩ := h
    refine ⟨_, pss_cons (ps_expr (pe_c c0 hr (by decide) (by rfl) (pa_cons (pv 1) (pa_cons (pv 3) pa_nil))))
      (pss_cons (ps_if (pt_not (pt_chain op_le op_le pe_int (pv 2) (pv 3))) (pss_one ps_never) pss_nil)
      (pss_cons (ps_for PassesOwn.never rfl (pi_range1 rfl T.range (pa_cons (pv 2) pa_nil)) (pg_name (i := 4) scWUnary.nd rfl (Or.inl rfl))
        (pss_one (ps_expr (pe_mt c1 hr (by decide) (pe_fld (pv 0) rfl) (pa_cons (pe_op op_add (pv 1) (pe_callB (call_min2 rfl) (by rfl) T.min (by decide +kernel) (pa_cons (pv 4) (pa_cons pe_int pa_nil)))) (pa_cons pe_int pa_nil))))))
      (pss_one (ps_if (pt_cmpR op_lt (pv 2) (pv 3) (nomark _)) (pss_one (ps_expr (pe_mt c1 hr (by decide) (pe_fld (pv 0) rfl) (pa_cons (pe_op op_add (pv 1) (pe_callB (call_min2 rfl) (by rfl) T.min (by decide +kernel) (pa_cons (pv 2) (pa_cons pe_int pa_nil)))) (pa_cons pe_int pa_nil))))) pss_nil)))), ?_⟩
    refine ⟨_, rfl, _, rfl, c, rfl, hc, ?_⟩
    refine ⟨_, rfl, _, _, rfl, rfl, _, rfl, iteD (by omega) ?_⟩
    refine ⟨_, rfl, _, _, rfl, rfl, _, rfl, iteNS (by omega) ?_⟩
    refine ⟨_, rfl, (v : Int), rfl, by omega, by omega, ?_⟩
    rw [Int.toNat_natCast]
    refine for_range (lo := 0) (n := v) (fun i σ H' => ∃ (x : Option V) (si : CS), σ = [some (.ref o), some (.int (c : Int)), some (.int (v : Int)), some (.int 20), x] ∧ EncAt CE H0 H' p si ∧ run si (unD c 20 i (v - i)) = run s (unD c 20 0 v)) ⟨none, s, rfl, R, rfl⟩ ?_ ?_
    · rintro i σ H' hi ⟨x, si, rfl, Ri, ei⟩
      obtain ⟨ok, sm, np, dx, l, nl, h1, h2⟩ := id Ri
      refine ⟨_, rfl, o, CW, dw, _, _, rfl, sm _ _ hw, T.clW, T.wE, wF_e _, p, dx, _, rfl, h1, eF_no _ _ (by decide +kernel), _, rfl, _, rfl, _, _, rfl, _, _, rfl, rfl, H0, p, si, c + min i 7, true, ?_, Ri, by omega, fun H1 R1 => ?_⟩
      · rw [min7]
        rfl
      · refine ⟨_, _, rfl, R1, ?_⟩
        rw [← ei, show v - i = (v - (i + 1)) + 1 by omega]
        rfl
    · rintro σ H' ⟨x, si, rfl, Ri, ei⟩
      obtain ⟨ok, sm, np, dx, l, nl, h1, h2⟩ := id Ri
      rw [Nat.sub_self] at ei
      refine ⟨_, rfl, _, rfl, _, _, rfl, rfl, _, rfl, ?_⟩
      by_cases lt : v < 20
      · refine iteD (by omega) ?_
        refine ⟨_, rfl, o, CW, dw, _, _, rfl, sm _ _ hw, T.clW, T.wE, wF_e _, p, dx, _, rfl, h1, eF_no _ _ (by decide +kernel), _, rfl, _, rfl, _, _, rfl, _, _, rfl, rfl, H0, p, si, c + min v 7, false, ?_, Ri, by omega, fun H1 R1 => ?_⟩
        · rw [min7']
          rfl
        · refine k _ ?_
          rw [← ei]
          unfold unD
          rw [if_pos lt]
          exact R1
      · refine iteDN (by omega) ?_
        refine k _ ?_
        rw [← ei]
        unfold unD
        rw [if_neg lt]
        exact Ri
def spWNumber (CE CW : Addr) : Sp := fun vs H Q _ => ∃ (H0 : Hp) (o p : Addr) (s : CS) (c v : Nat), vs = [.ref o, .int (c : Int), .int (v : Int)] ∧ WrAt CE CW H0 H o p s ∧ c + 16 ≤ 256 ∧ v ≤ 1048576 ∧ ∀ H', EncAt CE H0 H' p (run s (numD c v)) → Q .non H'
theorem scWNumber : FnScope ["self", "base", "value", "digits", "place", "digit"] ["self", "base", "value"] (fnScope sWNumber) := C8.fnScope_by (by decide +kernel)
theorem met_wNumber (F : C8.Fun K "number" "SymbolWriter.number" sWNumber f fd) (b : Binds K fd ["self", "base", "value"] []) (m : Meth K CW "number" f) (T : Txt K mg CE CD CW CR) (c0 : Cal P w K mg base 1 "check_contexts" spChkContexts [])
    (c1 : Met P w K mg base 2 CE "code" (spECode CE) []) (c2 : Met P w K mg base 2 CE "code_even" (spEEven CE) []) (c3 : MetN P w K mg base 3 CW "unary" 3 ["most"] (spWUnary CE CW)) : Met P w K mg base 4 CW "number" (spWNumber CE CW) [] := by
  refine C8.met0 T.clW m F b scWNumber (fun vs H Q E h => ?_) (fun cdv A outer s H vs Q E hr h => ?_)
  · obtain ⟨H0, o, p, s, c, v, rfl, _⟩ := h
    rfl
  · obtain ⟨H0, o, p, s, c, v, rfl, ⟨R, dw, hw⟩, hc, hv, k⟩ := h
    refine ⟨_, pss_cons (ps_expr (pe_c c0 hr (by decide) (by rfl) (pa_cons (pv 1) (pa_cons pe_int pa_nil))))
      (pss_cons (ps_if (pt_not (pt_chain op_le op_le pe_int (pv 2) (pe_kst (by rfl) T.kMAX))) (pss_one ps_never) pss_nil)
      (pss_cons (ps_set (i := 3) scWNumber.nd rfl (Or.inl rfl) (pe_bits (pe_op op_add (pv 2) pe_int)))
      (pss_cons (ps_expr (pe_mtN c3 hr (by decide) (pv 0) (pa_cons (pv 1) (pa_cons (pe_op op_sub (pv 3) pe_int) pa_nil)) (pk_cons (pe_kst (by rfl) T.kPREFIX) pk_nil)))
      (pss_one (ps_for PassesOwn.never rfl (pi_range3 (by rfl) T.range (pa_cons (pe_op op_sub (pv 3) pe_int) (pa_cons (pe_un un_neg pe_int) (pa_cons (pe_un un_neg pe_int) pa_nil)))) (pg_name (i := 4) scWNumber.nd rfl (Or.inl rfl))
        (pss_cons (ps_set (i := 5) scWNumber.nd rfl (Or.inl rfl) (pe_op op_andM (pe_op op_shr (pe_op op_add (pv 2) pe_int) (pv 4)) pe_int))
        (pss_one (ps_if (pt_cmpR op_eq (pv 4) (pe_op op_sub (pv 3) pe_int) (nomark _))
          (pss_one (ps_expr (pe_mt c1 hr (by decide) (pe_fld (pv 0) rfl) (pa_cons (pe_op op_add (pe_op op_add (pv 1) pe_int) (pe_callB (call_min2 rfl) (by rfl) T.min (by decide +kernel) (pa_cons (pe_op op_sub (pv 3) pe_int) (pa_cons pe_int pa_nil)))) (pa_cons (pv 5) pa_nil)))))
          (pss_one (ps_expr (pe_mt c2 hr (by decide) (pe_fld (pv 0) rfl) (pa_cons (pv 5) pa_nil)))))))))))), ?_⟩
    have hk := log_le hv
    have hd : ((v + 1).log2 = 0) ∨ 1 ≤ (v + 1).log2 := by omega
    refine ⟨_, rfl, c, 16, rfl, hc, ?_⟩
    refine ⟨_, rfl, _, _, rfl, rfl, _, rfl, iteD (by omega) ?_⟩
    refine ⟨_, _, rfl, rfl, _, rfl, iteNS (by omega) ?_⟩
    refine ⟨_, rfl, _, _, rfl, rfl, _, rfl, ?_⟩
    rw [bits_nat]
    generalize ek : (v + 1).log2 = kk at hk
    refine ⟨_, rfl, o, dw, _, rfl, R.same _ _ hw, wF_no _ (by decide +kernel), _, rfl, _, rfl, _, _, rfl, rfl, rfl, rfl, H0, o, p, s, c, kk, ?_, ⟨R, dw, hw⟩, by omega, hk, fun H1 R1 => ?_⟩
    · show [V.ref o, V.int (c : Int), V.int (((kk + 1 : Nat) : Int) - 1), V.int 20] = [V.ref o, V.int (c : Int), V.int (kk : Int), V.int 20]
      rw [show ((kk + 1 : Nat) : Int) - 1 = (kk : Int) by omega]
    refine ⟨_, rfl, _, _, rfl, rfl, _, rfl, _, rfl, _, _, _, kk, rfl, ?_, ?_⟩
    · have := RgC.neg (i := ((kk + 1 : Nat) : Int) - 2) (j := -1) (by omega) (by omega) (by omega) (by omega)
      rw [show (((kk + 1 : Nat) : Int) - 2 - -1).toNat = kk by omega] at this
      exact this
    refine for_rangeC (lo := ((kk + 1 : Nat) : Int) - 2) (c := -1) (n := kk) (fun i σ H' => ∃ (x y : Option V) (si : CS), σ = [some (.ref o), some (.int (c : Int)), some (.int (v : Int)), some (.int ((kk + 1 : Nat) : Int)), x, y] ∧ EncAt CE H0 H' p si ∧ run si (tlD c kk (v + 1) (kk - i)) = run s (numD c v)) ⟨none, none, _, rfl, R1, ?_⟩ ?_ ?_
    · unfold numD
      rw [run_app, ek]
      rfl
    · rintro i σ H' hi ⟨x, y, si, rfl, Ri, ei⟩
      obtain ⟨ok, sm, np, dx, l, nl, h1, h2⟩ := id Ri
      obtain ⟨n, en⟩ : ∃ n, kk - i = n + 1 := ⟨kk - i - 1, by omega⟩
      have epl : ((kk + 1 : Nat) : Int) - 2 + (i : Int) * -1 = (n : Int) := by omega
      rw [en] at ei
      rw [epl]
      have eD : ((v : Int) + 1) / 2 ^ ((n : Int)).toNat % 2 ^ 1 = bit ((v + 1).testBit n) := by
        rw [Int.toNat_natCast]
        exact testBit_int (v + 1) n
      refine ⟨_, rfl, _, _, rfl, rfl, _, rfl, _, _, rfl, rfl, Int.natCast_nonneg _, _, 1, rfl, rfl, ?_⟩
      rw [eD]
      refine ⟨_, rfl, _, rfl, _, _, rfl, rfl, rfl, _, rfl, ?_⟩
      by_cases hn : n + 1 = kk
      · refine iteD (int_eq_iff.mpr (by omega)) ?_
        refine ⟨_, rfl, o, CW, dw, _, _, rfl, sm _ _ hw, T.clW, T.wE, wF_e _, p, dx, _, rfl, h1, eF_no _ _ (by decide +kernel), _, rfl, _, _, rfl, rfl, _, rfl, _, _, rfl, rfl, _, _, rfl, _, _, rfl, rfl, _, rfl, H0, p, si, c + 8 + min (kk - 1) 7, (v + 1).testBit n, ?_, Ri, by omega, fun H2 R2 => ?_⟩
        · have e7 : (if (7 : Int) < ((kk + 1 : Nat) : Int) - 2 then (7 : Int) else ((kk + 1 : Nat) : Int) - 2) = ((min (kk - 1) 7 : Nat) : Int) := by split <;> omega
          rw [e7]
          rfl
        · refine ⟨_, _, _, rfl, R2, ?_⟩
          rw [← ei, show kk - (i + 1) = n by omega, tlD_succ, if_pos hn, run_cons]
      · refine iteDN (fun z => hn (by have := int_eq_iff.mp z; omega)) ?_
        refine ⟨_, rfl, o, CW, dw, _, _, rfl, sm _ _ hw, T.clW, T.wE, wF_e _, p, dx, _, rfl, h1, eF_no _ _ (by decide +kernel), _, rfl, H0, p, si, _, rfl, Ri, fun H2 R2 => ?_⟩
        refine ⟨_, _, _, rfl, R2, ?_⟩
        rw [← ei, show kk - (i + 1) = n by omega, tlD_succ, if_neg hn, run_cons]
    · rintro σ H' ⟨x, y, si, rfl, Ri, ei⟩
      rw [Nat.sub_self] at ei
      refine k _ ?_
      rw [← ei]
      exact Ri
end
end K47
namespace K47
open PySem L2
open C8 (Cal Met Mak pe_c pe_mk pe_mt pe_mt0 fnScope pss_cut)
section
variable {P : Program} {w : World} {K : PySem.W.Frag} {mg : Str → Option Value} {base : Heap} {CE CD CW CR : Addr} {f : Addr} {fd : FuncData}
def spRInit (C : Addr) : Sp := fun vs H Q _ => ∃ (o dx p : Addr), vs = [.ref o, .ref p] ∧ H o = some (.ins C dx []) ∧ Q .non (upd H o (.ins C dx (rF p)))
theorem scRInit : FnScope ["self", "decoder"] ["self", "decoder"] (fnScope sRInit) := C8.fnScope_by (by decide +kernel)
theorem fn_rInit (F : C8.Fun K "__init__" "SymbolReader.__init__" sRInit f fd) (T : Txt K mg CE CD CW CR) : FnOk P w K mg base C8.CX0 1 f fd ["self", "decoder"] (spRInit CR) := by
  refine C8.fn0 F scRInit (fun vs H Q E h => ?_) (fun cdv A outer s H vs Q E hr h => ?_)
  · obtain ⟨o, dx, p, rfl, _⟩ := h
    rfl
  · obtain ⟨o, dx, p, rfl, ho, k⟩ := h
    refine ⟨_, pss_one (ps_fld (pv 0) (pv 1) rfl), ?_⟩
    exact ⟨_, rfl, _, rfl, o, CR, dx, _, rfl, ho, T.clR, T.rD, (by show 0 < 1000; decide), k⟩
/-- a reader stands at o, over the decoder at q -/
structure RdAt (CD CR : Addr) (H0 H : Hp) (o q : Addr) (g s : CS) : Prop where
  dec : DecAt CD H0 H q g s
  rd : ∃ dw, H0 o = some (.ins CR dw (rF q))
def spREven (CD CR : Addr) : Sp := fun vs H Q _ => ∃ (H0 : Hp) (o q : Addr) (s : CS) (b : Bool) (rest : List Dn), vs = [.ref o] ∧ RdAt CD CR H0 H o q (run s ((none, b) :: rest)) s ∧ ∀ H', DecAt CD H0 H' q (run s ((none, b) :: rest)) (stepC s (none, b)) → Q (.int (bit b)) H'
theorem scREven : FnScope ["self"] ["self"] (fnScope sREven) := C8.fnScope_by (by decide +kernel)
theorem met_rEven (F : C8.Fun K "even" "SymbolReader.even" sREven f fd) (b : Binds K fd ["self"] []) (m : Meth K CR "even" f) (T : Txt K mg CE CD CW CR) (c1 : Met P w K mg base 3 CD "read_even" (spDEven CD) []) : Met P w K mg base 4 CR "even" (spREven CD CR) [] := by
  refine C8.met0 T.clR m F b scREven (fun vs H Q E h => ?_) (fun cdv A outer s H vs Q E hr h => ?_)
  · obtain ⟨H0, o, q, s, b, rest, rfl, _⟩ := h
    rfl
  · obtain ⟨H0, o, q, s, b, rest, rfl, ⟨R, dw, hw⟩, k⟩ := h
    obtain ⟨ok, sm, np, dx, l, src, xs, nl, ns, sl, h1, h2, h3, io⟩ := id R
    refine ⟨_, pss_one (ps_ret (pe_mt0 c1 hr (by decide) (pe_fld (pv 0) rfl))), ?_⟩
    exact ⟨_, rfl, o, CR, dw, _, _, rfl, sm _ _ hw, T.clR, T.rD, rF_d _, q, dx, _, rfl, h1, gF_no _ _ _ _ _ (by decide +kernel), H0, q, s, b, rest, rfl, R, k⟩
def spRFlag (CD CR : Addr) : Sp := fun vs H Q _ => ∃ (H0 : Hp) (o q : Addr) (s : CS) (c : Nat) (b : Bool) (rest : List Dn), vs = [.ref o, .int (c : Int)] ∧ RdAt CD CR H0 H o q (run s ((some c, b) :: rest)) s ∧ c < 256 ∧ ∀ H', DecAt CD H0 H' q (run s ((some c, b) :: rest)) (stepC s (some c, b)) → Q (.bl b) H'
theorem scRFlag : FnScope ["self", "base"] ["self", "base"] (fnScope sRFlag) := C8.fnScope_by (by decide +kernel)
theorem bit_one (b : Bool) : decide (V.int (bit b) = V.int 1) = b := by cases b <;> rfl
theorem met_rFlag (F : C8.Fun K "flag" "SymbolReader.flag" sRFlag f fd) (b : Binds K fd ["self", "base"] []) (m : Meth K CR "flag" f) (T : Txt K mg CE CD CW CR) (c0 : Cal P w K mg base 1 "check_contexts" spChkContexts []) (c1 : Met P w K mg base 3 CD "read" (spDRead CD) []) : Met P w K mg base 4 CR "flag" (spRFlag CD CR) [] := by
  refine C8.met0 T.clR m F b scRFlag (fun vs H Q E h => ?_) (fun cdv A outer s H vs Q E hr h => ?_)
  · obtain ⟨H0, o, q, s, c, b, rest, rfl, _⟩ := h
    rfl
  · obtain ⟨H0, o, q, s, c, b, rest, rfl, ⟨R, dw, hw⟩, hc, k⟩ := h
    obtain ⟨ok, sm, np, dx, l, src, xs, nl, ns, sl, h1, h2, h3, io⟩ := id R
    refine ⟨_, pss_cons (ps_expr (pe_c c0 hr (by decide) (by rfl) (pa_cons (pv 1) (pa_cons pe_int pa_nil))))
      (pss_one (ps_ret (pe_cmpR op_eq (pe_mt c1 hr (by decide) (pe_fld (pv 0) rfl) (pa_cons (pv 1) pa_nil)) pe_int (nomark _)))), ?_⟩
    refine ⟨_, rfl, c, 1, rfl, by omega, ?_⟩
    refine ⟨_, rfl, o, CR, dw, _, _, rfl, sm _ _ hw, T.clR, T.rD, rF_d _, q, dx, _, rfl, h1, gF_no _ _ _ _ _ (by decide +kernel), _, rfl, H0, q, s, c, b, rest, rfl, hc, R, fun H1 R1 => ⟨rfl, ?_⟩⟩
    rw [bit_one]
    exact k _ R1
def spRUnary (CD CR : Addr) : Sp := fun vs H Q _ => ∃ (H0 : Hp) (o q : Addr) (s : CS) (c v : Nat) (rest : List Dn), vs = [.ref o, .int (c : Int), .int 20] ∧ RdAt CD CR H0 H o q (run s (unD c 20 0 v ++ rest)) s ∧ c + 8 ≤ 256 ∧ v ≤ 20 ∧
  ∀ H', DecAt CD H0 H' q (run s (unD c 20 0 v ++ rest)) (run s (unD c 20 0 v)) → Q (.int (v : Int)) H'
theorem scRUnary : FnScope ["self", "base", "most", "value"] ["self", "base", "most"] (fnScope sRUnary) := C8.fnScope_by (by decide +kernel)
theorem fn_rUnary (F : C8.Fun K "unary" "SymbolReader.unary" sRUnary f fd) (T : Txt K mg CE CD CW CR) (c0 : Cal P w K mg base 2 "check_unary" spChkUnary []) (c1 : Met P w K mg base 3 CD "read" (spDRead CD) []) : FnOk P w K mg base C8.CX0 4 f fd ["self", "base", "most"] (spRUnary CD CR) := by
  refine C8.fn0 F scRUnary (fun vs H Q E h => ?_) (fun cdv A outer s H vs Q E hr h => ?_)
  · obtain ⟨H0, o, q, s, c, v, rest, rfl, _⟩ := h
    rfl
  · obtain ⟨H0, o, q, s, c, v, rest, rfl, ⟨R, dw, hw⟩, hc, hv, k⟩ := h
    refine ⟨_, pss_cons (ps_expr (pe_c c0 hr (by decide) (by rfl) (pa_cons (pv 1) (pa_cons (pv 2) pa_nil))))
      (pss_cons (ps_set (i := 3) scRUnary.nd rfl (Or.inl rfl) pe_int)
      (pss_cons (ps_while PassesOwn.never (PW.pt (pw_and (pt_cmpR op_lt (pv 3) (pv 2) (nomark _)) (pw_and1 (pt_cmpR op_eq (pe_mt c1 hr (by decide) (pe_fld (pv 0) rfl) (pa_cons (pe_op op_add (pv 1) (pe_callB (call_min2 rfl) (by rfl) T.min (by decide +kernel) (pa_cons (pv 3) (pa_cons pe_int pa_nil)))) pa_nil)) pe_int (nomark _)))))
        (pss_one (ps_aug (i := 3) scRUnary.nd rfl (Or.inl rfl) pe_int ip_add)))
      (pss_one (ps_ret (pv 3))))), ?_⟩
    refine ⟨_, rfl, _, rfl, c, rfl, hc, ?_⟩
    generalize eg : run s (unD c 20 0 v ++ rest) = g at R k
    refine ⟨fun m σ H' => ∃ (i : Nat) (si : CS), m = v - i ∧ i ≤ v ∧ σ = [some (.ref o), some (.int (c : Int)), some (.int 20), some (.int (i : Int))] ∧ DecAt CD H0 H' q g si ∧ g = run si (unD c 20 i (v - i) ++ rest) ∧ run si (unD c 20 i (v - i)) = run s (unD c 20 0 v), ⟨v, 0, s, rfl, Nat.zero_le _, rfl, R, eg.symm, rfl⟩, ?_⟩
    rintro m σ H' ⟨i, si, rfl, hi, rfl, Ri, ei, ej⟩
    obtain ⟨ok, sm, np, dx, l, src, xs, nl, ns, sl, h1, h2, h3, io⟩ := id Ri
    refine ⟨_, rfl, _, rfl, _, _, rfl, rfl, _, rfl, ?_⟩
    by_cases lt : i < v
    · refine iteD (by omega) ?_
      obtain ⟨n, en⟩ : ∃ n, v - i = n + 1 := ⟨v - i - 1, by omega⟩
      rw [en, unD_succ] at ei ej
      refine ⟨_, rfl, o, CR, dw, _, _, rfl, sm _ _ hw, T.clR, T.rD, rF_d _, q, dx, _, rfl, h1, gF_no _ _ _ _ _ (by decide +kernel), _, rfl, _, rfl, _, _, rfl, _, _, rfl, rfl, H0, q, si, c + min i 7, true, unD c 20 (i + 1) n ++ rest, ?_, by omega, (by rw [ei] at Ri; exact Ri), fun H1 R1 => ⟨rfl, _, rfl, ?_⟩⟩
      · rw [min7']
        rfl
      · rw [bit_one]
        refine iteT ?_
        refine ⟨fun σ' H'' => σ' = [some (.ref o), some (.int (c : Int)), some (.int 20), some (.int ((i + 1 : Nat) : Int))] ∧ H'' = H1, ?_, ?_⟩
        · rintro σ' H'' ⟨rfl, rfl⟩
          refine ⟨v - (i + 1), by omega, i + 1, _, rfl, lt, rfl, (by rw [ei]; exact R1), ?_, ?_⟩
          · rw [ei, show v - (i + 1) = n by omega]
            rfl
          · rw [← ej, show v - (i + 1) = n by omega]
            rfl
        · exact ⟨_, rfl, _, _, rfl, rfl, rfl, rfl⟩
    · have hiv : i = v := by omega
      subst hiv
      rw [Nat.sub_self] at ei ej
      by_cases l20 : i < 20
      · refine iteD (by omega) ?_
        have eu : unD c 20 i 0 = [(some (c + min i 7), false)] := if_pos l20
        rw [eu] at ei ej
        refine ⟨_, rfl, o, CR, dw, _, _, rfl, sm _ _ hw, T.clR, T.rD, rF_d _, q, dx, _, rfl, h1, gF_no _ _ _ _ _ (by decide +kernel), _, rfl, _, rfl, _, _, rfl, _, _, rfl, rfl, H0, q, si, c + min i 7, false, rest, ?_, by omega, (by rw [ei] at Ri; exact Ri), fun H1 R1 => ⟨rfl, _, rfl, ?_⟩⟩
        · rw [min7']
          rfl
        · rw [bit_one]
          refine iteF ⟨_, rfl, k _ ?_⟩
          rw [← ej, ei]
          exact R1
      · refine iteDN (by omega) (iteF ⟨_, rfl, k _ ?_⟩)
        have eu : unD c 20 i 0 = [] := if_neg l20
        rw [eu] at ej
        rw [← ej]
        exact Ri
def spRNumber (CD CR : Addr) : Sp := fun vs H Q _ => ∃ (H0 : Hp) (o q : Addr) (s : CS) (c v : Nat) (rest : List Dn), vs = [.ref o, .int (c : Int)] ∧ RdAt CD CR H0 H o q (run s (numD c v ++ rest)) s ∧ c + 16 ≤ 256 ∧ v ≤ 1048576 ∧
  ∀ H', DecAt CD H0 H' q (run s (numD c v ++ rest)) (run s (numD c v)) → Q (.int (v : Int)) H'
theorem scRNumber : FnScope ["self", "base", "digits", "value", "place"] ["self", "base"] (fnScope sRNumber) := C8.fnScope_by (by decide +kernel)
theorem met_rNumber (F : C8.Fun K "number" "SymbolReader.number" sRNumber f fd) (b : Binds K fd ["self", "base"] []) (m : Meth K CR "number" f) (T : Txt K mg CE CD CW CR) (c0 : Cal P w K mg base 1 "check_contexts" spChkContexts [])
    (c1 : Met P w K mg base 3 CD "read" (spDRead CD) []) (c2 : Met P w K mg base 3 CD "read_even" (spDEven CD) []) (c3 : MetN P w K mg base 4 CR "unary" 2 ["most"] (spRUnary CD CR)) : Met P w K mg base 5 CR "number" (spRNumber CD CR) [] := by
  refine C8.met0 T.clR m F b scRNumber (fun vs H Q E h => ?_) (fun cdv A outer s H vs Q E hr h => ?_)
  · obtain ⟨H0, o, q, s, c, v, rest, rfl, _⟩ := h
    rfl
  · obtain ⟨H0, o, q, s, c, v, rest, rfl, ⟨R, dw, hw⟩, hc, hv, k⟩ := h
    refine ⟨_, pss_cons (ps_expr (pe_c c0 hr (by decide) (by rfl) (pa_cons (pv 1) (pa_cons pe_int pa_nil))))
      (pss_cons (ps_set (i := 2) scRNumber.nd rfl (Or.inl rfl) (pe_op op_add (pe_mtN c3 hr (by decide) (pv 0) (pa_cons (pv 1) pa_nil) (pk_cons (pe_kst (by rfl) T.kPREFIX) pk_nil)) pe_int))
      (pss_cons (ps_set (i := 3) scRNumber.nd rfl (Or.inl rfl) pe_int)
      (pss_cons (ps_for PassesOwn.never rfl (pi_range3 (by rfl) T.range (pa_cons (pe_op op_sub (pv 2) pe_int) (pa_cons (pe_un un_neg pe_int) (pa_cons (pe_un un_neg pe_int) pa_nil)))) (pg_name (i := 4) scRNumber.nd rfl (Or.inl rfl))
        (pss_one (ps_if (pt_cmpR op_eq (pv 4) (pe_op op_sub (pv 2) pe_int) (nomark _))
          (pss_one (ps_set (i := 3) scRNumber.nd rfl (Or.inl rfl) (pe_op op_add (pe_op op_mul pe_int (pv 3)) (pe_mt c1 hr (by decide) (pe_fld (pv 0) rfl) (pa_cons (pe_op op_add (pe_op op_add (pv 1) pe_int) (pe_callB (call_min2 rfl) (by rfl) T.min (by decide +kernel) (pa_cons (pe_op op_sub (pv 2) pe_int) (pa_cons pe_int pa_nil)))) pa_nil)))))
          (pss_one (ps_set (i := 3) scRNumber.nd rfl (Or.inl rfl) (pe_op op_add (pe_op op_mul pe_int (pv 3)) (pe_mt0 c2 hr (by decide) (pe_fld (pv 0) rfl))))))))
      (pss_one (ps_ret (pe_callB (call_min2 rfl) (by rfl) T.min (by decide +kernel) (pa_cons (pe_op op_sub (pv 3) pe_int) (pa_cons (pe_kst (by rfl) T.kMAX) pa_nil)))))))), ?_⟩
    have hk := log_le hv
    have e1 : (v + 1) / 2 ^ (v + 1).log2 = 1 := digit_first (by omega)
    generalize eg : run s (numD c v ++ rest) = g at R k
    have eg2 : run s (unD c 20 0 (v + 1).log2 ++ (tlD c (v + 1).log2 (v + 1) (v + 1).log2 ++ rest)) = g := by
      rw [← eg]
      unfold numD
      rw [List.append_assoc]
    have ek2 : run s (numD c v) = run (run s (unD c 20 0 (v + 1).log2)) (tlD c (v + 1).log2 (v + 1) (v + 1).log2) := by
      unfold numD
      rw [run_app]
    generalize ek : (v + 1).log2 = kk at hk e1 eg2 ek2
    refine ⟨_, rfl, c, 16, rfl, hc, ?_⟩
    refine ⟨_, rfl, o, dw, _, rfl, R.same _ _ hw, rF_no _ (by decide +kernel), _, rfl, rfl, rfl, H0, o, q, s, c, kk, _, rfl, ⟨(by rw [eg2]; exact R), dw, hw⟩, by omega, hk, fun H1 R1 => ?_⟩
    rw [eg2] at R1
    refine ⟨_, _, rfl, rfl, _, rfl, _, _, rfl, rfl, _, rfl, _, rfl, _, _, _, kk, rfl, ?_, ?_⟩
    · have := RgC.neg (i := (kk : Int) + 1 - 2) (j := -1) (by omega) (by omega) (by omega) (by omega)
      rw [show ((kk : Int) + 1 - 2 - -1).toNat = kk by omega] at this
      exact this
    refine for_rangeC (lo := (kk : Int) + 1 - 2) (c := -1) (n := kk) (fun i σ H' => ∃ (x : Option V) (si : CS), σ = [some (.ref o), some (.int (c : Int)), some (.int ((kk : Int) + 1)), some (.int (((v + 1) / 2 ^ (kk - i) : Nat) : Int)), x] ∧ DecAt CD H0 H' q g si ∧ g = run si (tlD c kk (v + 1) (kk - i) ++ rest) ∧ run si (tlD c kk (v + 1) (kk - i)) = run s (numD c v)) ⟨none, _, ?_, R1, ?_, ?_⟩ ?_ ?_
    · rw [Nat.sub_zero, e1]
      rfl
    · rw [← eg2, run_app]
      rfl
    · rw [ek2]
      rfl
    · rintro i σ H' hi ⟨x, si, rfl, Ri, ei, ej⟩
      obtain ⟨ok, sm, np, dx, l, src, xs, nl, ns, sl, h1, h2, h3, io⟩ := id Ri
      obtain ⟨n, en⟩ : ∃ n, kk - i = n + 1 := ⟨kk - i - 1, by omega⟩
      have epl : (kk : Int) + 1 - 2 + (i : Int) * -1 = (n : Int) := by omega
      have en' : kk - (i + 1) = n := by omega
      rw [en, tlD_succ] at ei ej
      rw [epl, en, en']
      refine ⟨_, rfl, _, rfl, _, _, rfl, rfl, rfl, _, rfl, ?_⟩
      by_cases hn : n + 1 = kk
      · refine iteD (int_eq_iff.mpr (by omega)) ?_
        rw [if_pos hn] at ei ej
        refine ⟨_, rfl, _, _, rfl, rfl, .inl ⟨by decide, by decide⟩, _, rfl, o, CR, dw, _, _, rfl, sm _ _ hw, T.clR, T.rD, rF_d _, q, dx, _, rfl, h1, gF_no _ _ _ _ _ (by decide +kernel), _, rfl, _, _, rfl, rfl, _, rfl, _, _, rfl, rfl, _, _, rfl, _, _, rfl, rfl, H0, q, si, c + 8 + min (kk - 1) 7, (v + 1).testBit n, tlD c kk (v + 1) n ++ rest, ?_, by omega, (by rw [ei] at Ri; exact Ri), fun H2 R2 => ?_⟩
        · have e7 : (if (7 : Int) < (kk : Int) + 1 - 2 then (7 : Int) else (kk : Int) + 1 - 2) = ((min (kk - 1) 7 : Nat) : Int) := by split <;> omega
          rw [e7]
          rfl
        · refine ⟨_, _, rfl, rfl, some (V.int (n : Int)), _, ?_, (by rw [ei]; exact R2), ?_, ?_⟩
          · rw [← digit_step (v + 1) n]
            rfl
          · rw [ei]
            rfl
          · rw [← ej]
            rfl
      · refine iteDN (fun z => hn (by have := int_eq_iff.mp z; omega)) ?_
        rw [if_neg hn] at ei ej
        refine ⟨_, rfl, _, _, rfl, rfl, .inl ⟨by decide, by decide⟩, _, rfl, o, CR, dw, _, _, rfl, sm _ _ hw, T.clR, T.rD, rF_d _, q, dx, _, rfl, h1, gF_no _ _ _ _ _ (by decide +kernel), H0, q, si, (v + 1).testBit n, tlD c kk (v + 1) n ++ rest, rfl, (by rw [ei] at Ri; exact Ri), fun H2 R2 => ?_⟩
        refine ⟨_, _, rfl, rfl, some (V.int (n : Int)), _, ?_, (by rw [ei]; exact R2), ?_, ?_⟩
        · rw [← digit_step (v + 1) n]
          rfl
        · rw [ei]
          rfl
        · rw [← ej]
          rfl
    · rintro σ H' ⟨x, si, rfl, Ri, ei, ej⟩
      rw [Nat.sub_self] at ej
      refine ⟨_, rfl, _, _, rfl, rfl, _, _, rfl, ?_⟩
      have ev : (if (1048576 : Int) < (((v + 1) / 2 ^ (kk - kk) : Nat) : Int) - 1 then (1048576 : Int) else (((v + 1) / 2 ^ (kk - kk) : Nat) : Int) - 1) = (v : Int) := by
        rw [Nat.sub_self, Nat.pow_zero, Nat.div_one]
        split <;> omega
      rw [ev]
      refine k _ ?_
      rw [← ej]
      exact Ri
end
end K47
namespace K47
open PySem L2
open C8 (Cal Met Mak pe_c pe_mk pe_mt pe_mt0 fnScope pss_cut)
/-! ### lists of ints and of places, as values -/
abbrev iL (lv : List Int) : List V := lv.map V.int
abbrev nL (ps : List Nat) : List V := ps.map fun i : Nat => V.int (i : Int)
theorem iL_get {lv : List Int} {i : Nat} (h : i < lv.length) : (iL lv)[i]? = some (V.int (lv.getD i 0)) := by
  rw [List.getElem?_map, List.getElem?_eq_getElem h, List.getD_eq_getElem?_getD, List.getElem?_eq_getElem h]
  rfl
theorem iL_at {lv : List Int} {i : Nat} (h : i < lv.length) : atI (iL lv) (i : Int) = some (V.int (lv.getD i 0)) := atI_nat (iL_get h)
theorem nz_val (lv : List Int) (i : Nat) : (!decide (V.int (lv.getD i 0) = V.int 0)) = nz lv i := by
  unfold nz
  by_cases h : lv.getD i 0 = 0
  · rw [decide_eq_true (int_eq_iff.mpr h), decide_eq_false (fun z => z h)]
    rfl
  · rw [decide_eq_false (fun z => h (int_eq_iff.mp z)), decide_eq_true h]
    rfl
theorem nL_snoc (ps : List Nat) (z : Nat) : nL (ps ++ [z]) = nL ps ++ [V.int (z : Int)] := List.map_append ..
theorem iL_snoc (ps : List Int) (z : Int) : iL (ps ++ [z]) = iL ps ++ [V.int z] := List.map_append ..
theorem nL_last (ps : List Nat) (z : Nat) : atI (nL (ps ++ [z])) (-1) = some (V.int (z : Int)) := by
  unfold nL
  rw [List.map_append]
  exact atI_last _ _
theorem plD_succ (lv : List Int) (z i n : Nat) : plD lv z i (n + 1) = if nz lv i = true then (some (64 + cls lv.length i), true) :: (some (128 + cls lv.length i), decide (i = z)) :: (if i = z then [] else plD lv z (i + 1) n)
    else (some (64 + cls lv.length i), false) :: plD lv z (i + 1) n := rfl
theorem cls_int (c a : Nat) (k : Nat) : V.int ((k : Int) + ((cls c a : Nat) : Int)) = V.int ((k + cls c a : Nat) : Int) := rfl
theorem same_ext {H H2 : Hp} {D : Addr} {o : HO} (m : Same H H2) (h : H2 D = some o) : Same (upd H D o) H2 := fun b u e => by
  by_cases hb : b = D
  · subst hb
    rw [upd_same] at e
    rw [h]
    exact e
  · rw [upd_ne hb] at e
    exact m _ _ e
theorem Good.le {lv : List Int} {c : Nat} (g : Good lv c) : 16 ≤ lv.length ∧ lv.length ≤ 64 := by
  have a := g.len
  have b := g.c
  omega
theorem cls_lt {lv : List Int} {c i : Nat} (g : Good lv c) (h : i < lv.length - 1) : cls lv.length i < 64 := by
  have a := g.len
  have b := g.c
  unfold cls
  split <;> omega
section
variable {P : Program} {w : World} {K : PySem.W.Frag} {mg : Str → Option Value} {base : Heap} {CE CD CW CR : Addr} {f : Addr} {fd : FuncData}
/-! ### check_levels, position_class -/
def spChkLevels (K : PySem.W.Frag) : Sp := fun vs H Q _ => ∃ (a : Addr) (lv : List Int) (c : Nat), vs = [.ref a] ∧ SqL K H a (iL lv) ∧ Good lv c ∧ ∀ H', Same H H' → Q .non H'
theorem scChkLevels : FnScope ["levels", "level"] ["levels"] (fnScope sChkLevels) := C8.fnScope_by (by decide +kernel)
theorem cal_chkLevels (F : C8.Def K mg "check_levels" sChkLevels f fd) (b : Binds K fd ["levels"] []) (T : Txt K mg CE CD CW CR) : Cal P w K mg base 1 "check_levels" (spChkLevels K) [] := by
  refine C8.cal0 F b .nil scChkLevels (fun vs H Q E h => ?_) (fun cdv A outer s H vs Q E hr h => ?_)
  · obtain ⟨a, lv, c, rfl, _⟩ := h
    rfl
  · obtain ⟨a, lv, c, rfl, hS, g, k⟩ := h
    refine ⟨_, pss_cons (ps_if (pt_cmpR op_notIn_seq (pe_callB call_len_seq (by rfl) T.len PySem.boot_len (pa_cons (pv 0) pa_nil)) (pe_tup (pa_cons pe_int (pa_cons pe_int pa_nil))) (by rfl)) (pss_one ps_never) pss_nil)
      (pss_one (ps_for PassesOwn.never rfl (pi_list (pv 0)) (pg_name (i := 1) scChkLevels.nd rfl (Or.inl rfl))
        (pss_one (ps_if (pt_not (pt_chain op_le op_le (pe_kst (by rfl) T.kLEAST_LEVEL) (pv 1) (pe_kst (by rfl) T.kGREATEST_LEVEL))) (pss_one ps_never) pss_nil)))), ?_⟩
    refine ⟨_, rfl, a, _, rfl, .inl hS, (by show 2 ≤ sizeLine; decide), fun t nt => ?_⟩
    have m := same_upd (o := .tup [V.int 16, V.int 64]) nt
    refine ⟨t, _, rfl, .inr (.inl (.inl upd_same)), rfl, rfl, _, rfl, ?_⟩
    have e : inV (V.int ((iL lv).length : Int)) [V.int 16, V.int 64] = true := by
      rw [List.length_map, g.len]
      rcases g.c with e | e <;> rw [e] <;> rfl
    rw [if_pos rfl, e]
    refine iteF ?_
    refine ⟨_, rfl, a, rfl, ⟨_, m.seq hS⟩, for_list (K := K) (a := a) (xs := iL lv) (fun i σ H' => ∃ x : Option V, σ = [some (.ref a), x] ∧ H' = upd H t (.tup [V.int 16, V.int 64])) ⟨none, rfl, rfl⟩ (fun i σ H' _ ⟨_, _, e⟩ => by rw [e]; exact m.seq hS) ?_ ?_⟩
    · rintro i y σ H' hi ⟨x, rfl, rfl⟩
      obtain ⟨z, hz, rfl⟩ : ∃ z, z ∈ lv ∧ y = V.int z := by
        have := List.mem_of_getElem? hi
        obtain ⟨z, hz, e⟩ := List.mem_map.mp this
        exact ⟨z, hz, e.symm⟩
      have rg := g.rg z hz
      refine ⟨_, rfl, _, _, rfl, rfl, _, rfl, iteD rg.1 ?_⟩
      refine ⟨_, _, rfl, rfl, _, rfl, iteNS rg.2 ?_⟩
      exact ⟨_, rfl, rfl⟩
    · rintro σ H' ⟨x, rfl, rfl⟩
      exact k _ m
def spPosClass : Sp := fun vs H Q _ => ∃ (a c : Nat), vs = [.int (a : Int), .int (c : Int)] ∧ Q (.int ((cls c a : Nat) : Int)) H
theorem scPosClass : FnScope ["at", "count"] ["at", "count"] (fnScope sPosClass) := C8.fnScope_by (by decide +kernel)
theorem cal_posClass (F : C8.Def K mg "position_class" sPosClass f fd) (b : Binds K fd ["at", "count"] []) : Cal P w K mg base 1 "position_class" spPosClass [] := by
  refine C8.cal0 F b .nil scPosClass (fun vs H Q E h => ?_) (fun cdv A outer s H vs Q E hr h => ?_)
  · obtain ⟨a, c, rfl, _⟩ := h
    rfl
  · obtain ⟨a, c, rfl, k⟩ := h
    refine ⟨_, pss_one (ps_ret (pe_ifExp (pt_cmpR op_eq (pv 1) pe_int (nomark _)) (pv 0) (pe_op op_mul pe_int (pv 0)))), ?_⟩
    refine ⟨_, rfl, rfl, _, rfl, ?_⟩
    unfold cls at k
    by_cases h : c = 64
    · rw [if_pos h] at k
      exact iteD (int_eq_iff.mpr (by omega)) ⟨_, rfl, k⟩
    · rw [if_neg h] at k
      exact iteDN (fun z => h (by have := int_eq_iff.mp z; omega)) ⟨_, rfl, _, _, rfl, rfl, .inl ⟨by decide, by decide⟩, k⟩
/-! ### put_places -/
def spPutPlaces (CE CW : Addr) : Sp := fun vs H Q _ => ∃ (H0 : Hp) (o p a : Addr) (s : CS) (lv : List Int) (c : Nat), vs = [.ref o, .ref a] ∧ WrAt CE CW H0 H o p s ∧ H0 a = some (.lst (iL lv)) ∧ Good lv c ∧
  ∀ (q : Addr) (H' : Hp), H0 q = none → EncAt CE (upd H0 q (.lst (nL (plc lv lv.length)))) H' p (run s (plD lv (lastOf lv lv.length) 0 (lv.length - 1))) → Q (.ref q) H'
theorem scPutPlaces : FnScope ["writer", "levels", "count", "places", "at", "place", "level"] ["writer", "levels"] (fnScope sPutPlaces) := C8.fnScope_by (by decide +kernel)
theorem cal_putPlaces (F : C8.Def K mg "put_places" sPutPlaces f fd) (b : Binds K fd ["writer", "levels"] []) (T : Txt K mg CE CD CW CR) (c0 : Cal P w K mg base 1 "position_class" spPosClass []) (c1 : Met P w K mg base 3 CW "flag" (spWFlag CE CW) []) : Cal P w K mg base 4 "put_places" (spPutPlaces CE CW) [] := by
  refine C8.cal0 F b .nil scPutPlaces (fun vs H Q E h => ?_) (fun cdv A outer s H vs Q E hr h => ?_)
  · obtain ⟨H0, o, p, a, s, lv, c, rfl, _⟩ := h
    rfl
  · obtain ⟨H0, o, p, a, s, lv, c, rfl, ⟨R, dw, hw⟩, ha, g, k⟩ := h
    refine ⟨_, pss_cons (ps_set (i := 2) scPutPlaces.nd rfl (Or.inl rfl) (pe_callB call_len_seq (by rfl) T.len PySem.boot_len (pa_cons (pv 1) pa_nil)))
      (pss_cons (ps_setLc (i := 3) (own := [("at", 4), ("level", 6)]) (g := gTup K 2 (gCons (gName 4) (gCons (gName 6) gNil))) (tt := tTest (tOp rNe (tVar 6) (tC (.int 0)))) (te := tVar 4) (by rfl) scPutPlaces.nd rfl rfl (sw_true rfl rfl rfl (by decide +kernel))
        (pi_enum (by rfl) T.enumerate (pa_cons (pv 1) pa_nil)) (blkOk_by (own := [("at", 4), ("level", 6)]) (N := ["writer", "levels", "count", "places", "at", "place", "level"]) (sc := fnScope sPutPlaces) (by decide +kernel))
        (fun _ _ _ _ _ => pg_tup rfl (pgs_cons (pg_name (i := 4) scPutPlaces.nd rfl (Or.inl rfl)) (pgs_cons (pg_name (i := 6) scPutPlaces.nd rfl (Or.inl rfl)) pgs_nil)))
        (fun _ _ _ _ _ => pts_one (pt_cmpR op_ne (pv 6) pe_int (nomark _))) (fun _ _ _ _ _ => pv 4))
      (pss_cons (ps_for PassesOwn.never rfl (pi_range1 rfl T.range (pa_cons (pe_op op_sub (pv 2) pe_int) pa_nil)) (pg_name (i := 4) scPutPlaces.nd rfl (Or.inl rfl))
        (pss_cons (ps_set (i := 5) scPutPlaces.nd rfl (Or.inl rfl) (pe_c c0 hr (by decide) (by rfl) (pa_cons (pv 4) (pa_cons (pv 2) pa_nil))))
        (pss_cons (ps_expr (pe_mt c1 hr (by decide) (pv 0) (pa_cons (pe_op op_add (pe_kst (by rfl) T.kSIG) (pv 5)) (pa_cons (pe_cmpR op_ne (pe_ix ix_list (pv 1) (pv 4) (fun _ _ => rfl)) pe_int (nomark _)) pa_nil))))
        (pss_one (ps_if (pt_cmpR op_ne (pe_ix ix_list (pv 1) (pv 4) (fun _ _ => rfl)) pe_int (nomark _))
          (pss_cons (ps_expr (pe_mt c1 hr (by decide) (pv 0) (pa_cons (pe_op op_add (pe_kst (by rfl) T.kLAST) (pv 5)) (pa_cons (pe_cmpR op_eq (pv 4) (pe_ix ix_list (pv 3) (pe_un un_neg pe_int) (fun _ _ => rfl)) (nomark _)) pa_nil))))
          (pss_one (ps_if (pt_cmpR op_eq (pv 4) (pe_ix ix_list (pv 3) (pe_un un_neg pe_int) (fun _ _ => rfl)) (nomark _)) (pss_one ps_break) pss_nil))) pss_nil)))))
      (pss_one (ps_ret (pv 3))))), ?_⟩
    have gl := g.le
    obtain ⟨⟨ps0, eps⟩, lt, lz, la⟩ := plc_last lv lv.length g.ex
    have pa : H a = some (.lst (iL lv)) := R.same _ _ ha
    refine ⟨_, rfl, a, _, rfl, .inl (SqL.of pa), ?_⟩
    rw [List.length_map]
    refine ⟨_, rfl, a, iL lv, rfl, SqL.of pa, fun D nD => ?_⟩
    have m0 := same_upd (o := .lst []) nD
    refine lc_it (walk_enum (K := K) (a := a) (xs := iL lv)) (fun i H' => Same H H' ∧ H' D = some (.lst (nL (plc lv i)))) ⟨m0, upd_same⟩ (fun i H' _ q => SqL.of (q.1 _ _ pa)) ?_ ?_
    · rintro i x H1 H2 hi ⟨m1, d1⟩ ⟨TT, x1, x2, rfl, nT, rfl, e1, e2⟩
      rw [List.length_map] at hi
      cases e1
      have e2 : (iL lv)[i]? = some x2 := e2
      rw [iL_get hi] at e2
      cases e2
      have m2 := same_upd (o := .tup [V.int (i : Int), V.int (lv.getD i 0)]) nT
      refine ⟨TT, _, rfl, .inl (.inl upd_same), rfl, _, _, rfl, _, _, rfl, rfl, rfl, _, rfl, rfl, _, rfl, ?_⟩
      rw [nz_val]
      by_cases h : nz lv i = true
      · rw [h]
        refine iteT ⟨_, rfl, _, m2 _ _ d1, ?_, ?_, ?_⟩
        · rw [List.length_map]
          exact Nat.lt_of_le_of_lt (plc_len lv i) (Nat.lt_of_lt_of_le hi (Nat.le_trans gl.2 (by decide)))
        · exact fun b u e => by
            rw [upd_ne (ne_of_none e nD)]
            exact m2 _ _ (m1 _ _ e)
        · rw [upd_same, plc_succ, if_pos h, nL_snoc]
      · rw [Bool.eq_false_iff.mpr h]
        refine iteF ⟨m1.trans m2, ?_⟩
        rw [plc_succ, if_neg h, List.append_nil]
        exact m2 _ _ d1
    · rintro H1 ⟨m1, d1⟩
      rw [List.length_map] at d1
      have nD0 : H0 D = none := R.same.free nD
      have m3 : Same H0 (upd H0 D (.lst (nL (plc lv lv.length)))) := same_upd nD0
      have R1 : EncAt CE (upd H0 D (.lst (nL (plc lv lv.length)))) H1 p s := (R.new nD).mono (same_ext m1 d1)
      refine ⟨_, rfl, _, _, rfl, rfl, _, rfl, by omega, by omega, ?_⟩
      rw [show ((lv.length : Int) - 1).toNat = lv.length - 1 by omega]
      refine for_range (lo := 0) (n := lv.length - 1) (fun i σ H' => ∃ (x y : Option V) (si : CS), σ = [some (.ref o), some (.ref a), some (.int (lv.length : Int)), some (.ref D), x, y, none] ∧ EncAt CE (upd H0 D (.lst (nL (plc lv lv.length)))) H' p si ∧
        run si (plD lv (lastOf lv lv.length) i (lv.length - 1 - i)) = run s (plD lv (lastOf lv lv.length) 0 (lv.length - 1)) ∧ i ≤ lastOf lv lv.length) ⟨none, none, s, rfl, R1, rfl, Nat.zero_le _⟩ ?_ ?_
      · rintro i σ H' hi ⟨x, y, si, rfl, Ri, ei, il⟩
        have hi' : i < lv.length := by omega
        obtain ⟨n, en⟩ : ∃ n, lv.length - 1 - i = n + 1 := ⟨lv.length - 1 - i - 1, by omega⟩
        have en' : lv.length - 1 - (i + 1) = n := by omega
        have hcl := cls_lt g hi
        rw [en] at ei
        rw [en']
        have hai : ∀ {H' : Hp}, Same (upd H0 D (.lst (nL (plc lv lv.length)))) H' → SqL K H' a (iL lv) := fun m => SqL.of (m _ _ (m3 _ _ ha))
        have hDi : ∀ {H' : Hp}, Same (upd H0 D (.lst (nL (plc lv lv.length)))) H' → SqL K H' D (nL (ps0 ++ [lastOf lv lv.length])) := fun m => by
          have := m _ _ (upd_same (H := H0) (a := D) (o := .lst (nL (plc lv lv.length))))
          rw [eps] at this
          exact SqL.of this
        have hw' : (upd H0 D (.lst (nL (plc lv lv.length)))) o = some (.ins CW dw (wF p)) := m3 _ _ hw
        rw [show (0 : Int) + (i : Int) = (i : Int) by omega]
        refine ⟨_, rfl, _, rfl, i, lv.length, rfl, ?_⟩
        refine ⟨_, rfl, o, dw, _, rfl, Ri.same _ _ hw', wF_no _ (by decide +kernel), _, rfl, _, _, rfl, rfl, _, rfl, _, rfl, a, _, _, _, rfl, rfl, hai Ri.same, iL_at hi', rfl, ?_⟩
        rw [nz_val]
        refine ⟨_, o, p, si, 64 + cls lv.length i, _, rfl, ⟨Ri, dw, hw'⟩, by omega, fun H2 R2 => ?_⟩
        refine ⟨_, rfl, _, rfl, a, _, _, _, rfl, rfl, hai R2.same, iL_at hi', rfl, _, rfl, ?_⟩
        rw [nz_val]
        have elast : decide (V.int (i : Int) = V.int ((lastOf lv lv.length : Nat) : Int)) = decide (i = lastOf lv lv.length) := by
          by_cases h : i = lastOf lv lv.length
          · rw [decide_eq_true h, decide_eq_true (int_eq_iff.mpr (by omega))]
          · rw [decide_eq_false h, decide_eq_false (fun z => h (by have := int_eq_iff.mp z; omega))]
        rw [plD_succ] at ei
        by_cases h : nz lv i = true
        · rw [if_pos h] at ei
          rw [h] at R2 ⊢
          refine iteT ?_
          refine ⟨_, rfl, o, dw, _, rfl, R2.same _ _ hw', wF_no _ (by decide +kernel), _, rfl, _, _, rfl, rfl, _, rfl, _, rfl, _, rfl, D, _, _, _, rfl, rfl, hDi R2.same, nL_last _ _, rfl, ?_⟩
          rw [elast]
          refine ⟨_, o, p, _, 128 + cls lv.length i, _, rfl, ⟨R2, dw, hw'⟩, by omega, fun H3 R3 => ?_⟩
          refine ⟨_, rfl, _, rfl, _, rfl, D, _, _, _, rfl, rfl, hDi R3.same, nL_last _ _, rfl, _, rfl, ?_⟩
          rw [elast]
          by_cases hl : i = lastOf lv lv.length
          · refine iteD hl ?_
            refine ⟨_, rfl, k D H3 nD0 ?_⟩
            rw [if_pos hl] at ei
            rw [← ei]
            exact R3
          · refine iteDN hl ?_
            refine ⟨_, _, _, rfl, R3, ?_, by omega⟩
            rw [← ei, if_neg hl]
            rfl
        · rw [if_neg h] at ei
          rw [Bool.eq_false_iff.mpr h] at R2 ⊢
          refine iteF ⟨_, _, _, rfl, R2, by rw [← ei]; rfl, ?_⟩
          have : i ≠ lastOf lv lv.length := fun e => h (by rw [e]; exact lz)
          omega
      · rintro σ H' ⟨x, y, si, rfl, Ri, ei, il⟩
        rw [Nat.sub_self] at ei
        refine ⟨_, rfl, k D H' nD0 ?_⟩
        rw [← ei]
        exact Ri
/-! ### put_levels -/
def spPutLevels (CE CW : Addr) : Sp := fun vs H Q _ => ∃ (H0 : Hp) (o p a : Addr) (s : CS) (lv : List Int) (c : Nat), vs = [.ref o, .ref a] ∧ WrAt CE CW H0 H o p s ∧ H0 a = some (.lst (iL lv)) ∧ Good lv c ∧ ∀ H', EncAt CE H0 H' p (run s (blkD lv)) → Q .non H'
theorem scPutLevels : FnScope ["writer", "levels", "places", "base", "at", "level"] ["writer", "levels"] (fnScope sPutLevels) := C8.fnScope_by (by decide +kernel)
theorem any_nz {lv : List Int} {c : Nat} (g : Good lv c) : ((lv.map fun x => !decide (V.int x = V.int 0)).any id) = true := by
  obtain ⟨i, hi, h⟩ := g.ex
  refine List.any_eq_true.mpr ⟨true, List.mem_map.mpr ⟨lv.getD i 0, getD_mem hi, ?_⟩, rfl⟩
  rw [nz_val]
  exact h
theorem rev_get {ps : List Nat} {i : Nat} {x : V} (h : (nL ps)[(nL ps).length - 1 - i]? = some x) (hi : i < (nL ps).length) : ∃ z, x = V.int ((z : Nat) : Int) ∧ ps.reverse[i]? = some z := by
  rw [List.length_map] at h hi
  rw [List.getElem?_map] at h
  rw [List.getElem?_reverse hi]
  cases e : ps[ps.length - 1 - i]? with
  | none =>
    rw [e] at h
    cases h
  | some z =>
    rw [e] at h
    exact ⟨z, (Option.some.inj h).symm, rfl⟩
theorem vals_drop {lv : List Int} {i z : Nat} (h : (plc lv lv.length).reverse[i]? = some z) : (valsOf lv).drop i = lv.getD z 0 :: (valsOf lv).drop (i + 1) := by
  unfold valsOf
  obtain ⟨hi, e⟩ := List.getElem?_eq_some_iff.mp h
  have hi' : i < ((plc lv lv.length).reverse.map fun j => lv.getD j 0).length := by rw [List.length_map]; exact hi
  rw [List.drop_eq_getElem_cons hi', List.getElem_map, e]
theorem levD_cons (x : Int) (xs : List Int) (b : Nat) : levD (x :: xs) b = numD b (x.natAbs - 1) ++ (none, decide (x < 0)) :: levD xs (nextB x b) := rfl
theorem abs_nat (x : Int) : (if x < 0 then -x else x) = (x.natAbs : Int) := by split <;> omega
theorem cal_putLevels (F : C8.Def K mg "put_levels" sPutLevels f fd) (b : Binds K fd ["writer", "levels"] []) (T : Txt K mg CE CD CW CR) (c0 : Cal P w K mg base 1 "check_levels" (spChkLevels K) []) (c1 : Cal P w K mg base 4 "put_places" (spPutPlaces CE CW) [])
    (c2 : Met P w K mg base 4 CW "number" (spWNumber CE CW) []) (c3 : Met P w K mg base 3 CW "even" (spWEven CE CW) []) : Cal P w K mg base 5 "put_levels" (spPutLevels CE CW) [] := by
  refine C8.cal0 F b .nil scPutLevels (fun vs H Q E h => ?_) (fun cdv A outer s H vs Q E hr h => ?_)
  · obtain ⟨H0, o, p, a, s, lv, c, rfl, _⟩ := h
    rfl
  · obtain ⟨H0, o, p, a, s, lv, c, rfl, ⟨R, dw, hw⟩, ha, g, k⟩ := h
    refine ⟨_, pss_cons (ps_expr (pe_c c0 hr (by decide) (by rfl) (pa_cons (pv 1) pa_nil)))
      (pss_cons (ps_if (pt_not (pt_val (pe_callB (cr_any rfl) (by rfl) T.any (by decide +kernel) (pa_cons
          (pe_lc (own := [("level", 5)]) (g := gName 5) (tt := tYes) (te := tOp rNe (tVar 5) (tC (.int 0))) (by rfl) scPutLevels.nd (pi_list (pv 1)) (blkOk_by (own := [("level", 5)]) (N := ["writer", "levels", "places", "base", "at", "level"]) (sc := fnScope sPutLevels) (by decide +kernel))
            (fun _ _ _ _ _ => pg_name (i := 5) scPutLevels.nd rfl (Or.inl rfl)) (fun _ _ _ _ _ => pts_nil) (fun _ _ _ _ _ => pe_cmpR op_ne (pv 5) pe_int (nomark _))) pa_nil)))) (pss_one ps_never) pss_nil)
      (pss_cons (ps_set (i := 2) scPutLevels.nd rfl (Or.inl rfl) (pe_c c1 hr (by decide) (by rfl) (pa_cons (pv 0) (pa_cons (pv 1) pa_nil))))
      (pss_cons (ps_set (i := 3) scPutLevels.nd rfl (Or.inl rfl) (pe_kst (by rfl) T.kLEVEL))
      (pss_one (ps_for PassesOwn.never rfl (pi_reversed (by rfl) T.reversed (pa_cons (pv 2) pa_nil)) (pg_name (i := 4) scPutLevels.nd rfl (Or.inl rfl))
        (pss_cons (ps_expr (pe_mt c2 hr (by decide) (pv 0) (pa_cons (pv 3) (pa_cons (pe_op op_sub (pe_callB call_abs (by rfl) T.abs (by decide +kernel) (pa_cons (pe_ix ix_list (pv 1) (pv 4) (fun _ _ => rfl)) pa_nil)) pe_int) pa_nil))))
        (pss_cons (ps_expr (pe_mt c3 hr (by decide) (pv 0) (pa_cons (pe_ifExp (pt_cmpR op_lt (pe_ix ix_list (pv 1) (pv 4) (fun _ _ => rfl)) pe_int (nomark _)) pe_int pe_int) pa_nil)))
        (pss_one (ps_if (pt_cmpR op_gt (pe_callB call_abs (by rfl) T.abs (by decide +kernel) (pa_cons (pe_ix ix_list (pv 1) (pv 4) (fun _ _ => rfl)) pa_nil)) pe_int (nomark _)) (pss_one (ps_set (i := 3) scPutLevels.nd rfl (Or.inl rfl) (pe_op op_add (pe_kst (by rfl) T.kLEVEL) pe_int))) pss_nil))))))))), ?_⟩
    have gl := g.le
    have pa : H a = some (.lst (iL lv)) := R.same _ _ ha
    refine ⟨_, rfl, a, lv, c, rfl, SqL.of pa, g, fun H1 m1 => ?_⟩
    have R1 := R.mono m1
    have pa1 := m1 _ _ pa
    refine ⟨_, rfl, a, rfl, ⟨_, SqL.of pa1⟩, fun D nD => ?_⟩
    have m0 := same_upd (o := .lst []) nD
    refine lc_list (K := K) (a := a) (xs := iL lv) (fun i H' => Same H1 H' ∧ H' D = some (.lst ((lv.take i).map fun x => V.bl (!decide (V.int x = V.int 0))))) ⟨m0, upd_same⟩ (fun i H' _ q => SqL.of (q.1 _ _ pa1)) ?_ ?_
    · rintro i x H' hi ⟨m2, d2⟩
      obtain ⟨hi', e⟩ := List.getElem?_eq_some_iff.mp hi
      rw [List.length_map] at hi'
      rw [iL_get hi'] at hi
      cases hi
      refine ⟨rfl, _, rfl, rfl, _, d2, ?_, fun b u e => ?_, ?_⟩
      · rw [List.length_map, List.length_take]
        exact Nat.lt_of_le_of_lt (Nat.min_le_right _ _) (Nat.lt_of_le_of_lt gl.2 (by decide))
      · rw [upd_ne (ne_of_none e nD)]
        exact m2 _ _ e
      · rw [upd_same, List.take_add_one, List.map_append, List.getElem?_eq_getElem hi']
        show _ = some (HO.lst (_ ++ [V.bl (!decide (V.int lv[i] = V.int 0))]))
        rw [List.getD_eq_getElem?_getD, List.getElem?_eq_getElem hi']
        rfl
    · rintro H2 ⟨m2, d2⟩
      rw [List.length_map, List.take_length] at d2
      refine ⟨D, lv.map fun x => !decide (V.int x = V.int 0), rfl, SqL.of (by rw [d2, List.map_map]; rfl), _, rfl, ?_⟩
      rw [any_nz g]
      refine iteF ?_
      refine ⟨_, rfl, _, rfl, H0, o, p, a, s, lv, c, rfl, ⟨R1.mono m2, dw, hw⟩, ha, g, fun q H3 nq R3 => ?_⟩
      have m3 : Same H0 (upd H0 q (.lst (nL (plc lv lv.length)))) := same_upd nq
      have hw' := m3 _ _ hw
      have ha' := m3 _ _ ha
      have hq' : (upd H0 q (.lst (nL (plc lv lv.length)))) q = some (.lst (nL (plc lv lv.length))) := upd_same
      generalize upd H0 q (.lst (nL (plc lv lv.length))) = G0 at R3 m3 hw' ha' hq'
      refine ⟨_, rfl, q, _, rfl, SqL.of (R3.same _ _ hq'), RT.for_Itv (K := K) (a := q) (xs := nL (plc lv lv.length)) (fun i σ H' => ∃ (x : Option V) (bs : Nat) (si : CS), σ = [some (.ref o), some (.ref a), some (.ref q), some (.int (bs : Int)), x, none] ∧ (bs = 192 ∨ bs = 208) ∧ EncAt CE G0 H' p si ∧ run si (levD ((valsOf lv).drop i) bs) = run s (blkD lv))
        ⟨none, 192, _, rfl, .inl rfl, R3, ?_⟩ (fun i σ H' ⟨_, _, _, _, _, Ri, _⟩ => SqL.of (Ri.same _ _ hq')) ?_ ?_⟩
      · rw [List.drop_zero]
        unfold blkD
        rw [run_app]
      · rintro i x σ H' hi hx ⟨y, bs, si, rfl, hb, Ri, ei⟩
        obtain ⟨z, rfl, hz⟩ := rev_get hx hi
        have zl := (mem_plc.mp (List.mem_reverse.mp (List.mem_of_getElem? hz)))
        have hn : lv.getD z 0 ≠ 0 := of_decide_eq_true zl.2
        have rg := g.rg _ (getD_mem zl.1)
        rw [vals_drop hz] at ei
        have iz := iL_at zl.1
        generalize lv.getD z 0 = xv at ei hn rg iz
        have haS : ∀ {H' : Hp}, Same G0 H' → SqL K H' a (iL lv) := fun m => SqL.of (m _ _ ha')
        have ew : (if xv < 0 then -xv else xv) - 1 = ((xv.natAbs - 1 : Nat) : Int) := by rw [abs_nat]; omega
        refine ⟨_, rfl, o, dw, _, rfl, Ri.same _ _ hw', wF_no _ (by decide +kernel), _, rfl, _, rfl, _, rfl, a, _, _, _, rfl, rfl, haS Ri.same, iz, _, rfl, _, _, rfl, rfl, G0, o, p, si, bs, xv.natAbs - 1, ?_, ⟨Ri, dw, hw'⟩, by omega, by omega, fun H4 R4 => ?_⟩
        · show [V.ref o, V.int (bs : Int), V.int ((if xv < 0 then -xv else xv) - 1)] = _
          rw [ew]
        refine ⟨_, rfl, o, dw, _, rfl, R4.same _ _ hw', wF_no _ (by decide +kernel), _, rfl, _, rfl, a, _, _, _, rfl, rfl, haS R4.same, iz, _, _, rfl, rfl, _, rfl, ?_⟩
        rw [levD_cons, run_app, run_cons] at ei
        cases eb : decide (xv < 0)
        all_goals rw [eb] at ei
        · refine iteF ⟨G0, o, p, _, false, rfl, ⟨R4, dw, hw'⟩, fun H5 R5 => ?_⟩
          refine ⟨_, rfl, _, rfl, a, _, _, _, rfl, rfl, haS R5.same, iz, _, rfl, _, _, rfl, rfl, _, rfl, ?_⟩
          rw [abs_nat]
          unfold nextB at ei
          by_cases h1 : 1 < xv.natAbs
          · rw [if_pos h1] at ei
            exact iteD (by omega) ⟨_, _, rfl, rfl, _, 208, _, rfl, .inr rfl, R5, ei⟩
          · rw [if_neg h1] at ei
            exact iteDN (by omega) ⟨_, bs, _, rfl, hb, R5, ei⟩
        · refine iteT ⟨G0, o, p, _, true, rfl, ⟨R4, dw, hw'⟩, fun H5 R5 => ?_⟩
          refine ⟨_, rfl, _, rfl, a, _, _, _, rfl, rfl, haS R5.same, iz, _, rfl, _, _, rfl, rfl, _, rfl, ?_⟩
          rw [abs_nat]
          unfold nextB at ei
          by_cases h1 : 1 < xv.natAbs
          · rw [if_pos h1] at ei
            exact iteD (by omega) ⟨_, _, rfl, rfl, _, 208, _, rfl, .inr rfl, R5, ei⟩
          · rw [if_neg h1] at ei
            exact iteDN (by omega) ⟨_, bs, _, rfl, hb, R5, ei⟩
      · rintro σ H' ⟨y, bs, si, rfl, hb, Ri, ei⟩
        refine k _ ((EncAt.weaken ?_ m3))
        rw [← ei, List.drop_of_length_le]
        · exact Ri
        · unfold valsOf
          rw [List.length_map, List.length_reverse, List.length_map]
          exact Nat.le_refl _
end
end K47
namespace K47
open PySem L2
open C8 (Cal Met Mak pe_c pe_mk pe_mt pe_mt0 fnScope pss_cut)
theorem upd_swap {H : Hp} {a b : Addr} {o u : HO} (h : a ≠ b) : upd (upd H a o) b u = upd (upd H b u) a o := by
  funext c
  unfold upd
  by_cases h1 : c = b
  · rw [if_pos h1, if_neg (fun e => h (e.symm.trans h1)), if_pos h1]
  · rw [if_neg h1]
    by_cases h2 : c = a
    · rw [if_pos h2, if_pos h2]
    · rw [if_neg h2, if_neg h2, if_neg h1]
theorem flat0 (n : Nat) : (List.replicate n [V.int 0]).flatten = iL (List.replicate n 0) := by
  induction n with
  | zero => rfl
  | succ n ih =>
    rw [List.replicate_succ, List.flatten_cons, ih]
    rfl
section
variable {P : Program} {w : World} {K : PySem.W.Frag} {mg : Str → Option Value} {base : Heap} {CE CD CW CR : Addr} {f : Addr} {fd : FuncData}
/-! ### get_places -/
def spGetPlaces (CD CR : Addr) : Sp := fun vs H Q _ => ∃ (H0 : Hp) (o q : Addr) (s : CS) (lv : List Int) (c : Nat) (rest : List Dn), vs = [.ref o, .int ((lv.length : Nat) : Int)] ∧ RdAt CD CR H0 H o q (run s (plD lv (lastOf lv lv.length) 0 (lv.length - 1) ++ rest)) s ∧ Good lv c ∧
  ∀ (D : Addr) (H' : Hp), H0 D = none → DecAt CD (upd H0 D (.lst (nL (plc lv lv.length)))) H' q (run s (plD lv (lastOf lv lv.length) 0 (lv.length - 1) ++ rest)) (run s (plD lv (lastOf lv lv.length) 0 (lv.length - 1))) → Q (.ref D) H'
theorem scGetPlaces : FnScope ["reader", "count", "places", "at", "place"] ["reader", "count"] (fnScope sGetPlaces) := C8.fnScope_by (by decide +kernel)
theorem cal_getPlaces (F : C8.Def K mg "get_places" sGetPlaces f fd) (b : Binds K fd ["reader", "count"] []) (T : Txt K mg CE CD CW CR) (c0 : Cal P w K mg base 1 "position_class" spPosClass []) (c1 : Met P w K mg base 4 CR "flag" (spRFlag CD CR) []) : Cal P w K mg base 5 "get_places" (spGetPlaces CD CR) [] := by
  refine C8.cal0 F b .nil scGetPlaces (fun vs H Q E h => ?_) (fun cdv A outer s H vs Q E hr h => ?_)
  · obtain ⟨H0, o, q, s, lv, c, rest, rfl, _⟩ := h
    rfl
  · obtain ⟨H0, o, q, s, lv, c, rest, rfl, ⟨R, dw, hw⟩, g, k⟩ := h
    refine ⟨_, pss_cons (ps_set (i := 2) scGetPlaces.nd rfl (Or.inl rfl) (pe_lst pa_nil))
      (pss_cons (ps_for PassesOwn.never rfl (pi_range1 rfl T.range (pa_cons (pe_op op_sub (pv 1) pe_int) pa_nil)) (pg_name (i := 3) scGetPlaces.nd rfl (Or.inl rfl))
        (pss_cons (ps_set (i := 4) scGetPlaces.nd rfl (Or.inl rfl) (pe_c c0 hr (by decide) (by rfl) (pa_cons (pv 3) (pa_cons (pv 1) pa_nil))))
        (pss_one (ps_if (pt_val (pe_mt c1 hr (by decide) (pv 0) (pa_cons (pe_op op_add (pe_kst (by rfl) T.kSIG) (pv 4)) pa_nil)))
          (pss_cons (ps_expr (pe_bm PySem.F.plainAttrs_list PySem.F.slot_list_append PySem.F.type_list_append mt_append (pv 2) (pa_cons (pv 3) pa_nil)))
          (pss_one (ps_if (pt_val (pe_mt c1 hr (by decide) (pv 0) (pa_cons (pe_op op_add (pe_kst (by rfl) T.kLAST) (pv 4)) pa_nil))) (pss_one (ps_ret (pv 2))) pss_nil))) pss_nil))))
      (pss_cons (ps_expr (pe_bm PySem.F.plainAttrs_list PySem.F.slot_list_append PySem.F.type_list_append mt_append (pv 2) (pa_cons (pe_op op_sub (pv 1) pe_int) pa_nil)))
      (pss_one (ps_ret (pv 2))))), ?_⟩
    have gl := g.le
    obtain ⟨⟨ps0, eps⟩, lt, lz, la⟩ := plc_last lv lv.length g.ex
    generalize eg : run s (plD lv (lastOf lv lv.length) 0 (lv.length - 1) ++ rest) = gg at R k
    refine ⟨(by show 0 ≤ sizeLine; decide), fun D nD => ?_⟩
    have nD0 : H0 D = none := R.same.free nD
    have R1 : DecAt CD (upd H0 D (.lst (nL (plc lv 0)))) (upd H D (.lst [])) q gg s := R.new nD
    have hwD : ∀ {u : HO}, (upd H0 D u) o = some (.ins CR dw (rF q)) := fun {u} => same_upd nD0 _ _ hw
    have small : ∀ i, i < lv.length → (nL (plc lv i)).length < sizeLine := fun i hi => by
      rw [List.length_map]
      exact Nat.lt_of_le_of_lt (plc_len lv i) (Nat.lt_of_lt_of_le hi (Nat.le_trans gl.2 (by decide)))
    refine ⟨_, rfl, _, _, rfl, rfl, _, rfl, by omega, by omega, ?_⟩
    rw [show ((lv.length : Int) - 1).toNat = lv.length - 1 by omega]
    refine for_range (lo := 0) (n := lv.length - 1) (fun i σ H' => ∃ (x y : Option V) (si : CS), σ = [some (.ref o), some (.int ((lv.length : Nat) : Int)), some (.ref D), x, y] ∧ DecAt CD (upd H0 D (.lst (nL (plc lv i)))) H' q gg si ∧
        gg = run si (plD lv (lastOf lv lv.length) i (lv.length - 1 - i) ++ rest) ∧ run si (plD lv (lastOf lv lv.length) i (lv.length - 1 - i)) = run s (plD lv (lastOf lv lv.length) 0 (lv.length - 1)) ∧ i ≤ lastOf lv lv.length) ⟨none, none, s, rfl, R1, eg.symm, rfl, Nat.zero_le _⟩ ?_ ?_
    · rintro i σ H' hi ⟨x, y, si, rfl, Ri, ei, ej, il⟩
      have hi' : i < lv.length := by omega
      obtain ⟨n, en⟩ : ∃ n, lv.length - 1 - i = n + 1 := ⟨lv.length - 1 - i - 1, by omega⟩
      have en' : lv.length - 1 - (i + 1) = n := by omega
      have hcl := cls_lt g hi
      rw [en, plD_succ] at ei ej
      rw [en', show (0 : Int) + (i : Int) = (i : Int) by omega]
      refine ⟨_, rfl, _, rfl, i, lv.length, rfl, ?_⟩
      by_cases h : nz lv i = true
      · rw [if_pos h] at ei ej
        refine ⟨_, rfl, o, dw, _, rfl, Ri.same _ _ hwD, rF_no _ (by decide +kernel), _, rfl, _, _, rfl, rfl, _, o, q, si, 64 + cls lv.length i, true, _, rfl, ⟨(by rw [ei] at Ri; exact Ri), dw, hwD⟩, by omega, fun H2 R2 => ⟨_, rfl, iteT ?_⟩⟩
        refine ⟨_, rfl, .inl ⟨rfl, _, SqL.of (R2.same _ _ upd_same)⟩, _, rfl, D, _, _, rfl, rfl, R2.same _ _ upd_same, small i hi', ?_⟩
        have R3 := R2.put (o := .lst (nL (plc lv i) ++ [V.int (i : Int)])) (upd_same (H := H0) (a := D) (o := .lst (nL (plc lv i))))
        have ep : nL (plc lv i) ++ [V.int (i : Int)] = nL (plc lv (i + 1)) := by rw [plc_succ, if_pos h, nL_snoc]
        rw [upd_upd, ep] at R3
        rw [ep]
        refine ⟨_, rfl, o, dw, _, rfl, R3.same _ _ hwD, rF_no _ (by decide +kernel), _, rfl, _, _, rfl, rfl, _, o, q, _, 128 + cls lv.length i, decide (i = lastOf lv lv.length), _, rfl, ⟨R3, dw, hwD⟩, by omega, fun H3 R4 => ⟨_, rfl, ?_⟩⟩
        by_cases hl : i = lastOf lv lv.length
        · refine iteD hl ⟨_, rfl, k D H3 nD0 ?_⟩
          rw [if_pos hl] at ej
          rw [← ej, plc_full (i := i) (fun j h1 h2 => la j (by omega) h2) hi', ei]
          exact R4
        · refine iteDN hl ⟨_, _, _, rfl, (by rw [ei]; exact R4), ?_, ?_, by omega⟩
          · rw [ei, if_neg hl]
            rfl
          · rw [← ej, if_neg hl]
            rfl
      · rw [if_neg h] at ei ej
        refine ⟨_, rfl, o, dw, _, rfl, Ri.same _ _ hwD, rF_no _ (by decide +kernel), _, rfl, _, _, rfl, rfl, _, o, q, si, 64 + cls lv.length i, false, _, rfl, ⟨(by rw [ei] at Ri; exact Ri), dw, hwD⟩, by omega, fun H2 R2 => ⟨_, rfl, iteF ?_⟩⟩
        have : i ≠ lastOf lv lv.length := fun e => h (by rw [e]; exact lz)
        refine ⟨_, _, _, rfl, ?_, (by rw [ei]; rfl), (by rw [← ej]; rfl), by omega⟩
        rw [plc_succ, if_neg h, List.append_nil, ei]
        exact R2
    · rintro σ H' ⟨x, y, si, rfl, Ri, ei, ej, il⟩
      have hl : lv.length - 1 = lastOf lv lv.length := by omega
      have el : ((lv.length : Nat) : Int) - 1 = ((lv.length - 1 : Nat) : Int) := by omega
      have ep : nL (plc lv (lv.length - 1)) ++ [V.int (((lv.length : Nat) : Int) - 1)] = nL (plc lv lv.length) := by
        have e1 := plc_succ lv (lv.length - 1)
        rw [show lv.length - 1 + 1 = lv.length by omega, if_pos (by rw [hl]; exact lz)] at e1
        rw [e1, nL_snoc, el]
      refine ⟨_, rfl, .inl ⟨rfl, _, SqL.of (Ri.same _ _ upd_same)⟩, _, rfl, _, _, rfl, rfl, D, _, _, rfl, rfl, Ri.same _ _ upd_same, small _ (by omega), ?_⟩
      have R3 := Ri.put (o := .lst (nL (plc lv lv.length))) (upd_same (H := H0) (a := D) (o := .lst (nL (plc lv (lv.length - 1)))))
      rw [upd_upd] at R3
      rw [ep]
      refine ⟨_, rfl, k D _ nD0 ?_⟩
      rw [Nat.sub_self] at ej
      rw [← ej]
      exact R3
/-! ### get_levels -/
def spGetLevels (CD CR : Addr) : Sp := fun vs H Q _ => ∃ (H0 : Hp) (o q : Addr) (s : CS) (lv : List Int) (c z : Nat) (rest : List Dn), vs = [.ref o, .int (z : Int)] ∧ (z = 4 ∨ z = 8) ∧ z * z = lv.length ∧ RdAt CD CR H0 H o q (run s (blkD lv ++ rest)) s ∧ Good lv c ∧
  ∀ (L : Addr) (H' : Hp), H0 L = none → DecAt CD (upd H0 L (.lst (iL lv))) H' q (run s (blkD lv ++ rest)) (run s (blkD lv)) → Q (.ref L) H'
theorem scGetLevels : FnScope ["reader", "size", "levels", "places", "base", "at", "level"] ["reader", "size"] (fnScope sGetLevels) := C8.fnScope_by (by decide +kernel)
theorem cal_getLevels (F : C8.Def K mg "get_levels" sGetLevels f fd) (b : Binds K fd ["reader", "size"] []) (T : Txt K mg CE CD CW CR) (c1 : Cal P w K mg base 5 "get_places" (spGetPlaces CD CR) [])
    (c2 : Met P w K mg base 5 CR "number" (spRNumber CD CR) []) (c3 : Met P w K mg base 4 CR "even" (spREven CD CR) []) : Cal P w K mg base 6 "get_levels" (spGetLevels CD CR) [] := by
  refine C8.cal0 F b .nil scGetLevels (fun vs H Q E h => ?_) (fun cdv A outer s H vs Q E hr h => ?_)
  · obtain ⟨H0, o, q, s, lv, c, z, rest, rfl, _⟩ := h
    rfl
  · obtain ⟨H0, o, q, s, lv, c, z, rest, rfl, hz, hzz, ⟨R, dw, hw⟩, g, k⟩ := h
    refine ⟨_, pss_cons (ps_if (pt_cmpR op_notIn_seq (pv 1) (pe_tup (pa_cons pe_int (pa_cons pe_int pa_nil))) (by rfl)) (pss_one ps_never) pss_nil)
      (pss_cons (ps_set (i := 2) scGetLevels.nd rfl (Or.inl rfl) (pe_op op_rep (pe_lst (pa_cons pe_int pa_nil)) (pe_op op_mul (pv 1) (pv 1))))
      (pss_cons (ps_set (i := 3) scGetLevels.nd rfl (Or.inl rfl) (pe_c c1 hr (by decide) (by rfl) (pa_cons (pv 0) (pa_cons (pe_op op_mul (pv 1) (pv 1)) pa_nil))))
      (pss_cons (ps_set (i := 4) scGetLevels.nd rfl (Or.inl rfl) (pe_kst (by rfl) T.kLEVEL))
      (pss_cons (ps_for PassesOwn.never rfl (pi_reversed (by rfl) T.reversed (pa_cons (pv 3) pa_nil)) (pg_name (i := 5) scGetLevels.nd rfl (Or.inl rfl))
        (pss_cons (ps_set (i := 6) scGetLevels.nd rfl (Or.inl rfl) (pe_op op_add (pe_mt c2 hr (by decide) (pv 0) (pa_cons (pv 4) pa_nil)) pe_int))
        (pss_cut (ps_if (pt_cmpR op_gt (pv 6) pe_int (nomark _)) (pss_one (ps_set (i := 4) scGetLevels.nd rfl (Or.inl rfl) (pe_op op_add (pe_kst (by rfl) T.kLEVEL) pe_int))) pss_nil)
        (pss_cut (ps_if (pt_cmpR op_eq (pe_mt0 c3 hr (by decide) (pv 0)) pe_int (nomark _)) (pss_one (ps_set (i := 6) scGetLevels.nd rfl (Or.inl rfl) (pe_un un_neg (pv 6)))) pss_nil)
        (pss_one (ps_asg (pe_callB (call_max2 rfl) (by rfl) T.max (by decide +kernel) (pa_cons (pe_kst (by rfl) T.kLEAST_LEVEL) (pa_cons (pe_callB (call_min2 rfl) (by rfl) T.min (by decide +kernel) (pa_cons (pe_kst (by rfl) T.kGREATEST_LEVEL) (pa_cons (pv 6) pa_nil))) pa_nil))) (pg_sub (pv 2) (pv 5) set_list)))))))
      (pss_one (ps_ret (pv 2))))))), ?_⟩
    have gl := g.le
    have ezz : (z : Int) * (z : Int) = ((lv.length : Nat) : Int) := by rw [← hzz]; rfl
    generalize eg : run s (blkD lv ++ rest) = gg at R k
    refine ⟨_, rfl, (by show 2 ≤ sizeLine; decide), fun t nt => ?_⟩
    have mt := same_upd (o := .tup [V.int 4, V.int 8]) nt
    refine ⟨t, _, rfl, .inr (.inl (.inl upd_same)), rfl, rfl, _, rfl, ?_⟩
    rw [if_pos rfl, show inV (V.int (z : Int)) [V.int 4, V.int 8] = true by rcases hz with e | e <;> rw [e] <;> rfl]
    refine iteF ?_
    refine ⟨(by show 1 ≤ sizeLine; decide), fun l0 nl0 => ?_⟩
    have m0 := same_upd (o := .lst [V.int 0]) nl0
    refine ⟨_, rfl, _, rfl, _, _, rfl, rfl, .inl ⟨by omega, by omega⟩, l0, _, _, rfl, rfl, upd_same, ?_, ?_, ?_, fun L nL' => ?_⟩
    · rw [ezz]; omega
    · rw [ezz]; omega
    · rw [ezz, Int.toNat_natCast]
      show 1 * lv.length ≤ sizeLine
      have : 64 ≤ sizeLine := by decide
      omega
    rw [ezz, Int.toNat_natCast, flat0]
    have nL0 : H0 L = none := R.same.free (mt.free (m0.free nL'))
    have R1 := ((R.mono mt).mono m0).new (o := .lst (iL (List.replicate lv.length 0))) nL'
    have hw1 : (upd H0 L (.lst (iL (List.replicate lv.length 0)))) o = some (.ins CR dw (rF q)) := same_upd nL0 _ _ hw
    have eg2 : run s (plD lv (lastOf lv lv.length) 0 (lv.length - 1) ++ (levD (valsOf lv) 192 ++ rest)) = gg := by
      rw [← eg]
      unfold blkD
      rw [List.append_assoc]
    refine ⟨_, rfl, _, rfl, _, rfl, _, _, rfl, rfl, .inl ⟨by omega, by omega⟩, _, o, q, s, lv, c, levD (valsOf lv) 192 ++ rest, ?_, ⟨(by rw [eg2]; exact R1), dw, hw1⟩, g, fun D H1 nD R2 => ?_⟩
    · show [V.ref o, V.int ((z : Int) * (z : Int))] = _
      rw [ezz]
    rw [eg2] at R2
    have LD : L ≠ D := fun e => by
      rw [e, upd_same] at nD
      cases nD
    have nD0 : H0 D = none := by
      rw [upd_ne LD.symm] at nD
      exact nD
    rw [upd_swap LD] at R2
    have mD : Same H0 (upd H0 D (.lst (nL (plc lv lv.length)))) := same_upd nD0
    have hD : (upd H0 D (.lst (nL (plc lv lv.length)))) D = some (.lst (nL (plc lv lv.length))) := upd_same
    have nLD : (upd H0 D (.lst (nL (plc lv lv.length)))) L = none := by
      rw [upd_ne LD]
      exact nL0
    have hwD := mD _ _ hw
    have fin : ∀ (X : HO), Same (upd H0 L X) (upd (upd H0 D (.lst (nL (plc lv lv.length)))) L X) := fun X => same_two mD
    generalize upd H0 D (.lst (nL (plc lv lv.length))) = G0 at R2 mD hD nLD hwD fin
    have oL : o ≠ L := ne_of_none hwD nLD
    have hwL : ∀ {X : HO}, (upd G0 L X) o = some (.ins CR dw (rF q)) := fun {X} => by
      rw [upd_ne oL]
      exact hwD
    have hDL : ∀ {X : HO}, (upd G0 L X) D = some (.lst (nL (plc lv lv.length))) := fun {X} => by
      rw [upd_ne LD.symm]
      exact hD
    refine ⟨_, rfl, D, _, rfl, SqL.of (R2.same _ _ hDL), RT.for_Itv (K := K) (a := D) (xs := nL (plc lv lv.length)) (fun i σ H' => ∃ (x y : Option V) (bs : Nat) (si : CS) (Li : List Int), σ = [some (.ref o), some (.int (z : Int)), some (.ref L), some (.ref D), some (.int (bs : Int)), x, y] ∧ (bs = 192 ∨ bs = 208) ∧ Part lv Li i ∧
      DecAt CD (upd G0 L (.lst (iL Li))) H' q gg si ∧ gg = run si (levD ((valsOf lv).drop i) bs ++ rest) ∧ run si (levD ((valsOf lv).drop i) bs) = run s (blkD lv))
      ⟨none, none, 192, _, _, rfl, .inl rfl, Part.start lv, R2, ?_, ?_⟩ (fun i σ H' ⟨_, _, _, _, _, _, _, _, Ri, _⟩ => SqL.of (Ri.same _ _ hDL)) ?_ ?_⟩
    · rw [List.drop_zero, ← eg2, run_app]
    · rw [List.drop_zero]
      unfold blkD
      rw [run_app]
    · rintro i x σ H' hi hx ⟨y1, y2, bs, si, Li, rfl, hb, Pi, Ri, ei, ej⟩
      obtain ⟨a, rfl, ha⟩ := rev_get hx hi
      have zl := (mem_plc.mp (List.mem_reverse.mp (List.mem_of_getElem? ha)))
      have hn : lv.getD a 0 ≠ 0 := of_decide_eq_true zl.2
      have rg := g.rg _ (getD_mem zl.1)
      rw [vals_drop ha, levD_cons] at ei ej
      have Pt := Pi.turn ha
      generalize lv.getD a 0 = xv at ei ej hn rg Pt
      rw [run_app, run_cons] at ej
      rw [List.append_assoc] at ei
      refine ⟨_, rfl, o, dw, _, rfl, Ri.same _ _ hwL, rF_no _ (by decide +kernel), _, rfl, _, o, q, si, bs, xv.natAbs - 1, _, rfl, ⟨(by rw [ei] at Ri; exact Ri), dw, hwL⟩, by omega, by omega, fun H3 R3 => ?_⟩
      rw [← ei] at R3
      have e1 : ((xv.natAbs - 1 : Nat) : Int) + 1 = (xv.natAbs : Int) := by omega
      refine ⟨_, _, rfl, rfl, ?_⟩
      show gName 6 (V.int (((xv.natAbs - 1 : Nat) : Int) + 1)) _ _ _
      rw [e1]
      refine ⟨fun σ' H'' => σ' = [some (.ref o), some (.int (z : Int)), some (.ref L), some (.ref D), some (.int ((nextB xv bs : Nat) : Int)), some (.int (a : Int)), some (.int (xv.natAbs : Int))] ∧ H'' = H3, ?_, ?_⟩
      · refine ⟨_, rfl, _, _, rfl, rfl, _, rfl, ?_⟩
        unfold nextB
        by_cases h1 : 1 < xv.natAbs
        · refine iteD (by omega) ⟨_, _, rfl, rfl, ?_, rfl⟩
          rw [if_pos h1]
          rfl
        · refine iteDN (by omega) ⟨?_, rfl⟩
          rw [if_neg h1]
          rfl
      · rintro σ' H'' ⟨rfl, rfl⟩
        have hnb : nextB xv bs = 192 ∨ nextB xv bs = 208 := by
          unfold nextB
          split
          · exact .inr rfl
          · exact hb
        have ek : gg = run (run si (numD bs (xv.natAbs - 1))) ((none, decide (xv < 0)) :: (levD ((valsOf lv).drop (i + 1)) (nextB xv bs) ++ rest)) := by
          rw [ei, run_app]
          rfl
        refine ⟨fun σ' H4 => σ' = [some (.ref o), some (.int (z : Int)), some (.ref L), some (.ref D), some (.int ((nextB xv bs : Nat) : Int)), some (.int (a : Int)), some (.int xv)] ∧ DecAt CD (upd G0 L (.lst (iL Li))) H4 q gg (stepC (run si (numD bs (xv.natAbs - 1))) (none, decide (xv < 0))), ?_, ?_⟩
        · refine ⟨_, rfl, o, dw, _, rfl, R3.same _ _ hwL, rF_no _ (by decide +kernel), _, o, q, _, decide (xv < 0), _, rfl, ⟨(by rw [ek] at R3; exact R3), dw, hwL⟩, fun H4 R4 => ⟨rfl, _, rfl, ?_⟩⟩
          rw [← ek] at R4
          rw [bit_one]
          by_cases hx : xv < 0
          · refine iteD hx ⟨_, rfl, _, rfl, ?_, R4⟩
            show [some (V.ref o), some (V.int (z : Int)), some (V.ref L), some (V.ref D), some (V.int ((nextB xv bs : Nat) : Int)), some (V.int (a : Int)), some (V.int (-(xv.natAbs : Int)))] = _
            rw [show -(xv.natAbs : Int) = xv by omega]
          · refine iteDN hx ⟨?_, R4⟩
            rw [show (xv.natAbs : Int) = xv by omega]
        · rintro σ' H4 ⟨rfl, R4⟩
          have ec : (if (if xv < 524287 then xv else (524287 : Int)) > -524288 then (if xv < 524287 then xv else (524287 : Int)) else -524288) = xv := by
            split <;> split <;> omega
          refine ⟨_, rfl, _, _, rfl, _, _, rfl, ?_⟩
          rw [ec]
          refine ⟨_, rfl, _, rfl, L, _, _, a, rfl, rfl, R4.same _ _ upd_same, ixN_nat (by rw [List.length_map, Pi.len]; exact zl.1), ?_⟩
          have R5 := R4.put (o := .lst ((iL Li).set a (V.int xv))) (upd_same (H := G0) (a := L) (o := .lst (iL Li)))
          have es : (iL Li).set a (V.int xv) = iL (Li.set a xv) := List.map_set.symm
          rw [upd_upd, es] at R5
          rw [es]
          refine ⟨_, _, nextB xv bs, _, _, rfl, hnb, Pt, R5, ?_, ej⟩
          rw [ek, run_cons]
    · rintro σ H' ⟨y1, y2, bs, si, Li, rfl, hb, Pi, Ri, ei, ej⟩
      rw [List.length_map] at Pi ej
      have eL := Pi.done (Nat.le_refl _)
      subst eL
      refine ⟨_, rfl, k L H' nL0 ?_⟩
      rw [List.drop_of_length_le (by unfold valsOf; rw [List.length_map, List.length_reverse]; exact Nat.le_refl _)] at ej
      rw [← ej]
      exact Ri.weaken (fin _)
end
end K47
namespace K47
open PySem L2
open C8 (Cal Met Mak pe_c pe_mk pe_mt pe_mt0 fnScope pss_cut)
/-- what the law reads of the script -/
def cellV (ns : List Int) (k : Nat) : Int := if k < ns.length then ((ns.getD k 0).natAbs : Int) else 0
section
variable {P : Program} {w : World} {K : PySem.W.Frag} {mg : Str → Option Value} {base : Heap} {CE CD CW CR : Addr} {f : Addr} {fd : FuncData}
/-! ### _law_cell -/
def spCell (K : PySem.W.Frag) : Sp := fun vs H Q _ => ∃ (a : Addr) (ns : List Int) (k : Nat), vs = [.ref a, .int (k : Int)] ∧ SqL K H a (iL ns) ∧ Q (.int (cellV ns k)) H
theorem scCell : FnScope ["_law_script", "_law_k"] ["_law_script", "_law_k"] (fnScope sCell) := C8.fnScope_by (by decide +kernel)
theorem cal_cell (F : C8.Def K mg "_law_cell" sCell f fd) (b : Binds K fd ["_law_script", "_law_k"] []) (T : Txt K mg CE CD CW CR) : Cal P w K mg base 1 "_law_cell" (spCell K) [] := by
  refine C8.cal0 F b .nil scCell (fun vs H Q E h => ?_) (fun cdv A outer s H vs Q E hr h => ?_)
  · obtain ⟨a, ns, n, rfl, _⟩ := h
    rfl
  · obtain ⟨a, ns, n, rfl, hS, k⟩ := h
    refine ⟨_, pss_cons (ps_if (pt_cmpR op_lt (pv 1) (pe_callB call_len_seq (by rfl) T.len PySem.boot_len (pa_cons (pv 0) pa_nil)) (nomark _))
      (pss_one (ps_ret (pe_callB call_abs (by rfl) T.abs (by decide +kernel) (pa_cons (pe_callTy call_int1 (by rfl) T.int (by decide +kernel) (pa_cons (pe_ix ix_list (pv 0) (pv 1) (fun _ _ => rfl)) pa_nil)) pa_nil)))) pss_nil)
      (pss_one (ps_ret pe_int)), ?_⟩
    refine ⟨_, rfl, _, rfl, a, _, rfl, .inl hS, _, _, rfl, rfl, _, rfl, ?_⟩
    rw [List.length_map]
    unfold cellV at k
    by_cases h : n < ns.length
    · rw [if_pos h] at k
      refine iteD (by omega) ⟨_, rfl, _, rfl, a, _, _, _, rfl, rfl, hS, iL_at h, .inl ⟨_, rfl, _, rfl, ?_⟩⟩
      rw [abs_nat]
      exact k
    · rw [if_neg h] at k
      exact iteDN (by omega) k
/-! ### _law_digits -/
def spDigits : Sp := fun vs H Q _ => ∃ (x : Int) (n : Nat), vs = [.int x, .int 8388608, .int (n : Int)] ∧ n ≤ 64 ∧ ∀ (q : Addr) (ds : List Int), H q = none → ds.length = n → (∀ d ∈ ds, 0 ≤ d ∧ d < 8388608) → Q (.ref q) (upd H q (.lst (iL ds)))
theorem scDigits : FnScope ["_law_cell_here", "_law_base", "_law_most", "_law_digits_here", "_law_large", "_law_k"] ["_law_cell_here", "_law_base", "_law_most"] (fnScope sDigits) := C8.fnScope_by (by decide +kernel)
theorem cal_digits (F : C8.Def K mg "_law_digits" sDigits f fd) (b : Binds K fd ["_law_cell_here", "_law_base", "_law_most"] []) (T : Txt K mg CE CD CW CR) : Cal P w K mg base 1 "_law_digits" spDigits [] := by
  refine C8.cal0 F b .nil scDigits (fun vs H Q E h => ?_) (fun cdv A outer s H vs Q E hr h => ?_)
  · obtain ⟨x, n, rfl, _⟩ := h
    rfl
  · obtain ⟨x, n, rfl, hn, k⟩ := h
    refine ⟨_, pss_cons (ps_set (i := 3) scDigits.nd rfl (Or.inl rfl) (pe_lst pa_nil))
      (pss_cons (ps_set (i := 4) scDigits.nd rfl (Or.inl rfl) (pe_cmpR op_ge (pv 0) (pe_op op_pow pe_int pe_int) (nomark _)))
      (pss_cons (ps_for PassesOwn.never rfl (pi_range1 rfl T.range (pa_cons (pv 2) pa_nil)) (pg_name (i := 5) scDigits.nd rfl (Or.inl rfl))
        (pss_one (ps_if (pt_val (pv 4))
          (pss_cons (ps_expr (pe_bm PySem.F.plainAttrs_list PySem.F.slot_list_append PySem.F.type_list_append mt_append (pv 3) (pa_cons (pe_op op_mod (pe_callTy call_int1 (by rfl) T.int (by decide +kernel) (pa_cons (pv 0) pa_nil)) (pv 1)) pa_nil)))
          (pss_one (ps_set (i := 0) scDigits.nd rfl (Or.inl rfl) (pe_op op_fdiv (pv 0) (pv 1)))))
          (pss_one (ps_expr (pe_bm PySem.F.plainAttrs_list PySem.F.slot_list_append PySem.F.type_list_append mt_append (pv 3) (pa_cons (pe_op op_mod (pe_op op_mod (pe_callTy call_int1 (by rfl) T.int (by decide +kernel) (pa_cons
            (pe_op op_add (pe_op op_add (pe_op op_mul (pv 0) pe_int) (pe_op op_mul (pe_op op_mul (pe_op op_add (pv 5) pe_int) (pe_op op_add (pv 5) pe_int)) pe_int)) (pe_op op_mul (pe_op op_fdiv (pv 0) pe_int) (pv 5))) pa_nil)) pe_int) (pv 1)) pa_nil)))))))
      (pss_one (ps_ret (pv 3))))), ?_⟩
    refine ⟨(by show 0 ≤ sizeLine; decide), fun q nq => ?_⟩
    refine ⟨_, rfl, _, _, rfl, rfl, ⟨by decide, by decide, by decide⟩, _, _, rfl, rfl, ?_⟩
    refine ⟨_, rfl, (n : Int), rfl, by omega, by omega, ?_⟩
    rw [Int.toNat_natCast]
    refine for_range (lo := 0) (n := n) (fun i σ H' => ∃ (y : Int) (lg : Bool) (v : Option V) (ds : List Int), σ = [some (.int y), some (.int 8388608), some (.int (n : Int)), some (.ref q), some (.bl lg), v] ∧ H' = upd H q (.lst (iL ds)) ∧ ds.length = i ∧ ∀ d ∈ ds, 0 ≤ d ∧ d < 8388608)
      ⟨x, _, none, [], rfl, rfl, rfl, fun d hd => by cases hd⟩ ?_ ?_
    · rintro i σ H' hi ⟨y, lg, v, ds, rfl, rfl, hl, hd⟩
      have hs : (iL ds).length < sizeLine := by
        rw [List.length_map, hl]
        have : 64 < sizeLine := by decide
        omega
      have put : ∀ z : Int, ∃ ds' : List Int, upd (upd H q (.lst (iL ds))) q (.lst (iL ds ++ [V.int (z % 8388608)])) = upd H q (.lst (iL ds')) ∧ ds'.length = i + 1 ∧ ∀ d ∈ ds', 0 ≤ d ∧ d < 8388608 := fun z => by
        refine ⟨ds ++ [z % 8388608], by rw [upd_upd, iL_snoc], by rw [List.length_append, hl]; rfl, fun d hd' => ?_⟩
        rcases List.mem_append.mp hd' with h | h
        · exact hd d h
        · rw [List.mem_singleton.mp h]
          omega
      refine ⟨_, rfl, lg, rfl, ?_⟩
      cases lg
      · refine iteF ⟨_, rfl, .inl ⟨rfl, _, SqL.of upd_same⟩, ?_⟩
        refine ⟨_, rfl, _, _, rfl, rfl, .inr ⟨by decide, by decide⟩, _, rfl, _, _, rfl, rfl, _, rfl, _, _, rfl, rfl, _, _, rfl, rfl, .inl ⟨by omega, by omega⟩, _, _, rfl, rfl, .inr ⟨by decide, by decide⟩, _, _, rfl, rfl, _, rfl, _, _, rfl, rfl, ⟨by decide, by decide⟩, _, rfl, _, _, rfl, rfl, .inr ⟨by omega, by omega⟩, _, _, rfl, rfl, ?_⟩
        refine .inl ⟨_, rfl, _, _, rfl, rfl, (by show (0 : Int) < 2147483647; decide), _, rfl, _, _, rfl, rfl, (by show (0 : Int) < 8388608; decide), q, _, _, rfl, rfl, upd_same, hs, ?_⟩
        obtain ⟨ds', e1, e2, e3⟩ := put _
        exact ⟨_, _, _, ds', rfl, e1, e2, e3⟩
      · refine iteT ⟨_, rfl, .inl ⟨rfl, _, SqL.of upd_same⟩, _, rfl, .inl ⟨_, rfl, _, rfl, _, _, rfl, rfl, (by show (0 : Int) < 8388608; decide), q, _, _, rfl, rfl, upd_same, hs, ?_⟩⟩
        refine ⟨_, rfl, _, rfl, _, _, rfl, rfl, ⟨by decide, by decide⟩, ?_⟩
        obtain ⟨ds', e1, e2, e3⟩ := put y
        exact ⟨_, _, _, ds', rfl, e1, e2, e3⟩
    · rintro σ H' ⟨y, lg, v, ds, rfl, rfl, hl, hd⟩
      exact ⟨_, rfl, k q ds nq hl hd⟩
/-! ### _law_is_integers -/
def spIsInts : Sp := fun vs H Q _ => ∃ (a : Addr) (lv : List Int), vs = [.ref a, .int ((lv.length : Nat) : Int)] ∧ H a = some (.lst (iL lv)) ∧ Q (.bl true) H
theorem scIsInts : FnScope ["_law_actual", "_law_count", "_law_item"] ["_law_actual", "_law_count"] (fnScope sIsInts) := C8.fnScope_by (by decide +kernel)
theorem cal_isInts (F : C8.Def K mg "_law_is_integers" sIsInts f fd) (b : Binds K fd ["_law_actual", "_law_count"] []) (T : Txt K mg CE CD CW CR) : Cal P w K mg base 1 "_law_is_integers" spIsInts [] := by
  refine C8.cal0 F b .nil scIsInts (fun vs H Q E h => ?_) (fun cdv A outer s H vs Q E hr h => ?_)
  · obtain ⟨a, lv, rfl, _⟩ := h
    rfl
  · obtain ⟨a, lv, rfl, ha, k⟩ := h
    refine ⟨_, pss_cons (ps_if (PW.pt (pw_or (pt_not (pt_val (pe_callB call_isi (by rfl) T.isinstance (by decide +kernel) (pa_cons (pv 0) (pa_cons (pe_bltn (v := .ty "list") (by rfl) T.list (by decide +kernel) rfl) pa_nil)))))
        (pw_or1 (pt_cmpR op_ne (pe_callB call_len_seq (by rfl) T.len PySem.boot_len (pa_cons (pv 0) pa_nil)) (pv 1) (nomark _))))) (pss_one (ps_ret pe_bl)) pss_nil)
      (pss_cons (ps_for PassesOwn.never rfl (pi_list (pv 0)) (pg_name (i := 2) scIsInts.nd rfl (Or.inl rfl))
        (pss_one (ps_if (PW.pt (pw_or (pt_not (pt_val (pe_callB call_isi (by rfl) T.isinstance (by decide +kernel) (pa_cons (pv 2) (pa_cons (pe_bltn (v := .ty "int") (by rfl) T.int (by decide +kernel) rfl) pa_nil)))))
          (pw_or1 (pt_val (pe_callB call_isi (by rfl) T.isinstance (by decide +kernel) (pa_cons (pv 2) (pa_cons (pe_bltn (v := .ty "bool") (by rfl) T.bool (by decide +kernel) rfl) pa_nil))))))) (pss_one (ps_ret pe_bl)) pss_nil)))
      (pss_one (ps_ret pe_bl))), ?_⟩
    refine ⟨_, rfl, _, _, _, _, true, rfl, .ty _, .base (.lst ha), kit_ty (by decide +kernel), _, rfl, iteF ?_⟩
    refine ⟨_, rfl, a, _, rfl, .inl (SqL.of ha), _, rfl, rfl, _, rfl, ?_⟩
    rw [List.length_map]
    refine iteNS rfl ?_
    refine ⟨_, rfl, a, rfl, ⟨_, SqL.of ha⟩, for_list (K := K) (a := a) (xs := iL lv) (fun i σ H' => ∃ x : Option V, σ = [some (.ref a), some (.int ((lv.length : Nat) : Int)), x] ∧ H' = H) ⟨none, rfl, rfl⟩ (fun i σ H' _ ⟨_, _, e⟩ => by rw [e]; exact SqL.of ha) ?_ ?_⟩
    · rintro i y σ H' hi ⟨x, rfl, rfl⟩
      obtain ⟨z, hz, rfl⟩ := List.mem_map.mp (List.mem_of_getElem? hi)
      refine ⟨_, rfl, _, _, _, _, true, rfl, .ty _, .base (.int z), kit_ty (by decide +kernel), _, rfl, iteF ?_⟩
      refine ⟨_, rfl, _, _, _, _, false, rfl, .ty _, .base (.int z), kit_ty (by decide +kernel), _, rfl, iteF ?_⟩
      exact ⟨_, rfl, rfl⟩
    · rintro σ H' ⟨x, rfl, rfl⟩
      exact k
end
end K47
namespace K47
open PySem L2
open C8 (Cal Met Mak pe_c pe_mk pe_mt pe_mt0 fnScope pss_cut)
def InR (lv : List Int) : Prop := ∀ z ∈ lv, -524288 ≤ z ∧ z ≤ 524287
theorem InR.put {lv : List Int} (h : InR lv) {i : Nat} {v : Int} (a : -524288 ≤ v) (b : v ≤ 524287) : InR (lv.set i v) := fun z hz => by
  rcases mem_set hz with e | e
  · rw [e]; exact ⟨a, b⟩
  · exact h z e
theorem iL_set (lv : List Int) (i : Nat) (v : Int) : (iL lv).set i (V.int v) = iL (lv.set i v) := List.map_set.symm
theorem ixN_of {n : Nat} {i : Int} (h0 : 0 ≤ i) (h1 : i < n) : ixN n i = some i.toNat := by
  unfold ixN
  rw [if_pos h0, if_pos h1]
section
variable {P : Program} {w : World} {K : PySem.W.Frag} {mg : Str → Option Value} {base : Heap} {CE CD CW CR : Addr} {f : Addr} {fd : FuncData}
def spBlock : Sp := fun vs H Q _ => ∃ (x : Int) (n : Nat), vs = [.int x, .int (n : Int)] ∧ (n = 16 ∨ n = 64) ∧ ∀ (L : Addr) (lv : List Int) (H' : Hp), H L = none → Good lv n → Same H H' → H' L = some (.lst (iL lv)) → Q (.ref L) H'
theorem scBlock : FnScope ["_law_cell_here", "_law_count", "_law_digits_here", "_law_share", "_law_levels", "_law_k", "_law_worth", "_law_level"] ["_law_cell_here", "_law_count"] (fnScope sBlock) := C8.fnScope_by (by decide +kernel)
/-- between the steps: some list of n levels stands in slot 4 -/
def BlkMid (H : Hp) (x : Int) (n : Nat) (D : Addr) (sh : Int) : St → Hp → Prop := fun σ H' => ∃ (L : Addr) (lv : List Int) (u v : Option V), σ = [some (.int x), some (.int (n : Int)), some (.ref D), some (.int sh), some (.ref L), u, v, none] ∧ Same H H' ∧ H L = none ∧ H' L = some (.lst (iL lv)) ∧ lv.length = n ∧ InR lv
theorem cal_block (F : C8.Def K mg "_law_block" sBlock f fd) (b : Binds K fd ["_law_cell_here", "_law_count"] []) (T : Txt K mg CE CD CW CR) (c0 : Cal P w K mg base 1 "_law_digits" spDigits []) : Cal P w K mg base 2 "_law_block" spBlock [] := by
  refine C8.cal0 F b .nil scBlock (fun vs H Q E h => ?_) (fun cdv A outer s H vs Q E hr h => ?_)
  · obtain ⟨x, n, rfl, _⟩ := h
    rfl
  · obtain ⟨x, n, rfl, hn, k⟩ := h
    refine ⟨_, pss_cons (ps_set (i := 2) scBlock.nd rfl (Or.inl rfl) (pe_c c0 hr (by decide) (by rfl) (pa_cons (pv 0) (pa_cons pe_int (pa_cons (pv 1) pa_nil)))))
      (pss_cons (ps_set (i := 3) scBlock.nd rfl (Or.inl rfl) (pe_op op_add pe_int (pe_op op_mod (pe_op op_fdiv (pv 0) pe_int) pe_int)))
      (pss_cons (ps_set (i := 4) scBlock.nd rfl (Or.inl rfl) (pe_lst pa_nil))
      (pss_cut (ps_for PassesOwn.never rfl (pi_range1 rfl T.range (pa_cons (pv 1) pa_nil)) (pg_name (i := 5) scBlock.nd rfl (Or.inl rfl))
        (pss_cons (ps_set (i := 6) scBlock.nd rfl (Or.inl rfl) (pe_op op_fdiv (pe_ix ix_list (pv 2) (pv 5) (fun _ _ => rfl)) pe_int))
        (pss_cut (ps_if (pt_cmpR op_eq (pe_op op_mod (pe_ix ix_list (pv 2) (pv 5) (fun _ _ => rfl)) pe_int) pe_int (nomark _))
          (pss_one (ps_set (i := 6) scBlock.nd rfl (Or.inl rfl) (pe_op op_sub (pv 6) pe_int)))
          (pss_one (ps_if (pt_cmpR op_lt (pe_op op_mod (pe_ix ix_list (pv 2) (pv 5) (fun _ _ => rfl)) pe_int) pe_int (nomark _))
            (pss_one (ps_set (i := 6) scBlock.nd rfl (Or.inl rfl) (pe_op op_sub (pe_op op_mod (pv 6) pe_int) pe_int)))
            (pss_one (ps_set (i := 6) scBlock.nd rfl (Or.inl rfl) (pe_op op_sub (pe_op op_mod (pv 6) pe_int) pe_int))))))
        (pss_cut (ps_if (pt_cmpR op_lt (pe_op op_mod (pe_op op_fdiv (pe_ix ix_list (pv 2) (pv 5) (fun _ _ => rfl)) pe_int) pe_int) (pv 3) (nomark _)) (pss_one (ps_set (i := 6) scBlock.nd rfl (Or.inl rfl) pe_int)) pss_nil)
        (pss_one (ps_expr (pe_bm PySem.F.plainAttrs_list PySem.F.slot_list_append PySem.F.type_list_append mt_append (pv 4) (pa_cons (pv 6) pa_nil))))))))
      (pss_cut (ps_if (pt_cmpR op_eq (pe_op op_mod (pe_op op_fdiv (pv 0) pe_int) pe_int) pe_int (nomark _))
        (pss_one (ps_asg (pe_op op_add (pe_un un_neg pe_int) (pe_op op_mod (pe_op op_fdiv (pv 0) pe_int) pe_int)) (pg_sub (pv 4) (pe_op op_sub (pv 1) pe_int) set_list))) pss_nil)
      (pss_cut (ps_if (pt_cmpR op_eq (pe_op op_mod (pe_op op_fdiv (pv 0) pe_int) pe_int) pe_int (nomark _))
        (pss_cons (ps_set (i := 4) scBlock.nd rfl (Or.inl rfl) (pe_op op_rep (pe_lst (pa_cons pe_int pa_nil)) (pv 1)))
        (pss_one (ps_asg (pe_op op_sub pe_int (pe_op op_mod (pe_op op_fdiv (pv 0) pe_int) pe_int)) (pg_sub (pv 4) (pe_op op_mod (pe_op op_fdiv (pv 0) pe_int) (pv 1)) set_list)))) pss_nil)
      (pss_cons (ps_if (pt_not (pt_val (pe_callB (cr_any rfl) (by rfl) T.any (by decide +kernel) (pa_cons
          (pe_lc (own := [("_law_level", 7)]) (g := gName 7) (tt := tYes) (te := tOp rNe (tVar 7) (tC (.int 0))) (by rfl) scBlock.nd (pi_list (pv 4)) (blkOk_by (own := [("_law_level", 7)]) (N := ["_law_cell_here", "_law_count", "_law_digits_here", "_law_share", "_law_levels", "_law_k", "_law_worth", "_law_level"]) (sc := fnScope sBlock) (by decide +kernel))
            (fun _ _ _ _ _ => pg_name (i := 7) scBlock.nd rfl (Or.inl rfl)) (fun _ _ _ _ _ => pts_nil) (fun _ _ _ _ _ => pe_cmpR op_ne (pv 7) pe_int (nomark _))) pa_nil))))
        (pss_one (ps_asg pe_int (pg_sub (pv 4) (pe_op op_mod (pe_op op_fdiv (pv 0) pe_int) (pv 1)) set_list))) pss_nil)
      (pss_one (ps_ret (pv 4))))))))), ?_⟩
    have hn64 : 16 ≤ n ∧ n ≤ 64 := by omega
    have sl : 64 < sizeLine := by decide
    refine ⟨_, rfl, _, rfl, x, n, rfl, hn64.2, fun D ds nD hdl hdr => ?_⟩
    have mD := same_upd (o := .lst (iL ds)) nD
    refine ⟨_, rfl, _, _, rfl, rfl, ⟨by decide, by decide⟩, _, _, rfl, rfl, (by show (0 : Int) < 9; decide), _, _, rfl, rfl, ?_⟩
    refine ⟨(by show 0 ≤ sizeLine; decide), fun L nL1 => ?_⟩
    have nL0 := mD.free nL1
    have mL := same_upd (o := .lst []) nL1
    obtain ⟨sh, hsh⟩ : ∃ sh : Int, sh = 1 + x / 19 % 9 := ⟨_, rfl⟩
    have hds : ∀ i, i < n → SqL K (upd H D (.lst (iL ds))) D (iL ds) ∧ atI (iL ds) (i : Int) = some (V.int (ds.getD i 0)) ∧ 0 ≤ ds.getD i 0 ∧ ds.getD i 0 < 8388608 := fun i hi => by
      have h : i < ds.length := by omega
      have r := hdr _ (getD_mem h)
      exact ⟨SqL.of upd_same, iL_at h, r.1, r.2⟩
    refine ⟨BlkMid H x n D sh, ?_, ?_⟩
    · refine ⟨_, rfl, (n : Int), rfl, by omega, by omega, ?_⟩
      rw [Int.toNat_natCast]
      refine for_range (lo := 0) (n := n) (fun i σ H' => ∃ (lv : List Int) (u v : Option V), σ = [some (.int x), some (.int (n : Int)), some (.ref D), some (.int sh), some (.ref L), u, v, none] ∧ H' = upd (upd H D (.lst (iL ds))) L (.lst (iL lv)) ∧ lv.length = i ∧ InR lv) ⟨[], none, none, (by rw [hsh]; rfl), rfl, rfl, fun z hz => by cases hz⟩ ?_ ?_
      · rintro i σ H' hi ⟨lv, u, v, rfl, rfl, hl, hr2⟩
        obtain ⟨hq, hat, h0, h1⟩ := hds i hi
        have mLx := same_upd (o := .lst (iL lv)) nL1
        have hq' := mLx.seq hq
        rw [show (0 : Int) + (i : Int) = (i : Int) by omega]
        generalize ds.getD i 0 = d at hat h0 h1
        refine ⟨_, rfl, _, rfl, D, _, _, _, rfl, rfl, hq', hat, _, _, rfl, rfl, ⟨by decide, by decide⟩, ?_⟩
        have hw0 : 0 ≤ d / 8 ∧ d / 8 < 1048576 := by omega
        refine ⟨fun σ' H' => ∃ wv : Int, -524288 ≤ wv ∧ wv ≤ 524287 ∧ σ' = [some (.int x), some (.int (n : Int)), some (.ref D), some (.int sh), some (.ref L), some (.int (i : Int)), some (.int wv), none] ∧ H' = upd (upd H D (.lst (iL ds))) L (.lst (iL lv)), ?_, ?_⟩
        · refine ⟨_, rfl, _, rfl, D, _, _, _, rfl, rfl, hq', hat, _, _, rfl, rfl, (by show (0 : Int) < 8; decide), rfl, _, rfl, ?_⟩
          refine ite2 (fun _ => ?_) (fun _ => ?_)
          · exact ⟨_, rfl, _, _, rfl, rfl, d / 8 - 524288, by omega, by omega, rfl, rfl⟩
          · refine ⟨_, rfl, _, rfl, D, _, _, _, rfl, rfl, hq', hat, _, _, rfl, rfl, (by show (0 : Int) < 8; decide), _, _, rfl, rfl, _, rfl, ?_⟩
            refine ite2 (fun _ => ?_) (fun _ => ?_)
            · exact ⟨_, rfl, _, _, rfl, rfl, (by show (0 : Int) < 3; decide), _, _, rfl, rfl, d / 8 % 3 - 1, by omega, by omega, rfl, rfl⟩
            · exact ⟨_, rfl, _, _, rfl, rfl, (by show (0 : Int) < 61; decide), _, _, rfl, rfl, d / 8 % 61 - 30, by omega, by omega, rfl, rfl⟩
        · rintro σ' H' ⟨wv, w1, w2, rfl, rfl⟩
          refine ⟨fun σ' H' => ∃ wv : Int, -524288 ≤ wv ∧ wv ≤ 524287 ∧ σ' = [some (.int x), some (.int (n : Int)), some (.ref D), some (.int sh), some (.ref L), some (.int (i : Int)), some (.int wv), none] ∧ H' = upd (upd H D (.lst (iL ds))) L (.lst (iL lv)), ?_, ?_⟩
          · refine ⟨_, rfl, _, rfl, D, _, _, _, rfl, rfl, hq', hat, _, _, rfl, rfl, ⟨by decide, by decide⟩, _, _, rfl, rfl, (by show (0 : Int) < 10; decide), _, rfl, _, _, rfl, rfl, _, rfl, ?_⟩
            refine ite2 (fun _ => ?_) (fun _ => ?_)
            · exact ⟨0, by decide, by decide, rfl, rfl⟩
            · exact ⟨wv, w1, w2, rfl, rfl⟩
          · rintro σ' H' ⟨wv, w1, w2, rfl, rfl⟩
            refine ⟨_, rfl, .inl ⟨rfl, _, SqL.of upd_same⟩, _, rfl, L, _, _, rfl, rfl, upd_same, ?_, lv ++ [wv], _, _, rfl, ?_, ?_, fun z hz => ?_⟩
            · rw [List.length_map, hl]
              omega
            · rw [upd_upd, iL_snoc]
            · rw [List.length_append, hl]
              rfl
            · rcases List.mem_append.mp hz with h | h
              · exact hr2 z h
              · rw [List.mem_singleton.mp h]
                exact ⟨w1, w2⟩
      · rintro σ H' ⟨lv, u, v, rfl, rfl, hl, hr2⟩
        exact ⟨L, lv, u, v, rfl, mD.trans (same_upd nL1), nL0, upd_same, hl, hr2⟩
    · rintro σ H' ⟨L1, lv1, u1, v1, rfl, m1, n1, g1, l1, r1⟩
      refine ⟨BlkMid H x n D sh, ?_, ?_⟩
      · refine ⟨_, rfl, _, _, rfl, rfl, ⟨by decide, by decide⟩, _, _, rfl, rfl, (by show (0 : Int) < 5; decide), rfl, _, rfl, ?_⟩
        refine ite2 (fun _ => ?_) (fun _ => ⟨L1, lv1, u1, v1, rfl, m1, n1, g1, l1, r1⟩)
        refine ⟨_, rfl, _, rfl, _, _, rfl, rfl, ⟨by decide, by decide⟩, _, _, rfl, rfl, (by show (0 : Int) < 1048576; decide), _, _, rfl, rfl, ?_⟩
        refine ⟨_, rfl, _, rfl, _, _, rfl, rfl, L1, _, _, _, rfl, rfl, g1, ixN_of (by omega) (by rw [List.length_map, l1]; omega), ?_⟩
        refine ⟨L1, lv1.set ((n : Int) - 1).toNat (-524288 + x / 7 % 1048576), u1, v1, rfl, fun b o e => ?_, n1, ?_, by rw [List.length_set]; exact l1, r1.put (by omega) (by omega)⟩
        · rw [upd_ne (ne_of_none e n1)]
          exact m1 _ _ e
        · rw [upd_same]
          exact congrArg (fun q => some (HO.lst q)) (iL_set _ _ _)
      · rintro σ H' ⟨L2, lv2, u2, v2, rfl, m2, n2, g2, l2, r2⟩
        refine ⟨BlkMid H x n D sh, ?_, ?_⟩
        · refine ⟨_, rfl, _, _, rfl, rfl, ⟨by decide, by decide⟩, _, _, rfl, rfl, (by show (0 : Int) < 5; decide), rfl, _, rfl, ?_⟩
          refine ite2 (fun _ => ?_) (fun _ => ⟨L2, lv2, u2, v2, rfl, m2, n2, g2, l2, r2⟩)
          refine ⟨(by show 1 ≤ sizeLine; decide), fun l0 nl0 => ?_⟩
          have m0 := same_upd (o := .lst [V.int 0]) nl0
          refine ⟨_, rfl, l0, _, _, rfl, rfl, upd_same, by omega, by omega, ?_, fun L3 nL3 => ?_⟩
          · rw [Int.toNat_natCast]
            show 1 * n ≤ sizeLine
            omega
          rw [Int.toNat_natCast, flat0]
          have m3 := same_upd (o := .lst (iL (List.replicate n 0))) nL3
          refine ⟨_, rfl, _, _, rfl, rfl, ⟨by decide, by decide⟩, _, _, rfl, rfl, (by show (0 : Int) < 1048576; decide), _, _, rfl, rfl, ?_⟩
          refine ⟨_, rfl, _, rfl, _, _, rfl, rfl, ⟨by decide, by decide⟩, _, rfl, _, _, rfl, rfl, (by show (0 : Int) < (n : Int); omega), L3, _, _, _, rfl, rfl, upd_same, ixN_of (Int.emod_nonneg _ (by omega)) ?_, ?_⟩
          · rw [List.length_map, List.length_replicate]
            exact Int.emod_lt_of_pos _ (by omega)
          have hz0 : InR (List.replicate n 0) := fun z hz => by
            rw [(List.mem_replicate.mp hz).2]
            exact ⟨by decide, by decide⟩
          refine ⟨L3, (List.replicate n 0).set (x / 31 % (n : Int)).toNat (524287 - x / 5 % 1048576), u2, v2, rfl, ?_, m2.free (m0.free nL3), ?_, by rw [List.length_set, List.length_replicate], hz0.put (by omega) (by omega)⟩
          · rw [upd_upd]
            exact (m2.trans m0).trans (same_upd nL3)
          · rw [upd_same]
            exact congrArg (fun q => some (HO.lst q)) (iL_set _ _ _)
        · rintro σ H' ⟨L3, lv3, u3, v3, rfl, m3, n3, g3, l3, r3⟩
          refine ⟨_, rfl, L3, rfl, ⟨_, SqL.of g3⟩, fun C nC => ?_⟩
          have mC := same_upd (o := .lst []) nC
          refine lc_list (K := K) (a := L3) (xs := iL lv3) (fun i H2 => Same H' H2 ∧ H2 C = some (.lst ((lv3.take i).map fun z => V.bl (!decide (V.int z = V.int 0))))) ⟨mC, upd_same⟩ (fun i H2 _ q => SqL.of (q.1 _ _ g3)) ?_ ?_
          · rintro i y H2 hi ⟨m4, d4⟩
            obtain ⟨hi', e⟩ := List.getElem?_eq_some_iff.mp hi
            rw [List.length_map] at hi'
            rw [iL_get hi'] at hi
            cases hi
            refine ⟨rfl, _, rfl, rfl, _, d4, ?_, fun b u e => ?_, ?_⟩
            · rw [List.length_map, List.length_take]
              omega
            · rw [upd_ne (ne_of_none e nC)]
              exact m4 _ _ e
            · rw [upd_same, List.take_add_one, List.map_append, List.getElem?_eq_getElem hi']
              show _ = some (HO.lst (_ ++ [V.bl (!decide (V.int lv3[i] = V.int 0))]))
              rw [List.getD_eq_getElem?_getD, List.getElem?_eq_getElem hi']
              rfl
          · rintro H2 ⟨m4, d4⟩
            rw [List.length_map, List.take_length] at d4
            have g4 := m4 _ _ g3
            refine ⟨C, lv3.map fun z => !decide (V.int z = V.int 0), rfl, SqL.of (by rw [d4, List.map_map]; rfl), _, rfl, ?_⟩
            cases ea : (lv3.map fun z => !decide (V.int z = V.int 0)).any id
            · refine iteT ⟨_, rfl, _, rfl, _, _, rfl, rfl, ⟨by decide, by decide⟩, _, rfl, _, _, rfl, rfl, (by show (0 : Int) < (n : Int); omega), L3, _, _, _, rfl, rfl, g4, ixN_of (Int.emod_nonneg _ (by omega)) ?_, ?_⟩
              · rw [List.length_map, l3]
                exact Int.emod_lt_of_pos _ (by omega)
              have hlt : (x / 37 % (n : Int)).toNat < lv3.length := by
                have a1 := Int.emod_nonneg (x / 37) (show (n : Int) ≠ 0 by omega)
                have a2 := Int.emod_lt_of_pos (x / 37) (show (0 : Int) < n by omega)
                omega
              refine ⟨_, rfl, k L3 (lv3.set (x / 37 % (n : Int)).toNat 1) _ n3 ⟨by rw [List.length_set]; exact l3, hn, r3.put (by decide) (by decide), (x / 37 % (n : Int)).toNat, by rw [List.length_set]; exact hlt, ?_⟩ (fun b o e => ?_) ?_⟩
              · unfold nz
                rw [getD_set hlt, if_pos rfl]
                rfl
              · rw [upd_ne (ne_of_none e n3)]
                exact m4 _ _ (m3 _ _ e)
              · rw [upd_same]
                exact congrArg (fun q => some (HO.lst q)) (iL_set _ _ _)
            · refine iteF ⟨_, rfl, k L3 lv3 _ n3 ⟨l3, hn, r3, ?_⟩ (m3.trans m4) g4⟩
              obtain ⟨t, ht, e⟩ := List.any_eq_true.mp ea
              obtain ⟨z, hz, rfl⟩ := List.mem_map.mp ht
              obtain ⟨i, hi, rfl⟩ := List.getElem_of_mem hz
              refine ⟨i, hi, ?_⟩
              rw [← nz_val, List.getD_eq_getElem?_getD, List.getElem?_eq_getElem hi]
              exact e
end
end K47
namespace K47
open PySem L2
open C8 (Cal Met Mak pe_c pe_mk pe_mt pe_mt0 fnScope pss_cut)
/-! ### lists as data -/
def dI (lv : List Int) : PyData := .list (lv.map PyData.int)
def dNN (lvs : List (List Int)) : PyData := .list (lvs.map dI)
theorem lay_ints (lv : List Int) : PyData.canLayAll0 (lv.map PyData.int) = true := by
  induction lv with
  | nil => rfl
  | cons x r ih =>
    show (PyData.canLay0 (.int x) && PyData.canLayAll0 (r.map PyData.int)) = true
    rw [ih]
    rfl
theorem depth_ints (lv : List Int) : PyData.depthAll (lv.map PyData.int) = 0 := by
  induction lv with
  | nil => simp [PyData.depthAll]
  | cons x r ih => simp [PyData.depthAll, PyData.depth, ih]
theorem lay_dI (lv : List Int) : (dI lv).canLay0 = true := lay_ints lv
theorem depth_dI (lv : List Int) : (dI lv).depth = 1 := by simp [dI, PyData.depth, depth_ints]
theorem lay_dN (lvs : List (List Int)) : PyData.canLayAll0 (lvs.map dI) = true := by
  induction lvs with
  | nil => rfl
  | cons x r ih =>
    show (PyData.canLay0 (dI x) && PyData.canLayAll0 (r.map dI)) = true
    rw [ih, lay_dI]
    rfl
theorem depth_dN (lvs : List (List Int)) : PyData.depthAll (lvs.map dI) ≤ 1 := by
  induction lvs with
  | nil => simp [PyData.depthAll]
  | cons x r ih =>
    simp only [List.map_cons, PyData.depthAll, depth_dI]
    omega
theorem shaped_dI (lv : List Int) : SeqAt.shaped (dI lv) = true := by
  unfold SeqAt.shaped
  rw [lay_dI, depth_dI]
  rfl
theorem shaped_dN (lvs : List (List Int)) : SeqAt.shaped (dNN lvs) = true := by
  unfold SeqAt.shaped
  have h := depth_dN lvs
  have e : (dNN lvs).depth = PyData.depthAll (lvs.map dI) + 1 := by simp [dNN, PyData.depth]
  rw [show (dNN lvs).canLay0 = true from lay_dN lvs, decide_eq_true (by rw [e]; omega)]
  rfl
theorem eqv_dI (lv : List Int) : PyData.eqv (dI lv) (dI lv) = true := SeqAt.eqv_refl _ (lay_dI lv)
theorem eqv_dN (lvs : List (List Int)) : PyData.eqv (dNN lvs) (dNN lvs) = true := SeqAt.eqv_refl _ (lay_dN lvs)
section
variable {K : PySem.W.Frag} {H : Hp}
theorem dpAll_ints (lv : List Int) : DpAll K H (iL lv) (lv.map PyData.int) := by
  induction lv with
  | nil => exact .nil
  | cons x r ih => exact .cons (.int x) ih
theorem dp_ints {a : Addr} {lv : List Int} (h : SqL K H a (iL lv)) : Dp K H (.ref a) (dI lv) := .lst h (dpAll_ints lv)
theorem dpAll_refs : ∀ {bs : List Addr} {lvs : List (List Int)}, bs.length = lvs.length → (∀ (j : Nat) (b : Addr) (lv : List Int), bs[j]? = some b → lvs[j]? = some lv → H b = some (.lst (iL lv))) → DpAll K H (bs.map V.ref) (lvs.map dI)
  | [], [], _, _ => .nil
  | [], _ :: _, e, _ => by simp at e
  | _ :: _, [], e, _ => by simp at e
  | b :: bs, lv :: lvs, e, h => .cons (dp_ints (SqL.of (h 0 b lv rfl rfl))) (dpAll_refs (by simpa using e) fun j b' lv' h1 h2 => h (j + 1) b' lv' h1 h2)
theorem dp_refs {a : Addr} {bs : List Addr} {lvs : List (List Int)} (h : SqL K H a (bs.map V.ref)) (e : bs.length = lvs.length) (g : ∀ (j : Nat) (b : Addr) (lv : List Int), bs[j]? = some b → lvs[j]? = some lv → H b = some (.lst (iL lv))) : Dp K H (.ref a) (dNN lvs) := .lst h (dpAll_refs e g)
end
/-! ### the law's numbers -/
def cN (ns : List Int) (j : Nat) : Int := cellV ns j + (j : Int)
def cnt (ns : List Int) (j : Nat) : Nat := if cN ns j % 2 = 1 then 64 else 16
def szN (ns : List Int) (j : Nat) : Nat := if cN ns j % 2 = 1 then 8 else 4
def ctxN (ns : List Int) (j : Nat) : Nat := (cN ns j / 3 % 256).toNat
def btN (ns : List Int) (j : Nat) : Bool := decide (V.int (cN ns j / 5 % 2) = V.int 1)
theorem ctx_eq (ns : List Int) (j : Nat) : cN ns j / 3 % 256 = ((ctxN ns j : Nat) : Int) := by unfold ctxN; omega
theorem ctx_lt (ns : List Int) (j : Nat) : ctxN ns j < 256 := by unfold ctxN; omega
theorem cnt_or (ns : List Int) (j : Nat) : cnt ns j = 16 ∨ cnt ns j = 64 := by unfold cnt; split <;> simp
theorem sz_or (ns : List Int) (j : Nat) : szN ns j = 4 ∨ szN ns j = 8 := by unfold szN; split <;> simp
theorem sz_cnt (ns : List Int) (j : Nat) : szN ns j * szN ns j = cnt ns j := by unfold szN cnt; split <;> rfl
/-- the blocks' list stands at B, its blocks hold lvs; Hs: what stood before the law's call -/
structure Blks (Hs G : Hp) (B : Addr) (ns : List Int) (bs : List Addr) (lvs : List (List Int)) : Prop where
  same : Same Hs G
  nB : Hs B = none
  lst : G B = some (.lst (bs.map V.ref))
  len : bs.length = lvs.length
  at_ : ∀ (j : Nat) (b : Addr) (lv : List Int), bs[j]? = some b → lvs[j]? = some lv → b ≠ B ∧ G b = some (.lst (iL lv)) ∧ Good lv (cnt ns j)
theorem Blks.mono {Hs G G' : Hp} {B : Addr} {ns : List Int} {bs : List Addr} {lvs : List (List Int)} (x : Blks Hs G B ns bs lvs) (m : Same G G') : Blks Hs G' B ns bs lvs :=
  ⟨x.same.trans m, x.nB, m _ _ x.lst, x.len, fun j b lv h1 h2 => ⟨(x.at_ j b lv h1 h2).1, m _ _ (x.at_ j b lv h1 h2).2.1, (x.at_ j b lv h1 h2).2.2⟩⟩
/-- one more block -/
theorem Blks.snoc {Hs G : Hp} {B L : Addr} {ns : List Int} {bs : List Addr} {lvs : List (List Int)} {lv : List Int} (x : Blks Hs G B ns bs lvs) (hL : G L = some (.lst (iL lv))) (LB : L ≠ B) (g : Good lv (cnt ns lvs.length)) :
    Blks Hs (upd G B (.lst ((bs ++ [L]).map V.ref))) B ns (bs ++ [L]) (lvs ++ [lv]) := by
  refine ⟨fun b o e => ?_, x.nB, upd_same, by rw [List.length_append, List.length_append, x.len]; rfl, fun j b lw h1 h2 => ?_⟩
  · rw [upd_ne fun z => by rw [z, x.nB] at e; cases e]
    exact x.same _ _ e
  · by_cases hj : j < bs.length
    · rw [List.getElem?_append_left hj] at h1
      rw [List.getElem?_append_left (by rw [← x.len]; exact hj)] at h2
      obtain ⟨a1, a2, a3⟩ := x.at_ j b lw h1 h2
      exact ⟨a1, by rw [upd_ne a1]; exact a2, a3⟩
    · have hj' : j = bs.length := by
        have := (List.getElem?_eq_some_iff.mp h1).1
        rw [List.length_append, List.length_singleton] at this
        omega
      subst hj'
      rw [List.getElem?_append_right (Nat.le_refl _), Nat.sub_self] at h1
      rw [x.len, List.getElem?_append_right (Nat.le_refl _), Nat.sub_self] at h2
      cases h1
      cases h2
      refine ⟨LB, by rw [upd_ne LB]; exact hL, ?_⟩
      rw [x.len]
      exact g
theorem pe_mk0 {X : Cx} {k j : Nat} {C : Addr} {x : Str} {sp : Sp} {dvs : List V} {p pos : Pos} (c : Mak X.prog X.w X.K X.mg X.base k x C sp dvs) (hr : Room j X.A) (hk : k + 1 ≤ j) (hg : Gl X x) (hdb : (x == ("__debug__" : Str)) = false := by decide) :
    PE X (.Call (.Name x p) [] [] pos) (tMake C sp dvs C8.E0 tNil) := by
  obtain ⟨f, fd, ps, ds, M, F, hm, b, d⟩ := c.ex
  exact pe_make0 M F (hr.mono hk) hg hm b d C8.pass0 hdb
section
variable {P : Program} {w : World} {K : PySem.W.Frag} {mg : Str → Option Value} {base : Heap} {CE CD CW CR : Addr} {f : Addr} {fd : FuncData}
def spLaw (K : PySem.W.Frag) : Sp := fun vs H Q _ => ∃ (a : Addr) (ns : List Int), vs = [.ref a] ∧ SqL K H a (ns.map V.int) ∧ ns.length ≤ 63 ∧ ∀ H', Q (.bl true) H'
theorem scLaw : FnScope ["_law_script", "_law_encoder", "_law_writer", "_law_blocks", "_law_k", "_law_cell_here", "_law_count", "_law_told", "_law_octets", "_law_reader", "_law_found", "_law_size", "_law_levels"] ["_law_script"] (fnScope sLaw) := C8.fnScope_by (by decide +kernel)
theorem fn_law (F : C8.Fun K "law" "law" sLaw f fd) (T : Txt K mg CE CD CW CR)
    (mE : Mak P w K mg base 1 "Encoder" CE (spEInit CE) []) (mW : Mak P w K mg base 1 "SymbolWriter" CW (spWInit CW) []) (mD : Mak P w K mg base 2 "Decoder" CD (spDInit CD) []) (mR : Mak P w K mg base 1 "SymbolReader" CR (spRInit CR) [])
    (cCell : Cal P w K mg base 1 "_law_cell" (spCell K) []) (cBlock : Cal P w K mg base 2 "_law_block" spBlock []) (cInts : Cal P w K mg base 1 "_law_is_integers" spIsInts [])
    (cPut : Cal P w K mg base 5 "put_levels" (spPutLevels CE CW) []) (cGet : Cal P w K mg base 6 "get_levels" (spGetLevels CD CR) []) (cWF : Met P w K mg base 3 CW "flag" (spWFlag CE CW) []) (cRF : Met P w K mg base 4 CR "flag" (spRFlag CD CR) []) (cOct : Met P w K mg base 1 CE "octets" (spEOct CE) []) :
    FnOk P w K mg base C8.CX0 7 f fd ["_law_script"] (spLaw K) := by
  refine C8.fn0 F scLaw (fun vs H Q E h => ?_) (fun cdv A outer s H vs Q E0 hr h => ?_)
  · obtain ⟨a, ns, rfl, _⟩ := h
    rfl
  · obtain ⟨a, ns, rfl, hS, hlen, k⟩ := h
    refine ⟨_, pss_cons (ps_set (i := 1) scLaw.nd rfl (Or.inl rfl) (pe_mk0 mE hr (by decide) (by rfl)))
      (pss_cons (ps_set (i := 2) scLaw.nd rfl (Or.inl rfl) (pe_mk mW hr (by decide) (by rfl) (pa_cons (pv 1) pa_nil)))
      (pss_cons (ps_set (i := 3) scLaw.nd rfl (Or.inl rfl) (pe_lst pa_nil))
      (pss_cons (ps_for PassesOwn.never rfl (pi_range1 (by rfl) T.range (pa_cons (pe_callB (call_min2 rfl) (by rfl) T.min (by decide +kernel) (pa_cons (pe_op op_add (pe_int) (pe_callB call_len_seq (by rfl) T.len PySem.boot_len (pa_cons (pv 0) pa_nil))) (pa_cons (pe_int) pa_nil))) pa_nil)) (pg_name (i := 4) scLaw.nd rfl (Or.inl rfl)) (pss_cons (ps_set (i := 5) scLaw.nd rfl (Or.inl rfl) (pe_op op_add (pe_c cCell hr (by decide) (by rfl) (pa_cons (pv 0) (pa_cons (pv 4) pa_nil))) (pv 4)))
      (pss_cons (ps_set (i := 6) scLaw.nd rfl (Or.inl rfl) (pe_int))
      (pss_cut (ps_if (pt_cmpR op_eq (pe_op op_mod (pv 5) (pe_int)) (pe_int) (nomark _)) (pss_one (ps_set (i := 6) scLaw.nd rfl (Or.inl rfl) (pe_int))) (pss_nil))
      (pss_cons (ps_expr (pe_bm PySem.F.plainAttrs_list PySem.F.slot_list_append PySem.F.type_list_append mt_append (pv 3) (pa_cons (pe_c cBlock hr (by decide) (by rfl) (pa_cons (pe_op op_fdiv (pv 5) (pe_int)) (pa_cons (pv 6) pa_nil))) pa_nil)))
      (pss_cons (ps_set (i := 7) scLaw.nd rfl (Or.inl rfl) (pe_callTy call_list_of (by rfl) T.list (by decide +kernel) (pa_cons (pe_ix ix_list (pv 3) (pv 4) (fun _ _ => rfl)) pa_nil)))
      (pss_cons (ps_expr (pe_c cPut hr (by decide) (by rfl) (pa_cons (pv 2) (pa_cons (pe_ix ix_list (pv 3) (pv 4) (fun _ _ => rfl)) pa_nil))))
      (pss_cons (ps_if (pt_cmpR (op_neD hr.units) (pe_ix ix_list (pv 3) (pv 4) (fun _ _ => rfl)) (pv 7) (nomark _)) (pss_one (ps_ret pe_bl)) (pss_nil))
      (pss_one (ps_expr (pe_mt cWF hr (by decide) (pv 2) (pa_cons (pe_op op_mod (pe_op op_fdiv (pv 5) (pe_int)) (pe_int)) (pa_cons (pe_cmpR op_eq (pe_op op_mod (pe_op op_fdiv (pv 5) (pe_int)) (pe_int)) (pe_int) (nomark _)) pa_nil)))))))))))))
      (pss_cons (ps_set (i := 8) scLaw.nd rfl (Or.inl rfl) (pe_mt0 cOct hr (by decide) (pv 1)))
      (pss_cons (ps_set (i := 9) scLaw.nd rfl (Or.inl rfl) (pe_mk mR hr (by decide) (by rfl) (pa_cons (pe_mk mD hr (by decide) (by rfl) (pa_cons (pv 8) pa_nil)) pa_nil)))
      (pss_cons (ps_set (i := 10) scLaw.nd rfl (Or.inl rfl) (pe_lst pa_nil))
      (pss_cons (ps_for PassesOwn.never rfl (pi_range1 (by rfl) T.range (pa_cons (pe_callB call_len_seq (by rfl) T.len PySem.boot_len (pa_cons (pv 3) pa_nil)) pa_nil)) (pg_name (i := 4) scLaw.nd rfl (Or.inl rfl)) (pss_cons (ps_set (i := 5) scLaw.nd rfl (Or.inl rfl) (pe_op op_add (pe_c cCell hr (by decide) (by rfl) (pa_cons (pv 0) (pa_cons (pv 4) pa_nil))) (pv 4)))
      (pss_cons (ps_set (i := 11) scLaw.nd rfl (Or.inl rfl) (pe_int))
      (pss_cut (ps_if (pt_cmpR op_eq (pe_op op_mod (pv 5) (pe_int)) (pe_int) (nomark _)) (pss_one (ps_set (i := 11) scLaw.nd rfl (Or.inl rfl) (pe_int))) (pss_nil))
      (pss_cons (ps_set (i := 12) scLaw.nd rfl (Or.inl rfl) (pe_c cGet hr (by decide) (by rfl) (pa_cons (pv 9) (pa_cons (pv 11) pa_nil))))
      (pss_cons (ps_if (PW.pt (pw_or (pt_not (pt_val (pe_c cInts hr (by decide) (by rfl) (pa_cons (pv 12) (pa_cons (pe_op op_mul (pv 11) (pv 11)) pa_nil))))) (pw_or1 (pt_cmpR (op_neD hr.units) (pv 12) (pe_ix ix_list (pv 3) (pv 4) (fun _ _ => rfl)) (nomark _))))) (pss_one (ps_ret pe_bl)) (pss_nil))
      (pss_cons (ps_expr (pe_bm PySem.F.plainAttrs_list PySem.F.slot_list_append PySem.F.type_list_append mt_append (pv 10) (pa_cons (pv 12) pa_nil)))
      (pss_cons (ps_set (i := 7) scLaw.nd rfl (Or.inl rfl) (pe_mt cRF hr (by decide) (pv 9) (pa_cons (pe_op op_mod (pe_op op_fdiv (pv 5) (pe_int)) (pe_int)) pa_nil)))
      (pss_one (ps_if (PW.pt (pw_or (pt_not (pt_val (pe_callB call_isi (by rfl) T.isinstance (by decide +kernel) (pa_cons (pv 7) (pa_cons (pe_bltn (v := .ty "bool") (by rfl) T.bool (by decide +kernel) rfl) pa_nil))))) (pw_or1 (pt_cmpR op_ne (pv 7) (pe_cmpR op_eq (pe_op op_mod (pe_op op_fdiv (pv 5) (pe_int)) (pe_int)) (pe_int) (nomark _)) (nomark _))))) (pss_one (ps_ret pe_bl)) (pss_nil)))))))))))
      (pss_one (ps_ret (pe_cmpR (op_eqD hr.units) (pv 10) (pv 3) (nomark _))))))))))), ?_⟩
    -- the encoder
    intro E dE nE ndE neE
    have sE : Same H (upd (upd H dE (.own E)) E (.ins CE dE [])) := fun b o e => by
      rw [upd_ne (ne_of_none e nE), upd_ne (ne_of_none e ndE)]
      exact e
    refine ⟨H, E, dE, rfl, sE, nE, upd_same, fun H1 R1 => ⟨rfl, ?_⟩⟩
    -- the writer
    refine ⟨_, rfl, ?_⟩
    intro W dW nW ndW neW
    have R2 := (R1.new (o := .own W) ndW).new (o := .ins CW dW (wF E)) (a := W) (by rw [upd_ne neW.symm]; exact nW)
    have nW0 : H W = none := R1.same.free nW
    have ndW0 : H dW = none := R1.same.free ndW
    have sW : Same H (upd (upd H dW (.own W)) W (.ins CW dW (wF E))) := fun b o e => by
      rw [upd_ne (ne_of_none e nW0), upd_ne (ne_of_none e ndW0)]
      exact e
    have hW : (upd (upd H dW (.own W)) W (.ins CW dW (wF E))) W = some (.ins CW dW (wF E)) := upd_same
    refine ⟨W, dW, E, rfl, upd_same, rfl, ?_⟩
    rw [upd_upd]
    generalize upd (upd H dW (.own W)) W (.ins CW dW (wF E)) = G2 at R2 sW hW
    generalize upd (upd H1 dW (.own W)) W (.ins CW dW (wF E)) = H2 at R2
    -- the blocks' list
    refine ⟨(by show 0 ≤ sizeLine; decide), fun B nB => ?_⟩
    have R3 := R2.new (o := .lst []) nB
    have nB2 : G2 B = none := R2.same.free nB
    have WB : W ≠ B := ne_of_none hW nB2
    have nB0 : H B = none := sW.free nB2
    have b0 : Blks H (upd G2 B (.lst [])) B ns [] [] := ⟨sW.trans (same_upd nB2), nB0, upd_same, rfl, fun j b lv h1 _ => by simp at h1⟩
    have hW3 : (upd G2 B (.lst [])) W = some (.ins CW dW (wF E)) := by rw [upd_ne WB]; exact hW
    -- the first loop
    refine ⟨_, rfl, a, _, rfl, .inl (b0.same.trans R3.same |>.seq hS), _, _, rfl, rfl, _, _, rfl, ?_⟩
    obtain ⟨n, en, hn12⟩ : ∃ n : Nat, (if (12 : Int) < 1 + ((iL ns).length : Int) then (12 : Int) else 1 + ((iL ns).length : Int)) = (n : Int) ∧ n ≤ 12 := by
      split
      · exact ⟨12, rfl, Nat.le_refl _⟩
      · exact ⟨1 + (iL ns).length, by omega, by omega⟩
    refine ⟨(n : Int), congrArg (fun z => [V.int z]) en, by omega, by omega, ?_⟩
    rw [Int.toNat_natCast]
    refine for_range (lo := 0) (n := n) (fun i σ H' => ∃ (G : Hp) (bs : List Addr) (lvs : List (List Int)) (x4 x5 x6 x7 : Option V), σ = [some (.ref a), some (.ref E), some (.ref W), some (.ref B), x4, x5, x6, x7, none, none, none, none, none] ∧ EncAt CE G H' E (run cs0 (allD (ctxN ns) (btN ns) 0 lvs)) ∧
      G W = some (.ins CW dW (wF E)) ∧ Blks H G B ns bs lvs ∧ lvs.length = i) ⟨_, [], [], none, none, none, none, rfl, R3, hW3, b0, rfl⟩ ?_ ?_
    · rintro i σ H' hi ⟨G, bs, lvs, x4, x5, x6, x7, rfl, R, hW, bl, hl⟩
      have hSi := (bl.same.trans R.same).seq hS
      rw [show (0 : Int) + (i : Int) = (i : Int) by omega]
      refine ⟨_, rfl, _, rfl, a, ns, i, rfl, hSi, _, rfl, _, _, rfl, rfl, ?_⟩
      refine ⟨fun σ' H'' => σ' = [some (.ref a), some (.ref E), some (.ref W), some (.ref B), some (.int (i : Int)), some (.int (cN ns i)), some (.int ((cnt ns i : Nat) : Int)), x7, none, none, none, none, none] ∧ H'' = H', ?_, ?_⟩
      · refine ⟨_, rfl, _, _, rfl, rfl, (by show (0 : Int) < 2; decide), rfl, _, rfl, ?_⟩
        unfold cnt
        by_cases h : cN ns i % 2 = 1
        · rw [if_pos h]
          exact iteD (int_eq_iff.mpr h) ⟨rfl, rfl⟩
        · rw [if_neg h]
          exact iteDN (fun z => h (int_eq_iff.mp z)) ⟨rfl, rfl⟩
      · rintro σ' H'' ⟨rfl, rfl⟩
        have lB := R.same _ _ bl.lst
        refine ⟨_, rfl, .inl ⟨rfl, _, SqL.of lB⟩, _, rfl, _, _, rfl, rfl, ⟨by decide, by decide⟩, _, rfl, _, cnt ns i, rfl, cnt_or ns i, fun L lv H3 nL g m3 h3 => ?_⟩
        have nLG := R.same.free nL
        have LB : L ≠ B := (ne_of_none bl.lst nLG).symm
        have LW : W ≠ L := ne_of_none hW nLG
        have WB : W ≠ B := ne_of hW bl.lst (by intro z; cases z)
        have R4 : EncAt CE (upd G L (.lst (iL lv))) H3 E _ := (R.new nL).mono (same_ext m3 h3)
        have bl4 := bl.mono (same_upd (o := .lst (iL lv)) nLG)
        have g' : Good lv (cnt ns lvs.length) := by rw [hl]; exact g
        have bl5 := bl4.snoc upd_same LB g'
        have R5 := R4.put (o := .lst ((bs ++ [L]).map V.ref)) bl4.lst
        have hW5 : (upd (upd G L (.lst (iL lv))) B (.lst ((bs ++ [L]).map V.ref))) W = some (.ins CW dW (wF E)) := by rw [upd_ne WB, upd_ne LW]; exact hW
        have hL5 : (upd (upd G L (.lst (iL lv))) B (.lst ((bs ++ [L]).map V.ref))) L = some (.lst (iL lv)) := by rw [upd_ne LB, upd_same]
        have hb : bs.length = i := by rw [bl.len, hl]
        refine ⟨B, _, _, rfl, rfl, m3 _ _ lB, ?_, ?_⟩
        · rw [List.length_map, hb]
          exact Nat.lt_of_le_of_lt (show i ≤ 12 by omega) (by decide)
        rw [show bs.map V.ref ++ [V.ref L] = (bs ++ [L]).map V.ref by rw [List.map_append]; rfl]
        generalize upd (upd G L (.lst (iL lv))) B (.lst ((bs ++ [L]).map V.ref)) = G5 at R5 bl5 hW5 hL5
        generalize upd H3 B (.lst ((bs ++ [L]).map V.ref)) = H5 at R5
        have eat : atI ((bs ++ [L]).map V.ref) (i : Int) = some (V.ref L) := by
          refine atI_nat ?_
          rw [List.getElem?_map, List.getElem?_append_right (by omega), hb, Nat.sub_self]
          rfl
        -- told = list(blocks[k])
        refine ⟨_, rfl, _, rfl, B, _, _, _, rfl, rfl, SqL.of (R5.same _ _ bl5.lst), eat, L, _, rfl, .inl (SqL.of (R5.same _ _ hL5)), fun TT nT => ?_⟩
        have nTG := R5.same.free nT
        have R6 := R5.new (o := .lst (iL lv)) nT
        have m6 : Same G5 (upd G5 TT (.lst (iL lv))) := same_upd nTG
        have bl6 := bl5.mono m6
        have hW6 := m6 _ _ hW5
        have hL6 := m6 _ _ hL5
        have hT6 : (upd G5 TT (.lst (iL lv))) TT = some (.lst (iL lv)) := upd_same
        generalize upd G5 TT (.lst (iL lv)) = G6 at R6 bl6 hW6 hL6 hT6
        generalize upd H5 TT (.lst (iL lv)) = H6 at R6
        -- put_levels(writer, blocks[k])
        refine ⟨_, rfl, _, rfl, _, rfl, B, _, _, _, rfl, rfl, SqL.of (R6.same _ _ bl6.lst), eat, G6, W, E, L, _, lv, cnt ns i, rfl, ⟨R6, dW, hW6⟩, hL6, g, fun H7 R7 => ?_⟩
        -- blocks[k] != told
        refine ⟨_, rfl, _, rfl, B, _, _, _, rfl, rfl, SqL.of (R7.same _ _ bl6.lst), eat, _, rfl, dI lv, dI lv, dp_ints (SqL.of (R7.same _ _ hL6)), dp_ints (SqL.of (R7.same _ _ hT6)), shaped_dI lv, shaped_dI lv, _, rfl, ?_⟩
        rw [eqv_dI]
        refine iteF ?_
        -- the flag
        refine ⟨_, rfl, W, dW, _, rfl, R7.same _ _ hW6, wF_no _ (by decide +kernel), _, rfl, _, _, rfl, rfl, ⟨by decide, by decide⟩, _, _, rfl, rfl, (by show (0 : Int) < 256; decide), _, rfl, _, _, rfl, rfl, ⟨by decide, by decide⟩, _, _, rfl, rfl, (by show (0 : Int) < 2; decide), rfl,
          G6, W, E, _, ctxN ns i, btN ns i, ?_, ⟨R7, dW, hW6⟩, ctx_lt ns i, fun H8 R8 => ?_⟩
        · show [V.ref W, V.int (cN ns i / 3 % 256), V.bl (decide (V.int (cN ns i / 5 % 2) = V.int 1))] = _
          rw [ctx_eq]
          rfl
        · refine ⟨G6, bs ++ [L], lvs ++ [lv], _, _, _, _, rfl, ?_, hW6, bl6, by rw [List.length_append, hl]; rfl⟩
          rw [allD_snoc, run_app, run_app, Nat.zero_add, hl]
          exact R8
    · rintro σ H' ⟨G, bs, lvs, x4, x5, x6, x7, rfl, R, hW, bl, hl⟩
      have hgood : ∀ lv ∈ lvs, ∃ c, Good lv c := fun lv hlv => by
        obtain ⟨j, hj, rfl⟩ := List.getElem_of_mem hlv
        exact ⟨_, (bl.at_ j (bs[j]'(by rw [bl.len]; exact hj)) lvs[j] (List.getElem?_eq_getElem _) (List.getElem?_eq_getElem hj)).2.2⟩
      have hsh := sh_le (s := cs0) (allD (ctxN ns) (btN ns) 0 lvs)
      have hal := allD_len (ctxN ns) (btN ns) lvs 0 hgood
      have h0 : cs0.sh = 0 := rfl
      obtain ⟨okE, smE, npE, dxE, lE, nlE, hE1, hE2⟩ := id R
      -- the octets
      refine ⟨_, rfl, E, dxE, _, rfl, hE1, eF_no _ _ (by decide +kernel), G, E, _, rfl, R, by omega, fun q xs nq io => ?_⟩
      have m1 : Same H' (upd H' q (.lst (iL xs))) := same_upd nq
      have hq1 : (upd H' q (.lst (iL xs))) q = some (.lst (iL xs)) := upd_same
      have bl1 := bl.mono (R.same.trans m1)
      generalize upd H' q (.lst (iL xs)) = H1 at m1 hq1 bl1
      -- the decoder
      refine ⟨_, rfl, ?_⟩
      intro D dD nD ndD neD
      have sD : Same H1 (upd (upd H1 dD (.own D)) D (.ins CD dD [])) := fun b o e => by
        rw [upd_ne (ne_of_none e nD), upd_ne (ne_of_none e ndD)]
        exact e
      refine ⟨H1, D, dD, q, xs, allD (ctxN ns) (btN ns) 0 lvs, rfl, sD, nD, upd_same, sD _ _ hq1, io, fun H2 R2 => ⟨rfl, ?_⟩⟩
      -- the reader
      intro r dr nr ndr ner
      have R3 := (R2.new (o := .own r) ndr).new (o := .ins CR dr (rF D)) (a := r) (by rw [upd_ne ner.symm]; exact nr)
      have nr0 : H1 r = none := R2.same.free nr
      have ndr0 : H1 dr = none := R2.same.free ndr
      have sR : Same H1 (upd (upd H1 dr (.own r)) r (.ins CR dr (rF D))) := fun b o e => by
        rw [upd_ne (ne_of_none e nr0), upd_ne (ne_of_none e ndr0)]
        exact e
      have hR : (upd (upd H1 dr (.own r)) r (.ins CR dr (rF D))) r = some (.ins CR dr (rF D)) := upd_same
      refine ⟨r, dr, D, rfl, upd_same, rfl, ?_⟩
      rw [upd_upd]
      have bl3 := bl1.mono sR
      generalize upd (upd H1 dr (.own r)) r (.ins CR dr (rF D)) = G3 at R3 hR bl3
      generalize upd (upd H2 dr (.own r)) r (.ins CR dr (rF D)) = H3 at R3
      -- found
      refine ⟨(by show 0 ≤ sizeLine; decide), fun Fd nF => ?_⟩
      have nF3 := R3.same.free nF
      have R4 := R3.new (o := .lst []) nF
      have bl4 := bl3.mono (same_upd (o := .lst []) nF3)
      have hR4 : (upd G3 Fd (.lst [])) r = some (.ins CR dr (rF D)) := same_upd nF3 _ _ hR
      have hF4 : (upd G3 Fd (.lst [])) Fd = some (.lst (([] : List Addr).map V.ref)) := upd_same
      have nF0 : H Fd = none := bl3.same.free nF3
      have FB : Fd ≠ B := (ne_of_none bl3.lst nF3).symm
      have FbL : ∀ (j : Nat) (b : Addr) (lv : List Int), bs[j]? = some b → lvs[j]? = some lv → b ≠ Fd := fun j b lv h1 h2 => ne_of_none (bl3.at_ j b lv h1 h2).2.1 nF3
      generalize upd G3 Fd (.lst []) = G4 at R4 bl4 hR4 hF4
      generalize upd H3 Fd (.lst []) = H4 at R4
      refine ⟨_, rfl, B, _, rfl, .inl (SqL.of (R4.same _ _ bl4.lst)), ?_⟩
      rw [List.length_map]
      have hbs : bs.length ≤ 12 := by rw [bl.len]; omega
      refine ⟨(bs.length : Int), rfl, by omega, by omega, ?_⟩
      rw [Int.toNat_natCast]
      refine for_range (lo := 0) (n := bs.length) (fun i σ Hx => ∃ (G : Hp) (fs : List Addr) (si : CS) (y4 y5 y7 y11 y12 : Option V), σ = [some (.ref a), some (.ref E), some (.ref W), some (.ref B), y4, y5, x6, y7, some (.ref q), some (.ref r), some (.ref Fd), y11, y12] ∧ DecAt CD G Hx D (run cs0 (allD (ctxN ns) (btN ns) 0 lvs)) si ∧
        run cs0 (allD (ctxN ns) (btN ns) 0 lvs) = run si (allD (ctxN ns) (btN ns) i (lvs.drop i)) ∧ G r = some (.ins CR dr (rF D)) ∧ Blks H G B ns bs lvs ∧ G Fd = some (.lst (fs.map V.ref)) ∧ fs.length = i ∧
        ∀ (j : Nat) (b : Addr) (lv : List Int), fs[j]? = some b → lvs[j]? = some lv → b ≠ Fd ∧ G b = some (.lst (iL lv)))
        ⟨_, [], cs0, _, _, _, _, _, rfl, R4, rfl, hR4, bl4, hF4, rfl, fun j b lv h1 _ => by simp at h1⟩ ?_ ?_
      · rintro i σ Hx hi ⟨G, fs, si, y4, y5, y7, y11, y12, rfl, Ri, ei, hR, bl, hF, hfl, hfs⟩
        have hil : i < lvs.length := by rw [← bl.len]; exact hi
        have hSi := (bl.same.trans Ri.same).seq hS
        have hd : lvs.drop i = lvs[i] :: lvs.drop (i + 1) := List.drop_eq_getElem_cons hil
        have hb1 : bs[i]? = some bs[i] := List.getElem?_eq_getElem hi
        have hv1 : lvs[i]? = some lvs[i] := List.getElem?_eq_getElem hil
        obtain ⟨bB, hbG, g⟩ := bl.at_ i _ _ hb1 hv1
        have bF := FbL i _ _ hb1 hv1
        rw [hd] at ei
        have ei : run cs0 (allD (ctxN ns) (btN ns) 0 lvs) = run si (blkD lvs[i] ++ (some (ctxN ns i), btN ns i) :: allD (ctxN ns) (btN ns) (i + 1) (lvs.drop (i + 1))) := ei
        generalize elv : lvs[i] = lv at ei hbG g hv1
        generalize ebb : bs[i] = b at hb1 hbG bB bF
        generalize efin : run cs0 (allD (ctxN ns) (btN ns) 0 lvs) = fin at Ri ei
        rw [show (0 : Int) + (i : Int) = (i : Int) by omega]
        refine ⟨_, rfl, _, rfl, a, ns, i, rfl, hSi, _, rfl, _, _, rfl, rfl, ?_⟩
        refine ⟨fun σ' H'' => σ' = [some (.ref a), some (.ref E), some (.ref W), some (.ref B), some (.int (i : Int)), some (.int (cN ns i)), x6, y7, some (.ref q), some (.ref r), some (.ref Fd), some (.int ((szN ns i : Nat) : Int)), y12] ∧ H'' = Hx, ?_, ?_⟩
        · refine ⟨_, rfl, _, _, rfl, rfl, (by show (0 : Int) < 2; decide), rfl, _, rfl, ?_⟩
          unfold szN
          by_cases h : cN ns i % 2 = 1
          · rw [if_pos h]
            exact iteD (int_eq_iff.mpr h) ⟨rfl, rfl⟩
          · rw [if_neg h]
            exact iteDN (fun z => h (int_eq_iff.mp z)) ⟨rfl, rfl⟩
        · rintro σ' H'' ⟨rfl, rfl⟩
          have hzz : szN ns i * szN ns i = lv.length := by rw [sz_cnt, g.len]
          have hzi : ((szN ns i : Nat) : Int) * ((szN ns i : Nat) : Int) = ((lv.length : Nat) : Int) := by rw [← hzz]; rfl
          have hz8 := sz_or ns i
          refine ⟨_, rfl, _, rfl, G, r, D, si, lv, cnt ns i, szN ns i, _, rfl, hz8, hzz, ⟨(by rw [← ei]; exact Ri), dr, hR⟩, g, fun L H5 nL R5 => ?_⟩
          rw [← ei] at R5
          have m5 : Same G (upd G L (.lst (iL lv))) := same_upd nL
          have bl5 := bl.mono m5
          have hR5 := m5 _ _ hR
          have hF5 := m5 _ _ hF
          have hb5 := m5 _ _ hbG
          have hL5 : (upd G L (.lst (iL lv))) L = some (.lst (iL lv)) := upd_same
          have LF : L ≠ Fd := (ne_of_none hF nL).symm
          have hfs5 : ∀ (j : Nat) (b : Addr) (lv' : List Int), fs[j]? = some b → lvs[j]? = some lv' → b ≠ Fd ∧ (upd G L (.lst (iL lv))) b = some (.lst (iL lv')) := fun j b lv' h1 h2 => ⟨(hfs j b lv' h1 h2).1, m5 _ _ (hfs j b lv' h1 h2).2⟩
          generalize upd G L (.lst (iL lv)) = G5 at R5 bl5 hR5 hF5 hb5 hL5 hfs5
          -- not _law_is_integers(levels, size * size) or levels != blocks[k]
          refine ⟨_, rfl, _, rfl, _, rfl, _, _, rfl, rfl, .inl ⟨by omega, by omega⟩, L, lv, ?_, R5.same _ _ hL5, _, rfl, iteF ?_⟩
          · show [V.ref L, V.int (((szN ns i : Nat) : Int) * ((szN ns i : Nat) : Int))] = _
            rw [hzi]
          have eat : atI (bs.map V.ref) (i : Int) = some (V.ref b) := atI_nat (by rw [List.getElem?_map, hb1]; rfl)
          refine ⟨_, rfl, _, rfl, _, rfl, B, _, _, _, rfl, rfl, SqL.of (R5.same _ _ bl5.lst), eat, dI lv, dI lv, dp_ints (SqL.of (R5.same _ _ hL5)), dp_ints (SqL.of (R5.same _ _ hb5)), shaped_dI lv, shaped_dI lv, _, rfl, ?_⟩
          rw [eqv_dI]
          refine iteF ?_
          -- found.append(levels)
          refine ⟨_, rfl, .inl ⟨rfl, _, SqL.of (R5.same _ _ hF5)⟩, _, rfl, Fd, _, _, rfl, rfl, R5.same _ _ hF5, ?_, ?_⟩
          · rw [List.length_map, hfl]
            exact Nat.lt_of_le_of_lt (show i ≤ 12 by omega) (by decide)
          rw [show fs.map V.ref ++ [V.ref L] = (fs ++ [L]).map V.ref by rw [List.map_append]; rfl]
          have R6 := R5.put (o := .lst ((fs ++ [L]).map V.ref)) hF5
          have hR6 : (upd G5 Fd (.lst ((fs ++ [L]).map V.ref))) r = some (.ins CR dr (rF D)) := by rw [upd_ne (ne_of hR5 hF5 (by intro z; cases z))]; exact hR5
          have hF6 : (upd G5 Fd (.lst ((fs ++ [L]).map V.ref))) Fd = some (.lst ((fs ++ [L]).map V.ref)) := upd_same
          have bl6 : Blks H (upd G5 Fd (.lst ((fs ++ [L]).map V.ref))) B ns bs lvs := by
            refine ⟨fun b o e => ?_, bl5.nB, by rw [upd_ne FB.symm]; exact bl5.lst, bl5.len, fun j b lv h1 h2 => ⟨(bl5.at_ j b lv h1 h2).1, by rw [upd_ne (FbL j b lv h1 h2)]; exact (bl5.at_ j b lv h1 h2).2.1, (bl5.at_ j b lv h1 h2).2.2⟩⟩
            rw [upd_ne fun z => by rw [z, nF0] at e; cases e]
            exact bl5.same _ _ e
          have hfs6 : ∀ (j : Nat) (b : Addr) (lv' : List Int), (fs ++ [L])[j]? = some b → lvs[j]? = some lv' → b ≠ Fd ∧ (upd G5 Fd (.lst ((fs ++ [L]).map V.ref))) b = some (.lst (iL lv')) := fun j b' lv' h1 h2 => by
            by_cases hj : j < fs.length
            · rw [List.getElem?_append_left hj] at h1
              obtain ⟨a1, a2⟩ := hfs5 j b' lv' h1 h2
              exact ⟨a1, by rw [upd_ne a1]; exact a2⟩
            · have hj' : j = fs.length := by
                have := (List.getElem?_eq_some_iff.mp h1).1
                rw [List.length_append, List.length_singleton] at this
                omega
              subst hj'
              rw [List.getElem?_append_right (Nat.le_refl _), Nat.sub_self] at h1
              cases h1
              rw [hfl, hv1] at h2
              cases h2
              exact ⟨LF, by rw [upd_ne LF]; exact hL5⟩
          generalize upd G5 Fd (.lst ((fs ++ [L]).map V.ref)) = G6 at R6 hR6 hF6 bl6 hfs6
          generalize upd H5 Fd (.lst ((fs ++ [L]).map V.ref)) = H6 at R6
          -- the flag
          have ek : fin = run (run si (blkD lv)) ((some (ctxN ns i), btN ns i) :: allD (ctxN ns) (btN ns) (i + 1) (lvs.drop (i + 1))) := by rw [ei, run_app]
          refine ⟨_, rfl, r, dr, _, rfl, R6.same _ _ hR6, rF_no _ (by decide +kernel), _, rfl, _, _, rfl, rfl, ⟨by decide, by decide⟩, _, _, rfl, rfl, (by show (0 : Int) < 256; decide), G6, r, D, _, ctxN ns i, btN ns i, _, ?_, ⟨(by rw [ek] at R6; exact R6), dr, hR6⟩, ctx_lt ns i, fun H7 R7 => ?_⟩
          · show [V.ref r, V.int (cN ns i / 3 % 256)] = _
            rw [ctx_eq]
          rw [← ek] at R7
          -- not isinstance(told, bool) or told != (..)
          refine ⟨_, rfl, _, _, _, _, true, rfl, .ty _, .base (.bl _), kit_ty (by decide +kernel), _, rfl, iteF ?_⟩
          refine ⟨_, rfl, _, rfl, _, _, rfl, rfl, ⟨by decide, by decide⟩, _, _, rfl, rfl, (by show (0 : Int) < 2; decide), rfl, rfl, _, rfl, ?_⟩
          refine iteNS (show V.bl (btN ns i) = V.bl (decide (V.int (cN ns i / 5 % 2) = V.int 1)) from rfl) ?_
          refine ⟨G6, fs ++ [L], _, _, _, _, _, _, rfl, R7, ?_, hR6, bl6, hF6, by rw [List.length_append, hfl]; rfl, hfs6⟩
          rw [ek, run_cons]
      · rintro σ Hx ⟨G, fs, si, y4, y5, y7, y11, y12, rfl, Ri, ei, hR, bl, hF, hfl, hfs⟩
        refine ⟨_, rfl, _, rfl, dNN lvs, dNN lvs, dp_refs (SqL.of (Ri.same _ _ hF)) (by rw [hfl, bl.len]) (fun j b lv h1 h2 => Ri.same _ _ (hfs j b lv h1 h2).2), dp_refs (SqL.of (Ri.same _ _ bl.lst)) bl.len (fun j b lv h1 h2 => Ri.same _ _ (bl.at_ j b lv h1 h2).2.1), shaped_dN lvs, shaped_dN lvs, ?_⟩
        rw [eqv_dN]
        exact k _
end
end K47
namespace K47
open PySem L2
open C8 (Cal Met Mak pe_c pe_mk pe_mt pe_mt0 fnScope pss_cut)
theorem all_mk {l : PySem.W.OpenLaw} {w : World} {K : PySem.W.Frag} {h : Heap} {mg : Str → Option Value} {fa CE CD CW CR f1 f2 f3 f4 f5 f6 f7 f8 f9 f10 f11 f12 f13 f14 f15 f16 f17 f18 f19 f20 f21 f22 f23 f24 f25 f26 f27 f28 f29 f30 f31 f32 f33 f34 f35 f36 : Addr} (X : K.In h) (G : h.Ns mainGlobals mg) (hfa : mg "law" = some (.ref fa))
    {t_SIGNIFICANT t_LAST t_LEVEL t_LEAST_LEVEL t_GREATEST_LEVEL t_CONTEXTS t_EVEN t_FULL t_LEAST t_MAX_NUMBER t_PREFIX : Tok}
    {od1 an1 : Option Addr} {sl1 : Array (Option Value)} {oc1 kV1 dc1 pm1 cd1 ct1 : Value}
    {od2 an2 : Option Addr} {sl2 : Array (Option Value)} {oc2 kV2 dc2 pm2 cd2 ct2 : Value}
    {od3 an3 : Option Addr} {sl3 : Array (Option Value)} {oc3 kV3 dc3 pm3 cd3 ct3 : Value}
    {od4 an4 : Option Addr} {sl4 : Array (Option Value)} {oc4 kV4 dc4 pm4 cd4 ct4 : Value}
    {od5 an5 : Option Addr} {sl5 : Array (Option Value)} {oc5 kV5 dc5 pm5 cd5 ct5 : Value}
    {od6 an6 : Option Addr} {sl6 : Array (Option Value)} {oc6 kV6 dc6 pm6 cd6 ct6 : Value}
    {od7 an7 : Option Addr} {sl7 : Array (Option Value)} {oc7 kV7 dc7 pm7 cd7 ct7 : Value}
    {od8 an8 : Option Addr} {sl8 : Array (Option Value)} {oc8 kV8 dc8 pm8 cd8 ct8 : Value}
    {od9 an9 : Option Addr} {sl9 : Array (Option Value)} {oc9 kV9 dc9 pm9 cd9 ct9 : Value}
    {od10 an10 : Option Addr} {sl10 : Array (Option Value)} {oc10 kV10 dc10 pm10 cd10 ct10 : Value}
    {od11 an11 : Option Addr} {sl11 : Array (Option Value)} {oc11 kV11 dc11 pm11 cd11 ct11 : Value}
    {od12 an12 : Option Addr} {sl12 : Array (Option Value)} {oc12 kV12 dc12 pm12 cd12 ct12 : Value}
    {od13 an13 : Option Addr} {sl13 : Array (Option Value)} {oc13 kV13 dc13 pm13 cd13 ct13 : Value}
    {od14 an14 : Option Addr} {sl14 : Array (Option Value)} {oc14 kV14 dc14 pm14 cd14 ct14 : Value}
    {od15 an15 : Option Addr} {sl15 : Array (Option Value)} {oc15 kV15 dc15 pm15 cd15 ct15 : Value}
    {od16 an16 : Option Addr} {sl16 : Array (Option Value)} {oc16 kV16 dc16 pm16 cd16 ct16 : Value}
    {od17 an17 : Option Addr} {sl17 : Array (Option Value)} {oc17 kV17 dc17 pm17 cd17 ct17 : Value}
    {od18 an18 : Option Addr} {sl18 : Array (Option Value)} {oc18 kV18 dc18 pm18 cd18 ct18 : Value}
    {od19 an19 : Option Addr} {sl19 : Array (Option Value)} {oc19 kV19 dc19 pm19 cd19 ct19 : Value}
    {od20 an20 : Option Addr} {sl20 : Array (Option Value)} {oc20 kV20 dc20 pm20 cd20 ct20 : Value}
    {od21 an21 : Option Addr} {sl21 : Array (Option Value)} {oc21 kV21 dc21 pm21 cd21 ct21 : Value}
    {od22 an22 : Option Addr} {sl22 : Array (Option Value)} {oc22 kV22 dc22 pm22 cd22 ct22 : Value}
    {od23 an23 : Option Addr} {sl23 : Array (Option Value)} {oc23 kV23 dc23 pm23 cd23 ct23 : Value}
    {od24 an24 : Option Addr} {sl24 : Array (Option Value)} {oc24 kV24 dc24 pm24 cd24 ct24 : Value}
    {od25 an25 : Option Addr} {sl25 : Array (Option Value)} {oc25 kV25 dc25 pm25 cd25 ct25 : Value}
    {od26 an26 : Option Addr} {sl26 : Array (Option Value)} {oc26 kV26 dc26 pm26 cd26 ct26 : Value}
    {od27 an27 : Option Addr} {sl27 : Array (Option Value)} {oc27 kV27 dc27 pm27 cd27 ct27 : Value}
    {od28 an28 : Option Addr} {sl28 : Array (Option Value)} {oc28 kV28 dc28 pm28 cd28 ct28 : Value}
    {od29 an29 : Option Addr} {sl29 : Array (Option Value)} {oc29 kV29 dc29 pm29 cd29 ct29 : Value}
    {od30 an30 : Option Addr} {sl30 : Array (Option Value)} {oc30 kV30 dc30 pm30 cd30 ct30 : Value}
    {od31 an31 : Option Addr} {sl31 : Array (Option Value)} {oc31 kV31 dc31 pm31 cd31 ct31 : Value}
    {od32 an32 : Option Addr} {sl32 : Array (Option Value)} {oc32 kV32 dc32 pm32 cd32 ct32 : Value}
    {od33 an33 : Option Addr} {sl33 : Array (Option Value)} {oc33 kV33 dc33 pm33 cd33 ct33 : Value}
    {od34 an34 : Option Addr} {sl34 : Array (Option Value)} {oc34 kV34 dc34 pm34 cd34 ct34 : Value}
    {od35 an35 : Option Addr} {sl35 : Array (Option Value)} {oc35 kV35 dc35 pm35 cd35 ct35 : Value}
    {od36 an36 : Option Addr} {sl36 : Array (Option Value)} {oc36 kV36 dc36 pm36 cd36 ct36 : Value}
    (aE : PySem.W.nsIn K mainGlobals "Encoder" = some (some (.ref CE)))
    (aD : PySem.W.nsIn K mainGlobals "Decoder" = some (some (.ref CD)))
    (aW : PySem.W.nsIn K mainGlobals "SymbolWriter" = some (some (.ref CW)))
    (aR : PySem.W.nsIn K mainGlobals "SymbolReader" = some (some (.ref CR)))
    (a1 : PySem.W.nsIn K mainGlobals "check_levels" = some (some (.ref f1)))
    (l1 : K.lookup f1 = some ⟨oc1, od1, .func (PySem.W.fnOf "check_levels" "check_levels" (C8.fnArgs sChkLevels) (C8.fnBody sChkLevels) (C8.fnScope sChkLevels) .none kV1 dc1 pm1 an1 cd1 ct1), sl1⟩)
    (c1 : PySem.W.codeIn K cd1 "check_levels" = true)
    (k1 : PySem.W.keepIn K (.ref f1) = true)
    (a2 : PySem.W.nsIn K mainGlobals "position_class" = some (some (.ref f2)))
    (l2 : K.lookup f2 = some ⟨oc2, od2, .func (PySem.W.fnOf "position_class" "position_class" (C8.fnArgs sPosClass) (C8.fnBody sPosClass) (C8.fnScope sPosClass) .none kV2 dc2 pm2 an2 cd2 ct2), sl2⟩)
    (c2 : PySem.W.codeIn K cd2 "position_class" = true)
    (k2 : PySem.W.keepIn K (.ref f2) = true)
    (a3 : PySem.W.nsIn K mainGlobals "put_places" = some (some (.ref f3)))
    (l3 : K.lookup f3 = some ⟨oc3, od3, .func (PySem.W.fnOf "put_places" "put_places" (C8.fnArgs sPutPlaces) (C8.fnBody sPutPlaces) (C8.fnScope sPutPlaces) .none kV3 dc3 pm3 an3 cd3 ct3), sl3⟩)
    (c3 : PySem.W.codeIn K cd3 "put_places" = true)
    (k3 : PySem.W.keepIn K (.ref f3) = true)
    (a4 : PySem.W.nsIn K mainGlobals "get_places" = some (some (.ref f4)))
    (l4 : K.lookup f4 = some ⟨oc4, od4, .func (PySem.W.fnOf "get_places" "get_places" (C8.fnArgs sGetPlaces) (C8.fnBody sGetPlaces) (C8.fnScope sGetPlaces) .none kV4 dc4 pm4 an4 cd4 ct4), sl4⟩)
    (c4 : PySem.W.codeIn K cd4 "get_places" = true)
    (k4 : PySem.W.keepIn K (.ref f4) = true)
    (a5 : PySem.W.nsIn K mainGlobals "put_levels" = some (some (.ref f5)))
    (l5 : K.lookup f5 = some ⟨oc5, od5, .func (PySem.W.fnOf "put_levels" "put_levels" (C8.fnArgs sPutLevels) (C8.fnBody sPutLevels) (C8.fnScope sPutLevels) .none kV5 dc5 pm5 an5 cd5 ct5), sl5⟩)
    (c5 : PySem.W.codeIn K cd5 "put_levels" = true)
    (k5 : PySem.W.keepIn K (.ref f5) = true)
    (a6 : PySem.W.nsIn K mainGlobals "get_levels" = some (some (.ref f6)))
    (l6 : K.lookup f6 = some ⟨oc6, od6, .func (PySem.W.fnOf "get_levels" "get_levels" (C8.fnArgs sGetLevels) (C8.fnBody sGetLevels) (C8.fnScope sGetLevels) .none kV6 dc6 pm6 an6 cd6 ct6), sl6⟩)
    (c6 : PySem.W.codeIn K cd6 "get_levels" = true)
    (k6 : PySem.W.keepIn K (.ref f6) = true)
    (a7 : PySem.W.nsIn K mainGlobals "adapted" = some (some (.ref f7)))
    (l7 : K.lookup f7 = some ⟨oc7, od7, .func (PySem.W.fnOf "adapted" "adapted" (C8.fnArgs sAdapted) (C8.fnBody sAdapted) (C8.fnScope sAdapted) .none kV7 dc7 pm7 an7 cd7 ct7), sl7⟩)
    (c7 : PySem.W.codeIn K cd7 "adapted" = true)
    (k7 : PySem.W.keepIn K (.ref f7) = true)
    (a8 : PySem.W.nsIn K mainGlobals "check_context" = some (some (.ref f8)))
    (l8 : K.lookup f8 = some ⟨oc8, od8, .func (PySem.W.fnOf "check_context" "check_context" (C8.fnArgs sChkContext) (C8.fnBody sChkContext) (C8.fnScope sChkContext) .none kV8 dc8 pm8 an8 cd8 ct8), sl8⟩)
    (c8 : PySem.W.codeIn K cd8 "check_context" = true)
    (k8 : PySem.W.keepIn K (.ref f8) = true)
    (a9 : PySem.W.nsIn K mainGlobals "check_decision" = some (some (.ref f9)))
    (l9 : K.lookup f9 = some ⟨oc9, od9, .func (PySem.W.fnOf "check_decision" "check_decision" (C8.fnArgs sChkDecision) (C8.fnBody sChkDecision) (C8.fnScope sChkDecision) .none kV9 dc9 pm9 an9 cd9 ct9), sl9⟩)
    (c9 : PySem.W.codeIn K cd9 "check_decision" = true)
    (k9 : PySem.W.keepIn K (.ref f9) = true)
    (a10 : PySem.W.nsIn K mainGlobals "check_contexts" = some (some (.ref f10)))
    (l10 : K.lookup f10 = some ⟨oc10, od10, .func (PySem.W.fnOf "check_contexts" "check_contexts" (C8.fnArgs sChkContexts) (C8.fnBody sChkContexts) (C8.fnScope sChkContexts) .none kV10 dc10 pm10 an10 cd10 ct10), sl10⟩)
    (c10 : PySem.W.codeIn K cd10 "check_contexts" = true)
    (k10 : PySem.W.keepIn K (.ref f10) = true)
    (a11 : PySem.W.nsIn K mainGlobals "check_unary" = some (some (.ref f11)))
    (l11 : K.lookup f11 = some ⟨oc11, od11, .func (PySem.W.fnOf "check_unary" "check_unary" (C8.fnArgs sChkUnary) (C8.fnBody sChkUnary) (C8.fnScope sChkUnary) .none kV11 dc11 pm11 an11 cd11 ct11), sl11⟩)
    (c11 : PySem.W.codeIn K cd11 "check_unary" = true)
    (k11 : PySem.W.keepIn K (.ref f11) = true)
    (a12 : PySem.W.nsIn K mainGlobals "_law_cell" = some (some (.ref f12)))
    (l12 : K.lookup f12 = some ⟨oc12, od12, .func (PySem.W.fnOf "_law_cell" "_law_cell" (C8.fnArgs sCell) (C8.fnBody sCell) (C8.fnScope sCell) .none kV12 dc12 pm12 an12 cd12 ct12), sl12⟩)
    (c12 : PySem.W.codeIn K cd12 "_law_cell" = true)
    (k12 : PySem.W.keepIn K (.ref f12) = true)
    (a13 : PySem.W.nsIn K mainGlobals "_law_digits" = some (some (.ref f13)))
    (l13 : K.lookup f13 = some ⟨oc13, od13, .func (PySem.W.fnOf "_law_digits" "_law_digits" (C8.fnArgs sDigits) (C8.fnBody sDigits) (C8.fnScope sDigits) .none kV13 dc13 pm13 an13 cd13 ct13), sl13⟩)
    (c13 : PySem.W.codeIn K cd13 "_law_digits" = true)
    (k13 : PySem.W.keepIn K (.ref f13) = true)
    (a14 : PySem.W.nsIn K mainGlobals "_law_is_integers" = some (some (.ref f14)))
    (l14 : K.lookup f14 = some ⟨oc14, od14, .func (PySem.W.fnOf "_law_is_integers" "_law_is_integers" (C8.fnArgs sIsInts) (C8.fnBody sIsInts) (C8.fnScope sIsInts) .none kV14 dc14 pm14 an14 cd14 ct14), sl14⟩)
    (c14 : PySem.W.codeIn K cd14 "_law_is_integers" = true)
    (k14 : PySem.W.keepIn K (.ref f14) = true)
    (a15 : PySem.W.nsIn K mainGlobals "_law_block" = some (some (.ref f15)))
    (l15 : K.lookup f15 = some ⟨oc15, od15, .func (PySem.W.fnOf "_law_block" "_law_block" (C8.fnArgs sBlock) (C8.fnBody sBlock) (C8.fnScope sBlock) .none kV15 dc15 pm15 an15 cd15 ct15), sl15⟩)
    (c15 : PySem.W.codeIn K cd15 "_law_block" = true)
    (k15 : PySem.W.keepIn K (.ref f15) = true)
    (a16 : PySem.W.nsIn K mainGlobals "law" = some (some (.ref f16)))
    (l16 : K.lookup f16 = some ⟨oc16, od16, .func (PySem.W.fnOf "law" "law" (C8.fnArgs sLaw) (C8.fnBody sLaw) (C8.fnScope sLaw) .none kV16 dc16 pm16 an16 cd16 ct16), sl16⟩)
    (c16 : PySem.W.codeIn K cd16 "law" = true)
    (k16 : PySem.W.keepIn K (.ref f16) = true)
    (a17 : PySem.W.findIn K (.ref CE) "__init__" = some (some (.ref f17)))
    (i17 : PySem.W.isFn K (.ref f17) = true)
    (l17 : K.lookup f17 = some ⟨oc17, od17, .func (PySem.W.fnOf "__init__" "Encoder.__init__" (C8.fnArgs sEInit) (C8.fnBody sEInit) (C8.fnScope sEInit) .none kV17 dc17 pm17 an17 cd17 ct17), sl17⟩)
    (c17 : PySem.W.codeIn K cd17 "Encoder.__init__" = true)
    (k17 : PySem.W.keepIn K (.ref f17) = true)
    (a18 : PySem.W.findIn K (.ref CE) "step" = some (some (.ref f18)))
    (i18 : PySem.W.isFn K (.ref f18) = true)
    (l18 : K.lookup f18 = some ⟨oc18, od18, .func (PySem.W.fnOf "step" "Encoder.step" (C8.fnArgs sEStep) (C8.fnBody sEStep) (C8.fnScope sEStep) .none kV18 dc18 pm18 an18 cd18 ct18), sl18⟩)
    (c18 : PySem.W.codeIn K cd18 "Encoder.step" = true)
    (k18 : PySem.W.keepIn K (.ref f18) = true)
    (a19 : PySem.W.findIn K (.ref CE) "code" = some (some (.ref f19)))
    (i19 : PySem.W.isFn K (.ref f19) = true)
    (l19 : K.lookup f19 = some ⟨oc19, od19, .func (PySem.W.fnOf "code" "Encoder.code" (C8.fnArgs sECode) (C8.fnBody sECode) (C8.fnScope sECode) .none kV19 dc19 pm19 an19 cd19 ct19), sl19⟩)
    (c19 : PySem.W.codeIn K cd19 "Encoder.code" = true)
    (k19 : PySem.W.keepIn K (.ref f19) = true)
    (a20 : PySem.W.findIn K (.ref CE) "code_even" = some (some (.ref f20)))
    (i20 : PySem.W.isFn K (.ref f20) = true)
    (l20 : K.lookup f20 = some ⟨oc20, od20, .func (PySem.W.fnOf "code_even" "Encoder.code_even" (C8.fnArgs sEEven) (C8.fnBody sEEven) (C8.fnScope sEEven) .none kV20 dc20 pm20 an20 cd20 ct20), sl20⟩)
    (c20 : PySem.W.codeIn K cd20 "Encoder.code_even" = true)
    (k20 : PySem.W.keepIn K (.ref f20) = true)
    (a21 : PySem.W.findIn K (.ref CE) "octets" = some (some (.ref f21)))
    (i21 : PySem.W.isFn K (.ref f21) = true)
    (l21 : K.lookup f21 = some ⟨oc21, od21, .func (PySem.W.fnOf "octets" "Encoder.octets" (C8.fnArgs sEOctets) (C8.fnBody sEOctets) (C8.fnScope sEOctets) .none kV21 dc21 pm21 an21 cd21 ct21), sl21⟩)
    (c21 : PySem.W.codeIn K cd21 "Encoder.octets" = true)
    (k21 : PySem.W.keepIn K (.ref f21) = true)
    (a22 : PySem.W.findIn K (.ref CD) "__init__" = some (some (.ref f22)))
    (i22 : PySem.W.isFn K (.ref f22) = true)
    (l22 : K.lookup f22 = some ⟨oc22, od22, .func (PySem.W.fnOf "__init__" "Decoder.__init__" (C8.fnArgs sDInit) (C8.fnBody sDInit) (C8.fnScope sDInit) .none kV22 dc22 pm22 an22 cd22 ct22), sl22⟩)
    (c22 : PySem.W.codeIn K cd22 "Decoder.__init__" = true)
    (k22 : PySem.W.keepIn K (.ref f22) = true)
    (a23 : PySem.W.findIn K (.ref CD) "following" = some (some (.ref f23)))
    (i23 : PySem.W.isFn K (.ref f23) = true)
    (l23 : K.lookup f23 = some ⟨oc23, od23, .func (PySem.W.fnOf "following" "Decoder.following" (C8.fnArgs sDFol) (C8.fnBody sDFol) (C8.fnScope sDFol) .none kV23 dc23 pm23 an23 cd23 ct23), sl23⟩)
    (c23 : PySem.W.codeIn K cd23 "Decoder.following" = true)
    (k23 : PySem.W.keepIn K (.ref f23) = true)
    (a24 : PySem.W.findIn K (.ref CD) "step" = some (some (.ref f24)))
    (i24 : PySem.W.isFn K (.ref f24) = true)
    (l24 : K.lookup f24 = some ⟨oc24, od24, .func (PySem.W.fnOf "step" "Decoder.step" (C8.fnArgs sDStep) (C8.fnBody sDStep) (C8.fnScope sDStep) .none kV24 dc24 pm24 an24 cd24 ct24), sl24⟩)
    (c24 : PySem.W.codeIn K cd24 "Decoder.step" = true)
    (k24 : PySem.W.keepIn K (.ref f24) = true)
    (a25 : PySem.W.findIn K (.ref CD) "read" = some (some (.ref f25)))
    (i25 : PySem.W.isFn K (.ref f25) = true)
    (l25 : K.lookup f25 = some ⟨oc25, od25, .func (PySem.W.fnOf "read" "Decoder.read" (C8.fnArgs sDRead) (C8.fnBody sDRead) (C8.fnScope sDRead) .none kV25 dc25 pm25 an25 cd25 ct25), sl25⟩)
    (c25 : PySem.W.codeIn K cd25 "Decoder.read" = true)
    (k25 : PySem.W.keepIn K (.ref f25) = true)
    (a26 : PySem.W.findIn K (.ref CD) "read_even" = some (some (.ref f26)))
    (i26 : PySem.W.isFn K (.ref f26) = true)
    (l26 : K.lookup f26 = some ⟨oc26, od26, .func (PySem.W.fnOf "read_even" "Decoder.read_even" (C8.fnArgs sDEven) (C8.fnBody sDEven) (C8.fnScope sDEven) .none kV26 dc26 pm26 an26 cd26 ct26), sl26⟩)
    (c26 : PySem.W.codeIn K cd26 "Decoder.read_even" = true)
    (k26 : PySem.W.keepIn K (.ref f26) = true)
    (a27 : PySem.W.findIn K (.ref CW) "__init__" = some (some (.ref f27)))
    (i27 : PySem.W.isFn K (.ref f27) = true)
    (l27 : K.lookup f27 = some ⟨oc27, od27, .func (PySem.W.fnOf "__init__" "SymbolWriter.__init__" (C8.fnArgs sWInit) (C8.fnBody sWInit) (C8.fnScope sWInit) .none kV27 dc27 pm27 an27 cd27 ct27), sl27⟩)
    (c27 : PySem.W.codeIn K cd27 "SymbolWriter.__init__" = true)
    (k27 : PySem.W.keepIn K (.ref f27) = true)
    (a28 : PySem.W.findIn K (.ref CW) "even" = some (some (.ref f28)))
    (i28 : PySem.W.isFn K (.ref f28) = true)
    (l28 : K.lookup f28 = some ⟨oc28, od28, .func (PySem.W.fnOf "even" "SymbolWriter.even" (C8.fnArgs sWEven) (C8.fnBody sWEven) (C8.fnScope sWEven) .none kV28 dc28 pm28 an28 cd28 ct28), sl28⟩)
    (c28 : PySem.W.codeIn K cd28 "SymbolWriter.even" = true)
    (k28 : PySem.W.keepIn K (.ref f28) = true)
    (a29 : PySem.W.findIn K (.ref CW) "flag" = some (some (.ref f29)))
    (i29 : PySem.W.isFn K (.ref f29) = true)
    (l29 : K.lookup f29 = some ⟨oc29, od29, .func (PySem.W.fnOf "flag" "SymbolWriter.flag" (C8.fnArgs sWFlag) (C8.fnBody sWFlag) (C8.fnScope sWFlag) .none kV29 dc29 pm29 an29 cd29 ct29), sl29⟩)
    (c29 : PySem.W.codeIn K cd29 "SymbolWriter.flag" = true)
    (k29 : PySem.W.keepIn K (.ref f29) = true)
    (a30 : PySem.W.findIn K (.ref CW) "unary" = some (some (.ref f30)))
    (i30 : PySem.W.isFn K (.ref f30) = true)
    (l30 : K.lookup f30 = some ⟨oc30, od30, .func (PySem.W.fnOf "unary" "SymbolWriter.unary" (C8.fnArgs sWUnary) (C8.fnBody sWUnary) (C8.fnScope sWUnary) .none kV30 dc30 pm30 an30 cd30 ct30), sl30⟩)
    (c30 : PySem.W.codeIn K cd30 "SymbolWriter.unary" = true)
    (k30 : PySem.W.keepIn K (.ref f30) = true)
    (a31 : PySem.W.findIn K (.ref CW) "number" = some (some (.ref f31)))
    (i31 : PySem.W.isFn K (.ref f31) = true)
    (l31 : K.lookup f31 = some ⟨oc31, od31, .func (PySem.W.fnOf "number" "SymbolWriter.number" (C8.fnArgs sWNumber) (C8.fnBody sWNumber) (C8.fnScope sWNumber) .none kV31 dc31 pm31 an31 cd31 ct31), sl31⟩)
    (c31 : PySem.W.codeIn K cd31 "SymbolWriter.number" = true)
    (k31 : PySem.W.keepIn K (.ref f31) = true)
    (a32 : PySem.W.findIn K (.ref CR) "__init__" = some (some (.ref f32)))
    (i32 : PySem.W.isFn K (.ref f32) = true)
    (l32 : K.lookup f32 = some ⟨oc32, od32, .func (PySem.W.fnOf "__init__" "SymbolReader.__init__" (C8.fnArgs sRInit) (C8.fnBody sRInit) (C8.fnScope sRInit) .none kV32 dc32 pm32 an32 cd32 ct32), sl32⟩)
    (c32 : PySem.W.codeIn K cd32 "SymbolReader.__init__" = true)
    (k32 : PySem.W.keepIn K (.ref f32) = true)
    (a33 : PySem.W.findIn K (.ref CR) "even" = some (some (.ref f33)))
    (i33 : PySem.W.isFn K (.ref f33) = true)
    (l33 : K.lookup f33 = some ⟨oc33, od33, .func (PySem.W.fnOf "even" "SymbolReader.even" (C8.fnArgs sREven) (C8.fnBody sREven) (C8.fnScope sREven) .none kV33 dc33 pm33 an33 cd33 ct33), sl33⟩)
    (c33 : PySem.W.codeIn K cd33 "SymbolReader.even" = true)
    (k33 : PySem.W.keepIn K (.ref f33) = true)
    (a34 : PySem.W.findIn K (.ref CR) "flag" = some (some (.ref f34)))
    (i34 : PySem.W.isFn K (.ref f34) = true)
    (l34 : K.lookup f34 = some ⟨oc34, od34, .func (PySem.W.fnOf "flag" "SymbolReader.flag" (C8.fnArgs sRFlag) (C8.fnBody sRFlag) (C8.fnScope sRFlag) .none kV34 dc34 pm34 an34 cd34 ct34), sl34⟩)
    (c34 : PySem.W.codeIn K cd34 "SymbolReader.flag" = true)
    (k34 : PySem.W.keepIn K (.ref f34) = true)
    (a35 : PySem.W.findIn K (.ref CR) "unary" = some (some (.ref f35)))
    (i35 : PySem.W.isFn K (.ref f35) = true)
    (l35 : K.lookup f35 = some ⟨oc35, od35, .func (PySem.W.fnOf "unary" "SymbolReader.unary" (C8.fnArgs sRUnary) (C8.fnBody sRUnary) (C8.fnScope sRUnary) .none kV35 dc35 pm35 an35 cd35 ct35), sl35⟩)
    (c35 : PySem.W.codeIn K cd35 "SymbolReader.unary" = true)
    (k35 : PySem.W.keepIn K (.ref f35) = true)
    (a36 : PySem.W.findIn K (.ref CR) "number" = some (some (.ref f36)))
    (i36 : PySem.W.isFn K (.ref f36) = true)
    (l36 : K.lookup f36 = some ⟨oc36, od36, .func (PySem.W.fnOf "number" "SymbolReader.number" (C8.fnArgs sRNumber) (C8.fnBody sRNumber) (C8.fnScope sRNumber) .none kV36 dc36 pm36 an36 cd36 ct36), sl36⟩)
    (c36 : PySem.W.codeIn K cd36 "SymbolReader.number" = true)
    (k36 : PySem.W.keepIn K (.ref f36) = true)
    (pgE : PySem.W.plainGet K CE Str.empty = true)
    (hdE : PySem.W.hasDictIn K CE = true)
    (poE : PySem.W.plainOver K CE = true)
    (saE : PySem.W.findIn K (.ref CE) "__setattr__" = some (some (.builtin "object.__setattr__")))
    (mkE : PySem.W.makesIn K CE = true)
    (kcE : PySem.W.keepIn K (.ref CE) = true)
    (nE_chances : PySem.W.findIn K (.ref CE) "chances" = some none)
    (nE_low : PySem.W.findIn K (.ref CE) "low" = some none)
    (nE_span : PySem.W.findIn K (.ref CE) "span" = some none)
    (nE_shifts : PySem.W.findIn K (.ref CE) "shifts" = some none)
    (pgD : PySem.W.plainGet K CD Str.empty = true)
    (hdD : PySem.W.hasDictIn K CD = true)
    (poD : PySem.W.plainOver K CD = true)
    (saD : PySem.W.findIn K (.ref CD) "__setattr__" = some (some (.builtin "object.__setattr__")))
    (mkD : PySem.W.makesIn K CD = true)
    (kcD : PySem.W.keepIn K (.ref CD) = true)
    (nD_chances : PySem.W.findIn K (.ref CD) "chances" = some none)
    (nD_source : PySem.W.findIn K (.ref CD) "source" = some none)
    (nD_place : PySem.W.findIn K (.ref CD) "place" = some none)
    (nD_span : PySem.W.findIn K (.ref CD) "span" = some none)
    (nD_value : PySem.W.findIn K (.ref CD) "value" = some none)
    (pgW : PySem.W.plainGet K CW Str.empty = true)
    (hdW : PySem.W.hasDictIn K CW = true)
    (poW : PySem.W.plainOver K CW = true)
    (saW : PySem.W.findIn K (.ref CW) "__setattr__" = some (some (.builtin "object.__setattr__")))
    (mkW : PySem.W.makesIn K CW = true)
    (kcW : PySem.W.keepIn K (.ref CW) = true)
    (nW_encoder : PySem.W.findIn K (.ref CW) "encoder" = some none)
    (pgR : PySem.W.plainGet K CR Str.empty = true)
    (hdR : PySem.W.hasDictIn K CR = true)
    (poR : PySem.W.plainOver K CR = true)
    (saR : PySem.W.findIn K (.ref CR) "__setattr__" = some (some (.builtin "object.__setattr__")))
    (mkR : PySem.W.makesIn K CR = true)
    (kcR : PySem.W.keepIn K (.ref CR) = true)
    (nR_decoder : PySem.W.findIn K (.ref CR) "decoder" = some none)
    (v_SIGNIFICANT : PySem.W.nsIn K mainGlobals "SIGNIFICANT" = some (some (.int 64 t_SIGNIFICANT)))
    (v_LAST : PySem.W.nsIn K mainGlobals "LAST" = some (some (.int 128 t_LAST)))
    (v_LEVEL : PySem.W.nsIn K mainGlobals "LEVEL" = some (some (.int 192 t_LEVEL)))
    (v_LEAST_LEVEL : PySem.W.nsIn K mainGlobals "LEAST_LEVEL" = some (some (.int (-524288) t_LEAST_LEVEL)))
    (v_GREATEST_LEVEL : PySem.W.nsIn K mainGlobals "GREATEST_LEVEL" = some (some (.int 524287 t_GREATEST_LEVEL)))
    (v_CONTEXTS : PySem.W.nsIn K mainGlobals "CONTEXTS" = some (some (.int 256 t_CONTEXTS)))
    (v_EVEN : PySem.W.nsIn K mainGlobals "EVEN" = some (some (.int 2048 t_EVEN)))
    (v_FULL : PySem.W.nsIn K mainGlobals "FULL" = some (some (.int 4294967295 t_FULL)))
    (v_LEAST : PySem.W.nsIn K mainGlobals "LEAST" = some (some (.int 16777216 t_LEAST)))
    (v_MAX_NUMBER : PySem.W.nsIn K mainGlobals "MAX_NUMBER" = some (some (.int 1048576 t_MAX_NUMBER)))
    (v_PREFIX : PySem.W.nsIn K mainGlobals "PREFIX" = some (some (.int 20 t_PREFIX)))
    (z_len : PySem.W.nsIn K mainGlobals "len" = some none)
    (z_range : PySem.W.nsIn K mainGlobals "range" = some none)
    (z_min : PySem.W.nsIn K mainGlobals "min" = some none)
    (z_max : PySem.W.nsIn K mainGlobals "max" = some none)
    (z_abs : PySem.W.nsIn K mainGlobals "abs" = some none)
    (z_int : PySem.W.nsIn K mainGlobals "int" = some none)
    (z_list : PySem.W.nsIn K mainGlobals "list" = some none)
    (z_bool : PySem.W.nsIn K mainGlobals "bool" = some none)
    (z_any : PySem.W.nsIn K mainGlobals "any" = some none)
    (z_isinstance : PySem.W.nsIn K mainGlobals "isinstance" = some none)
    (z_reversed : PySem.W.nsIn K mainGlobals "reversed" = some none)
    (z_enumerate : PySem.W.nsIn K mainGlobals "enumerate" = some none)
    : ∃ fd : FuncData, (∀ (s : Shared) (v : Value), BindsTo s fd ⟨[v], []⟩ [("_law_script", v)]) ∧ ∀ base : Heap, K.In base → base.Ns mainGlobals mg → FnOk l.prog w K mg base C8.CX0 7 fa fd ["_law_script"] (spLaw K) := by
  have e : f16 = fa := Value.ref.inj (Option.some.inj ((PySem.W.mg_of X G a16).symm.trans hfa))
  subst e
  have T : Txt K mg CE CD CW CR := { clE := ⟨pgE, hdE, poE, saE⟩, clD := ⟨pgD, hdD, poD, saD⟩, clW := ⟨pgW, hdW, poW, saW⟩, clR := ⟨pgR, hdR, poR, saR⟩, eCh := nE_chances, eLo := nE_low, eSp := nE_span, eSh := nE_shifts, dCh := nD_chances, dSo := nD_source, dPl := nD_place, dSp := nD_span, dVa := nD_value, wE := nW_encoder, rD := nR_decoder, kSIG := ⟨_, PySem.W.mg_of X G v_SIGNIFICANT⟩, kLAST := ⟨_, PySem.W.mg_of X G v_LAST⟩, kLEVEL := ⟨_, PySem.W.mg_of X G v_LEVEL⟩, kLEAST_LEVEL := ⟨_, PySem.W.mg_of X G v_LEAST_LEVEL⟩, kGREATEST_LEVEL := ⟨_, PySem.W.mg_of X G v_GREATEST_LEVEL⟩, kCONTEXTS := ⟨_, PySem.W.mg_of X G v_CONTEXTS⟩, kEVEN := ⟨_, PySem.W.mg_of X G v_EVEN⟩, kFULL := ⟨_, PySem.W.mg_of X G v_FULL⟩, kLEAST := ⟨_, PySem.W.mg_of X G v_LEAST⟩, kMAX := ⟨_, PySem.W.mg_of X G v_MAX_NUMBER⟩, kPREFIX := ⟨_, PySem.W.mg_of X G v_PREFIX⟩, len := PySem.W.mg_none_of X G z_len, range := PySem.W.mg_none_of X G z_range, min := PySem.W.mg_none_of X G z_min, max := PySem.W.mg_none_of X G z_max, abs := PySem.W.mg_none_of X G z_abs, int := PySem.W.mg_none_of X G z_int, list := PySem.W.mg_none_of X G z_list, bool := PySem.W.mg_none_of X G z_bool, any := PySem.W.mg_none_of X G z_any, isinstance := PySem.W.mg_none_of X G z_isinstance, reversed := PySem.W.mg_none_of X G z_reversed, enumerate := PySem.W.mg_none_of X G z_enumerate }
  have F1 : C8.Fun K "check_levels" "check_levels" sChkLevels f1 (PySem.W.fnOf "check_levels" "check_levels" (C8.fnArgs sChkLevels) (C8.fnBody sChkLevels) (C8.fnScope sChkLevels) .none kV1 dc1 pm1 an1 cd1 ct1) := ⟨_, _, _, _, _, _, _, _, _, _, rfl, l1, c1⟩
  have b1 := C8.Fun.binds (ps := ["levels"]) F1 rfl fun _ _ _ _ _ _ us hl => match us, hl with | [_], _ => rfl
  have D1 : C8.Def K mg "check_levels" sChkLevels f1 _ := ⟨F1, PySem.W.mg_of X G a1, k1⟩
  have F2 : C8.Fun K "position_class" "position_class" sPosClass f2 (PySem.W.fnOf "position_class" "position_class" (C8.fnArgs sPosClass) (C8.fnBody sPosClass) (C8.fnScope sPosClass) .none kV2 dc2 pm2 an2 cd2 ct2) := ⟨_, _, _, _, _, _, _, _, _, _, rfl, l2, c2⟩
  have b2 := C8.Fun.binds (ps := ["at", "count"]) F2 rfl fun _ _ _ _ _ _ us hl => match us, hl with | [_, _], _ => rfl
  have D2 : C8.Def K mg "position_class" sPosClass f2 _ := ⟨F2, PySem.W.mg_of X G a2, k2⟩
  have F3 : C8.Fun K "put_places" "put_places" sPutPlaces f3 (PySem.W.fnOf "put_places" "put_places" (C8.fnArgs sPutPlaces) (C8.fnBody sPutPlaces) (C8.fnScope sPutPlaces) .none kV3 dc3 pm3 an3 cd3 ct3) := ⟨_, _, _, _, _, _, _, _, _, _, rfl, l3, c3⟩
  have b3 := C8.Fun.binds (ps := ["writer", "levels"]) F3 rfl fun _ _ _ _ _ _ us hl => match us, hl with | [_, _], _ => rfl
  have D3 : C8.Def K mg "put_places" sPutPlaces f3 _ := ⟨F3, PySem.W.mg_of X G a3, k3⟩
  have F4 : C8.Fun K "get_places" "get_places" sGetPlaces f4 (PySem.W.fnOf "get_places" "get_places" (C8.fnArgs sGetPlaces) (C8.fnBody sGetPlaces) (C8.fnScope sGetPlaces) .none kV4 dc4 pm4 an4 cd4 ct4) := ⟨_, _, _, _, _, _, _, _, _, _, rfl, l4, c4⟩
  have b4 := C8.Fun.binds (ps := ["reader", "count"]) F4 rfl fun _ _ _ _ _ _ us hl => match us, hl with | [_, _], _ => rfl
  have D4 : C8.Def K mg "get_places" sGetPlaces f4 _ := ⟨F4, PySem.W.mg_of X G a4, k4⟩
  have F5 : C8.Fun K "put_levels" "put_levels" sPutLevels f5 (PySem.W.fnOf "put_levels" "put_levels" (C8.fnArgs sPutLevels) (C8.fnBody sPutLevels) (C8.fnScope sPutLevels) .none kV5 dc5 pm5 an5 cd5 ct5) := ⟨_, _, _, _, _, _, _, _, _, _, rfl, l5, c5⟩
  have b5 := C8.Fun.binds (ps := ["writer", "levels"]) F5 rfl fun _ _ _ _ _ _ us hl => match us, hl with | [_, _], _ => rfl
  have D5 : C8.Def K mg "put_levels" sPutLevels f5 _ := ⟨F5, PySem.W.mg_of X G a5, k5⟩
  have F6 : C8.Fun K "get_levels" "get_levels" sGetLevels f6 (PySem.W.fnOf "get_levels" "get_levels" (C8.fnArgs sGetLevels) (C8.fnBody sGetLevels) (C8.fnScope sGetLevels) .none kV6 dc6 pm6 an6 cd6 ct6) := ⟨_, _, _, _, _, _, _, _, _, _, rfl, l6, c6⟩
  have b6 := C8.Fun.binds (ps := ["reader", "size"]) F6 rfl fun _ _ _ _ _ _ us hl => match us, hl with | [_, _], _ => rfl
  have D6 : C8.Def K mg "get_levels" sGetLevels f6 _ := ⟨F6, PySem.W.mg_of X G a6, k6⟩
  have F7 : C8.Fun K "adapted" "adapted" sAdapted f7 (PySem.W.fnOf "adapted" "adapted" (C8.fnArgs sAdapted) (C8.fnBody sAdapted) (C8.fnScope sAdapted) .none kV7 dc7 pm7 an7 cd7 ct7) := ⟨_, _, _, _, _, _, _, _, _, _, rfl, l7, c7⟩
  have b7 := C8.Fun.binds (ps := ["probability", "decision"]) F7 rfl fun _ _ _ _ _ _ us hl => match us, hl with | [_, _], _ => rfl
  have D7 : C8.Def K mg "adapted" sAdapted f7 _ := ⟨F7, PySem.W.mg_of X G a7, k7⟩
  have F8 : C8.Fun K "check_context" "check_context" sChkContext f8 (PySem.W.fnOf "check_context" "check_context" (C8.fnArgs sChkContext) (C8.fnBody sChkContext) (C8.fnScope sChkContext) .none kV8 dc8 pm8 an8 cd8 ct8) := ⟨_, _, _, _, _, _, _, _, _, _, rfl, l8, c8⟩
  have b8 := C8.Fun.binds (ps := ["context"]) F8 rfl fun _ _ _ _ _ _ us hl => match us, hl with | [_], _ => rfl
  have D8 : C8.Def K mg "check_context" sChkContext f8 _ := ⟨F8, PySem.W.mg_of X G a8, k8⟩
  have F9 : C8.Fun K "check_decision" "check_decision" sChkDecision f9 (PySem.W.fnOf "check_decision" "check_decision" (C8.fnArgs sChkDecision) (C8.fnBody sChkDecision) (C8.fnScope sChkDecision) .none kV9 dc9 pm9 an9 cd9 ct9) := ⟨_, _, _, _, _, _, _, _, _, _, rfl, l9, c9⟩
  have b9 := C8.Fun.binds (ps := ["decision"]) F9 rfl fun _ _ _ _ _ _ us hl => match us, hl with | [_], _ => rfl
  have D9 : C8.Def K mg "check_decision" sChkDecision f9 _ := ⟨F9, PySem.W.mg_of X G a9, k9⟩
  have F10 : C8.Fun K "check_contexts" "check_contexts" sChkContexts f10 (PySem.W.fnOf "check_contexts" "check_contexts" (C8.fnArgs sChkContexts) (C8.fnBody sChkContexts) (C8.fnScope sChkContexts) .none kV10 dc10 pm10 an10 cd10 ct10) := ⟨_, _, _, _, _, _, _, _, _, _, rfl, l10, c10⟩
  have b10 := C8.Fun.binds (ps := ["base", "count"]) F10 rfl fun _ _ _ _ _ _ us hl => match us, hl with | [_, _], _ => rfl
  have D10 : C8.Def K mg "check_contexts" sChkContexts f10 _ := ⟨F10, PySem.W.mg_of X G a10, k10⟩
  have F11 : C8.Fun K "check_unary" "check_unary" sChkUnary f11 (PySem.W.fnOf "check_unary" "check_unary" (C8.fnArgs sChkUnary) (C8.fnBody sChkUnary) (C8.fnScope sChkUnary) .none kV11 dc11 pm11 an11 cd11 ct11) := ⟨_, _, _, _, _, _, _, _, _, _, rfl, l11, c11⟩
  have b11 := C8.Fun.binds (ps := ["base", "most"]) F11 rfl fun _ _ _ _ _ _ us hl => match us, hl with | [_, _], _ => rfl
  have D11 : C8.Def K mg "check_unary" sChkUnary f11 _ := ⟨F11, PySem.W.mg_of X G a11, k11⟩
  have F12 : C8.Fun K "_law_cell" "_law_cell" sCell f12 (PySem.W.fnOf "_law_cell" "_law_cell" (C8.fnArgs sCell) (C8.fnBody sCell) (C8.fnScope sCell) .none kV12 dc12 pm12 an12 cd12 ct12) := ⟨_, _, _, _, _, _, _, _, _, _, rfl, l12, c12⟩
  have b12 := C8.Fun.binds (ps := ["_law_script", "_law_k"]) F12 rfl fun _ _ _ _ _ _ us hl => match us, hl with | [_, _], _ => rfl
  have D12 : C8.Def K mg "_law_cell" sCell f12 _ := ⟨F12, PySem.W.mg_of X G a12, k12⟩
  have F13 : C8.Fun K "_law_digits" "_law_digits" sDigits f13 (PySem.W.fnOf "_law_digits" "_law_digits" (C8.fnArgs sDigits) (C8.fnBody sDigits) (C8.fnScope sDigits) .none kV13 dc13 pm13 an13 cd13 ct13) := ⟨_, _, _, _, _, _, _, _, _, _, rfl, l13, c13⟩
  have b13 := C8.Fun.binds (ps := ["_law_cell_here", "_law_base", "_law_most"]) F13 rfl fun _ _ _ _ _ _ us hl => match us, hl with | [_, _, _], _ => rfl
  have D13 : C8.Def K mg "_law_digits" sDigits f13 _ := ⟨F13, PySem.W.mg_of X G a13, k13⟩
  have F14 : C8.Fun K "_law_is_integers" "_law_is_integers" sIsInts f14 (PySem.W.fnOf "_law_is_integers" "_law_is_integers" (C8.fnArgs sIsInts) (C8.fnBody sIsInts) (C8.fnScope sIsInts) .none kV14 dc14 pm14 an14 cd14 ct14) := ⟨_, _, _, _, _, _, _, _, _, _, rfl, l14, c14⟩
  have b14 := C8.Fun.binds (ps := ["_law_actual", "_law_count"]) F14 rfl fun _ _ _ _ _ _ us hl => match us, hl with | [_, _], _ => rfl
  have D14 : C8.Def K mg "_law_is_integers" sIsInts f14 _ := ⟨F14, PySem.W.mg_of X G a14, k14⟩
  have F15 : C8.Fun K "_law_block" "_law_block" sBlock f15 (PySem.W.fnOf "_law_block" "_law_block" (C8.fnArgs sBlock) (C8.fnBody sBlock) (C8.fnScope sBlock) .none kV15 dc15 pm15 an15 cd15 ct15) := ⟨_, _, _, _, _, _, _, _, _, _, rfl, l15, c15⟩
  have b15 := C8.Fun.binds (ps := ["_law_cell_here", "_law_count"]) F15 rfl fun _ _ _ _ _ _ us hl => match us, hl with | [_, _], _ => rfl
  have D15 : C8.Def K mg "_law_block" sBlock f15 _ := ⟨F15, PySem.W.mg_of X G a15, k15⟩
  have F16 : C8.Fun K "law" "law" sLaw f16 (PySem.W.fnOf "law" "law" (C8.fnArgs sLaw) (C8.fnBody sLaw) (C8.fnScope sLaw) .none kV16 dc16 pm16 an16 cd16 ct16) := ⟨_, _, _, _, _, _, _, _, _, _, rfl, l16, c16⟩
  have D16 : C8.Def K mg "law" sLaw f16 _ := ⟨F16, PySem.W.mg_of X G a16, k16⟩
  have F17 : C8.Fun K "__init__" "Encoder.__init__" sEInit f17 (PySem.W.fnOf "__init__" "Encoder.__init__" (C8.fnArgs sEInit) (C8.fnBody sEInit) (C8.fnScope sEInit) .none kV17 dc17 pm17 an17 cd17 ct17) := ⟨_, _, _, _, _, _, _, _, _, _, rfl, l17, c17⟩
  have b17 := C8.Fun.binds (ps := ["self"]) F17 rfl fun _ _ _ _ _ _ us hl => match us, hl with | [_], _ => rfl
  have M17 : Meth K CE "__init__" f17 := ⟨a17, i17, k17⟩
  have F18 : C8.Fun K "step" "Encoder.step" sEStep f18 (PySem.W.fnOf "step" "Encoder.step" (C8.fnArgs sEStep) (C8.fnBody sEStep) (C8.fnScope sEStep) .none kV18 dc18 pm18 an18 cd18 ct18) := ⟨_, _, _, _, _, _, _, _, _, _, rfl, l18, c18⟩
  have b18 := C8.Fun.binds (ps := ["self", "probability", "decision"]) F18 rfl fun _ _ _ _ _ _ us hl => match us, hl with | [_, _, _], _ => rfl
  have M18 : Meth K CE "step" f18 := ⟨a18, i18, k18⟩
  have F19 : C8.Fun K "code" "Encoder.code" sECode f19 (PySem.W.fnOf "code" "Encoder.code" (C8.fnArgs sECode) (C8.fnBody sECode) (C8.fnScope sECode) .none kV19 dc19 pm19 an19 cd19 ct19) := ⟨_, _, _, _, _, _, _, _, _, _, rfl, l19, c19⟩
  have b19 := C8.Fun.binds (ps := ["self", "context", "decision"]) F19 rfl fun _ _ _ _ _ _ us hl => match us, hl with | [_, _, _], _ => rfl
  have M19 : Meth K CE "code" f19 := ⟨a19, i19, k19⟩
  have F20 : C8.Fun K "code_even" "Encoder.code_even" sEEven f20 (PySem.W.fnOf "code_even" "Encoder.code_even" (C8.fnArgs sEEven) (C8.fnBody sEEven) (C8.fnScope sEEven) .none kV20 dc20 pm20 an20 cd20 ct20) := ⟨_, _, _, _, _, _, _, _, _, _, rfl, l20, c20⟩
  have b20 := C8.Fun.binds (ps := ["self", "decision"]) F20 rfl fun _ _ _ _ _ _ us hl => match us, hl with | [_, _], _ => rfl
  have M20 : Meth K CE "code_even" f20 := ⟨a20, i20, k20⟩
  have F21 : C8.Fun K "octets" "Encoder.octets" sEOctets f21 (PySem.W.fnOf "octets" "Encoder.octets" (C8.fnArgs sEOctets) (C8.fnBody sEOctets) (C8.fnScope sEOctets) .none kV21 dc21 pm21 an21 cd21 ct21) := ⟨_, _, _, _, _, _, _, _, _, _, rfl, l21, c21⟩
  have b21 := C8.Fun.binds (ps := ["self"]) F21 rfl fun _ _ _ _ _ _ us hl => match us, hl with | [_], _ => rfl
  have M21 : Meth K CE "octets" f21 := ⟨a21, i21, k21⟩
  have F22 : C8.Fun K "__init__" "Decoder.__init__" sDInit f22 (PySem.W.fnOf "__init__" "Decoder.__init__" (C8.fnArgs sDInit) (C8.fnBody sDInit) (C8.fnScope sDInit) .none kV22 dc22 pm22 an22 cd22 ct22) := ⟨_, _, _, _, _, _, _, _, _, _, rfl, l22, c22⟩
  have b22 := C8.Fun.binds (ps := ["self", "octets"]) F22 rfl fun _ _ _ _ _ _ us hl => match us, hl with | [_, _], _ => rfl
  have M22 : Meth K CD "__init__" f22 := ⟨a22, i22, k22⟩
  have F23 : C8.Fun K "following" "Decoder.following" sDFol f23 (PySem.W.fnOf "following" "Decoder.following" (C8.fnArgs sDFol) (C8.fnBody sDFol) (C8.fnScope sDFol) .none kV23 dc23 pm23 an23 cd23 ct23) := ⟨_, _, _, _, _, _, _, _, _, _, rfl, l23, c23⟩
  have b23 := C8.Fun.binds (ps := ["self"]) F23 rfl fun _ _ _ _ _ _ us hl => match us, hl with | [_], _ => rfl
  have M23 : Meth K CD "following" f23 := ⟨a23, i23, k23⟩
  have F24 : C8.Fun K "step" "Decoder.step" sDStep f24 (PySem.W.fnOf "step" "Decoder.step" (C8.fnArgs sDStep) (C8.fnBody sDStep) (C8.fnScope sDStep) .none kV24 dc24 pm24 an24 cd24 ct24) := ⟨_, _, _, _, _, _, _, _, _, _, rfl, l24, c24⟩
  have b24 := C8.Fun.binds (ps := ["self", "probability"]) F24 rfl fun _ _ _ _ _ _ us hl => match us, hl with | [_, _], _ => rfl
  have M24 : Meth K CD "step" f24 := ⟨a24, i24, k24⟩
  have F25 : C8.Fun K "read" "Decoder.read" sDRead f25 (PySem.W.fnOf "read" "Decoder.read" (C8.fnArgs sDRead) (C8.fnBody sDRead) (C8.fnScope sDRead) .none kV25 dc25 pm25 an25 cd25 ct25) := ⟨_, _, _, _, _, _, _, _, _, _, rfl, l25, c25⟩
  have b25 := C8.Fun.binds (ps := ["self", "context"]) F25 rfl fun _ _ _ _ _ _ us hl => match us, hl with | [_, _], _ => rfl
  have M25 : Meth K CD "read" f25 := ⟨a25, i25, k25⟩
  have F26 : C8.Fun K "read_even" "Decoder.read_even" sDEven f26 (PySem.W.fnOf "read_even" "Decoder.read_even" (C8.fnArgs sDEven) (C8.fnBody sDEven) (C8.fnScope sDEven) .none kV26 dc26 pm26 an26 cd26 ct26) := ⟨_, _, _, _, _, _, _, _, _, _, rfl, l26, c26⟩
  have b26 := C8.Fun.binds (ps := ["self"]) F26 rfl fun _ _ _ _ _ _ us hl => match us, hl with | [_], _ => rfl
  have M26 : Meth K CD "read_even" f26 := ⟨a26, i26, k26⟩
  have F27 : C8.Fun K "__init__" "SymbolWriter.__init__" sWInit f27 (PySem.W.fnOf "__init__" "SymbolWriter.__init__" (C8.fnArgs sWInit) (C8.fnBody sWInit) (C8.fnScope sWInit) .none kV27 dc27 pm27 an27 cd27 ct27) := ⟨_, _, _, _, _, _, _, _, _, _, rfl, l27, c27⟩
  have b27 := C8.Fun.binds (ps := ["self", "encoder"]) F27 rfl fun _ _ _ _ _ _ us hl => match us, hl with | [_, _], _ => rfl
  have M27 : Meth K CW "__init__" f27 := ⟨a27, i27, k27⟩
  have F28 : C8.Fun K "even" "SymbolWriter.even" sWEven f28 (PySem.W.fnOf "even" "SymbolWriter.even" (C8.fnArgs sWEven) (C8.fnBody sWEven) (C8.fnScope sWEven) .none kV28 dc28 pm28 an28 cd28 ct28) := ⟨_, _, _, _, _, _, _, _, _, _, rfl, l28, c28⟩
  have b28 := C8.Fun.binds (ps := ["self", "decision"]) F28 rfl fun _ _ _ _ _ _ us hl => match us, hl with | [_, _], _ => rfl
  have M28 : Meth K CW "even" f28 := ⟨a28, i28, k28⟩
  have F29 : C8.Fun K "flag" "SymbolWriter.flag" sWFlag f29 (PySem.W.fnOf "flag" "SymbolWriter.flag" (C8.fnArgs sWFlag) (C8.fnBody sWFlag) (C8.fnScope sWFlag) .none kV29 dc29 pm29 an29 cd29 ct29) := ⟨_, _, _, _, _, _, _, _, _, _, rfl, l29, c29⟩
  have b29 := C8.Fun.binds (ps := ["self", "base", "value"]) F29 rfl fun _ _ _ _ _ _ us hl => match us, hl with | [_, _, _], _ => rfl
  have M29 : Meth K CW "flag" f29 := ⟨a29, i29, k29⟩
  have F30 : C8.Fun K "unary" "SymbolWriter.unary" sWUnary f30 (PySem.W.fnOf "unary" "SymbolWriter.unary" (C8.fnArgs sWUnary) (C8.fnBody sWUnary) (C8.fnScope sWUnary) .none kV30 dc30 pm30 an30 cd30 ct30) := ⟨_, _, _, _, _, _, _, _, _, _, rfl, l30, c30⟩
  have M30 : Meth K CW "unary" f30 := ⟨a30, i30, k30⟩
  have F31 : C8.Fun K "number" "SymbolWriter.number" sWNumber f31 (PySem.W.fnOf "number" "SymbolWriter.number" (C8.fnArgs sWNumber) (C8.fnBody sWNumber) (C8.fnScope sWNumber) .none kV31 dc31 pm31 an31 cd31 ct31) := ⟨_, _, _, _, _, _, _, _, _, _, rfl, l31, c31⟩
  have b31 := C8.Fun.binds (ps := ["self", "base", "value"]) F31 rfl fun _ _ _ _ _ _ us hl => match us, hl with | [_, _, _], _ => rfl
  have M31 : Meth K CW "number" f31 := ⟨a31, i31, k31⟩
  have F32 : C8.Fun K "__init__" "SymbolReader.__init__" sRInit f32 (PySem.W.fnOf "__init__" "SymbolReader.__init__" (C8.fnArgs sRInit) (C8.fnBody sRInit) (C8.fnScope sRInit) .none kV32 dc32 pm32 an32 cd32 ct32) := ⟨_, _, _, _, _, _, _, _, _, _, rfl, l32, c32⟩
  have b32 := C8.Fun.binds (ps := ["self", "decoder"]) F32 rfl fun _ _ _ _ _ _ us hl => match us, hl with | [_, _], _ => rfl
  have M32 : Meth K CR "__init__" f32 := ⟨a32, i32, k32⟩
  have F33 : C8.Fun K "even" "SymbolReader.even" sREven f33 (PySem.W.fnOf "even" "SymbolReader.even" (C8.fnArgs sREven) (C8.fnBody sREven) (C8.fnScope sREven) .none kV33 dc33 pm33 an33 cd33 ct33) := ⟨_, _, _, _, _, _, _, _, _, _, rfl, l33, c33⟩
  have b33 := C8.Fun.binds (ps := ["self"]) F33 rfl fun _ _ _ _ _ _ us hl => match us, hl with | [_], _ => rfl
  have M33 : Meth K CR "even" f33 := ⟨a33, i33, k33⟩
  have F34 : C8.Fun K "flag" "SymbolReader.flag" sRFlag f34 (PySem.W.fnOf "flag" "SymbolReader.flag" (C8.fnArgs sRFlag) (C8.fnBody sRFlag) (C8.fnScope sRFlag) .none kV34 dc34 pm34 an34 cd34 ct34) := ⟨_, _, _, _, _, _, _, _, _, _, rfl, l34, c34⟩
  have b34 := C8.Fun.binds (ps := ["self", "base"]) F34 rfl fun _ _ _ _ _ _ us hl => match us, hl with | [_, _], _ => rfl
  have M34 : Meth K CR "flag" f34 := ⟨a34, i34, k34⟩
  have F35 : C8.Fun K "unary" "SymbolReader.unary" sRUnary f35 (PySem.W.fnOf "unary" "SymbolReader.unary" (C8.fnArgs sRUnary) (C8.fnBody sRUnary) (C8.fnScope sRUnary) .none kV35 dc35 pm35 an35 cd35 ct35) := ⟨_, _, _, _, _, _, _, _, _, _, rfl, l35, c35⟩
  have M35 : Meth K CR "unary" f35 := ⟨a35, i35, k35⟩
  have F36 : C8.Fun K "number" "SymbolReader.number" sRNumber f36 (PySem.W.fnOf "number" "SymbolReader.number" (C8.fnArgs sRNumber) (C8.fnBody sRNumber) (C8.fnScope sRNumber) .none kV36 dc36 pm36 an36 cd36 ct36) := ⟨_, _, _, _, _, _, _, _, _, _, rfl, l36, c36⟩
  have b36 := C8.Fun.binds (ps := ["self", "base"]) F36 rfl fun _ _ _ _ _ _ us hl => match us, hl with | [_, _], _ => rfl
  have M36 : Meth K CR "number" f36 := ⟨a36, i36, k36⟩
  have q30 : KBn K _ ["self", "base", "value", "most"] 3 ["most"] (fun us ws => us ++ ws) (fun vs zs => vs ++ zs) := ⟨fun s us ws _ h1 h2 => BindsTo.of_eq (fd := PySem.W.fnOf "unary" "SymbolWriter.unary" (C8.fnArgs sWUnary) (C8.fnBody sWUnary) (C8.fnScope sWUnary) .none kV30 dc30 pm30 an30 cd30 ct30) (match us, ws, h1, h2 with | [_, _, _], [_], _, _ => rfl), fun r1 r2 => r1.append r2⟩
  have q35 : KBn K _ ["self", "base", "most"] 2 ["most"] (fun us ws => us ++ ws) (fun vs zs => vs ++ zs) := ⟨fun s us ws _ h1 h2 => BindsTo.of_eq (fd := PySem.W.fnOf "unary" "SymbolReader.unary" (C8.fnArgs sRUnary) (C8.fnBody sRUnary) (C8.fnScope sRUnary) .none kV35 dc35 pm35 an35 cd35 ct35) (match us, ws, h1, h2 with | [_, _], [_], _, _ => rfl), fun r1 r2 => r1.append r2⟩
  refine ⟨_, fun s v => BindsTo.of_eq (fd := PySem.W.fnOf "law" "law" (C8.fnArgs sLaw) (C8.fnBody sLaw) (C8.fnScope sLaw) .none kV16 dc16 pm16 an16 cd16 ct16) rfl, fun base _ _ => ?_⟩
  have cAd : Cal l.prog w K mg base 1 "adapted" spAdapted [] := cal_adapted D7 b7 
  have cCC : Cal l.prog w K mg base 1 "check_context" spChkContext [] := cal_chkContext D8 b8 T
  have cCD : Cal l.prog w K mg base 1 "check_decision" spChkDecision [] := cal_chkDecision D9 b9 
  have mES : Met l.prog w K mg base 1 CE "step" (spEStep CE) [] := met_eStep F18 b18 M18 T 
  have mEC : Met l.prog w K mg base 2 CE "code" (spECode CE) [] := met_eCode F19 b19 M19 T cCC cCD mES cAd
  have mEE : Met l.prog w K mg base 2 CE "code_even" (spEEven CE) [] := met_eEven F20 b20 M20 T cCD mES
  have mEO : Met l.prog w K mg base 1 CE "octets" (spEOct CE) [] := met_eOct F21 b21 M21 T 
  have mDF : Met l.prog w K mg base 1 CD "following" (spDFol CD) [] := met_dFol F23 b23 M23 T 
  have mDS : Met l.prog w K mg base 2 CD "step" (spDStep CD) [] := met_dStep F24 b24 M24 T mDF
  have mDR : Met l.prog w K mg base 3 CD "read" (spDRead CD) [] := met_dRead F25 b25 M25 T cCC mDS cAd
  have mDE : Met l.prog w K mg base 3 CD "read_even" (spDEven CD) [] := met_dEven F26 b26 M26 T mDS
  have cXS : Cal l.prog w K mg base 1 "check_contexts" spChkContexts [] := cal_chkContexts D10 b10 
  have cCU : Cal l.prog w K mg base 2 "check_unary" spChkUnary [] := cal_chkUnary D11 b11 T cXS
  have mWE : Met l.prog w K mg base 3 CW "even" (spWEven CE CW) [] := met_wEven F28 b28 M28 T mEE
  have mWF : Met l.prog w K mg base 3 CW "flag" (spWFlag CE CW) [] := met_wFlag F29 b29 M29 T cXS mEC
  have mWU : MetN l.prog w K mg base 3 CW "unary" 3 ["most"] (spWUnary CE CW) := ⟨f30, _, _, T.clW, M30, fn_wUnary F30 T cCU mEC, q30⟩
  have mWN : Met l.prog w K mg base 4 CW "number" (spWNumber CE CW) [] := met_wNumber F31 b31 M31 T cXS mEC mEE mWU
  have mRE : Met l.prog w K mg base 4 CR "even" (spREven CD CR) [] := met_rEven F33 b33 M33 T mDE
  have mRF : Met l.prog w K mg base 4 CR "flag" (spRFlag CD CR) [] := met_rFlag F34 b34 M34 T cXS mDR
  have mRU : MetN l.prog w K mg base 4 CR "unary" 2 ["most"] (spRUnary CD CR) := ⟨f35, _, _, T.clR, M35, fn_rUnary F35 T cCU mDR, q35⟩
  have mRN : Met l.prog w K mg base 5 CR "number" (spRNumber CD CR) [] := met_rNumber F36 b36 M36 T cXS mDR mDE mRU
  have cCL : Cal l.prog w K mg base 1 "check_levels" (spChkLevels K) [] := cal_chkLevels D1 b1 T
  have cPC : Cal l.prog w K mg base 1 "position_class" spPosClass [] := cal_posClass D2 b2 
  have cPP : Cal l.prog w K mg base 4 "put_places" (spPutPlaces CE CW) [] := cal_putPlaces D3 b3 T cPC mWF
  have cPL : Cal l.prog w K mg base 5 "put_levels" (spPutLevels CE CW) [] := cal_putLevels D5 b5 T cCL cPP mWN mWE
  have cGP : Cal l.prog w K mg base 5 "get_places" (spGetPlaces CD CR) [] := cal_getPlaces D4 b4 T cPC mRF
  have cGL : Cal l.prog w K mg base 6 "get_levels" (spGetLevels CD CR) [] := cal_getLevels D6 b6 T cGP mRN mRE
  have cCe : Cal l.prog w K mg base 1 "_law_cell" (spCell K) [] := cal_cell D12 b12 T
  have cDg : Cal l.prog w K mg base 1 "_law_digits" spDigits [] := cal_digits D13 b13 T
  have cII : Cal l.prog w K mg base 1 "_law_is_integers" spIsInts [] := cal_isInts D14 b14 T
  have cBl : Cal l.prog w K mg base 2 "_law_block" spBlock [] := cal_block D15 b15 T cDg
  have kE : Mak l.prog w K mg base 1 "Encoder" CE (spEInit CE) [] := ⟨f17, _, _, [], ⟨mkE, a17, i17, kcE⟩, fn_eInit F17 T, PySem.W.mg_of X G aE, b17, .nil⟩
  have kW : Mak l.prog w K mg base 1 "SymbolWriter" CW (spWInit CW) [] := ⟨f27, _, _, [], ⟨mkW, a27, i27, kcW⟩, fn_wInit F27 T, PySem.W.mg_of X G aW, b27, .nil⟩
  have kD : Mak l.prog w K mg base 2 "Decoder" CD (spDInit CD) [] := ⟨f22, _, _, [], ⟨mkD, a22, i22, kcD⟩, fn_dInit F22 T mDF, PySem.W.mg_of X G aD, b22, .nil⟩
  have kR : Mak l.prog w K mg base 1 "SymbolReader" CR (spRInit CR) [] := ⟨f32, _, _, [], ⟨mkR, a32, i32, kcR⟩, fn_rInit F32 T, PySem.W.mg_of X G aR, b32, .nil⟩
  exact fn_law F16 T kE kW kD kR cCe cBl cII cPL cGL mWF mRF mEO
theorem walk {l : PySem.W.OpenLaw} {q : Program} {loose : List Str} {XP : (Str → Option Value) → Heap → Prop} {YP : World → Heap → Prop} {d : DefRec} {K : Params → PySem.W.Frag} (hn : l.most = some 63) (hdf : d.params.defaults = [])
    (hY : ∀ (w : World) (h : Heap), YP w h → (K w.params).In h)
    (F : ∀ (w : World) (mg : Str → Option Value) (fa : Addr) (h : Heap), (K w.params).In h → h.Ns mainGlobals mg → mg d.name = some (.ref fa) →
      ∃ fd : FuncData, (∀ (s : Shared) (u : Value), BindsTo s fd ⟨[u], []⟩ [("_law_script", u)]) ∧ ∀ base : Heap, (K w.params).In base → base.Ns mainGlobals mg → FnOk l.prog w (K w.params) mg base C8.CX0 7 fa fd ["_law_script"] (spLaw (K w.params))) :
    PySem.W.WalkO q loose XP YP l.row.toRowW d [] (fun f vs => PySem.call f vs) :=
  L2.walk_of (n := 63) (k := 7) (x := "_law_script") (CX := fun _ => C8.CX0) (sp := fun w => spLaw (K w.params)) hn (by decide) hdf ⟨rfl, by decide, by decide⟩ hY F (fun _ _ a ns hl _ hS => ⟨a, ns, rfl, hS, hl, fun _ => rfl⟩) fun _ _ _ _ _ z => z
end K47
open PySem PySem.W PyProof.Rows
set_option maxRecDepth 100000 in
set_option maxHeartbeats 0 in
theorem PySem.Challenge.cw_thaumatrope_k47_whole_transform_blocks_r_holds : PySem.Challenge.rw_thaumatrope_k47_whole_transform_blocks_r.Holds := by
  w_on; o_law; k_head; (case hw => w_witness2)
  k_fill
  refine K47.walk (l := PySem.Challenge.rw_thaumatrope_k47_whole_transform_blocks_r) rfl rfl (fun w h Y => PySem.W.kIn_of Y) ?F
  case F =>
    intro w mg fa h KX G hmg
    refine' K47.all_mk KX G hmg ?aE ?aD ?aW ?aR ?a1 ?l1 ?c1 ?k1 ?a2 ?l2 ?c2 ?k2 ?a3 ?l3 ?c3 ?k3 ?a4 ?l4 ?c4 ?k4 ?a5 ?l5 ?c5 ?k5 ?a6 ?l6 ?c6 ?k6 ?a7 ?l7 ?c7 ?k7 ?a8 ?l8 ?c8 ?k8 ?a9 ?l9 ?c9 ?k9 ?a10 ?l10 ?c10 ?k10 ?a11 ?l11 ?c11 ?k11 ?a12 ?l12 ?c12 ?k12 ?a13 ?l13 ?c13 ?k13 ?a14 ?l14 ?c14 ?k14 ?a15 ?l15 ?c15 ?k15 ?a16 ?l16 ?c16 ?k16 ?a17 ?i17 ?l17 ?c17 ?k17 ?a18 ?i18 ?l18 ?c18 ?k18 ?a19 ?i19 ?l19 ?c19 ?k19 ?a20 ?i20 ?l20 ?c20 ?k20 ?a21 ?i21 ?l21 ?c21 ?k21 ?a22 ?i22 ?l22 ?c22 ?k22 ?a23 ?i23 ?l23 ?c23 ?k23 ?a24 ?i24 ?l24 ?c24 ?k24 ?a25 ?i25 ?l25 ?c25 ?k25 ?a26 ?i26 ?l26 ?c26 ?k26 ?a27 ?i27 ?l27 ?c27 ?k27 ?a28 ?i28 ?l28 ?c28 ?k28 ?a29 ?i29 ?l29 ?c29 ?k29 ?a30 ?i30 ?l30 ?c30 ?k30 ?a31 ?i31 ?l31 ?c31 ?k31 ?a32 ?i32 ?l32 ?c32 ?k32 ?a33 ?i33 ?l33 ?c33 ?k33 ?a34 ?i34 ?l34 ?c34 ?k34 ?a35 ?i35 ?l35 ?c35 ?k35 ?a36 ?i36 ?l36 ?c36 ?k36 ?pgE ?hdE ?poE ?saE ?mkE ?kcE ?nE_chances ?nE_low ?nE_span ?nE_shifts ?pgD ?hdD ?poD ?saD ?mkD ?kcD ?nD_chances ?nD_source ?nD_place ?nD_span ?nD_value ?pgW ?hdW ?poW ?saW ?mkW ?kcW ?nW_encoder ?pgR ?hdR ?poR ?saR ?mkR ?kcR ?nR_decoder ?v_SIGNIFICANT ?v_LAST ?v_LEVEL ?v_LEAST_LEVEL ?v_GREATEST_LEVEL ?v_CONTEXTS ?v_EVEN ?v_FULL ?v_LEAST ?v_MAX_NUMBER ?v_PREFIX ?z_len ?z_range ?z_min ?z_max ?z_abs ?z_int ?z_list ?z_bool ?z_any ?z_isinstance ?z_reversed ?z_enumerate
    (case aE => k_is)
    (case aD => k_is)
    (case aW => k_is)
    (case aR => k_is)
    (case a1 => k_is)
    (case l1 => k_is)
    (case c1 => k_is)
    (case k1 => k_is)
    (case a2 => k_is)
    (case l2 => k_is)
    (case c2 => k_is)
    (case k2 => k_is)
    (case a3 => k_is)
    (case l3 => k_is)
    (case c3 => k_is)
    (case k3 => k_is)
    (case a4 => k_is)
    (case l4 => k_is)
    (case c4 => k_is)
    (case k4 => k_is)
    (case a5 => k_is)
    (case l5 => k_is)
    (case c5 => k_is)
    (case k5 => k_is)
    (case a6 => k_is)
    (case l6 => k_is)
    (case c6 => k_is)
    (case k6 => k_is)
    (case a7 => k_is)
    (case l7 => k_is)
    (case c7 => k_is)
    (case k7 => k_is)
    (case a8 => k_is)
    (case l8 => k_is)
    (case c8 => k_is)
    (case k8 => k_is)
    (case a9 => k_is)
    (case l9 => k_is)
    (case c9 => k_is)
    (case k9 => k_is)
    (case a10 => k_is)
    (case l10 => k_is)
    (case c10 => k_is)
    (case k10 => k_is)
    (case a11 => k_is)
    (case l11 => k_is)
    (case c11 => k_is)
    (case k11 => k_is)
    (case a12 => k_is)
    (case l12 => k_is)
    (case c12 => k_is)
    (case k12 => k_is)
    (case a13 => k_is)
    (case l13 => k_is)
    (case c13 => k_is)
    (case k13 => k_is)
    (case a14 => k_is)
    (case l14 => k_is)
    (case c14 => k_is)
    (case k14 => k_is)
    (case a15 => k_is)
    (case l15 => k_is)
    (case c15 => k_is)
    (case k15 => k_is)
    (case a16 => k_is)
    (case l16 => k_is)
    (case c16 => k_is)
    (case k16 => k_is)
    (case a17 => k_is)
    (case i17 => k_is)
    (case l17 => k_is)
    (case c17 => k_is)
    (case k17 => k_is)
    (case a18 => k_is)
    (case i18 => k_is)
    (case l18 => k_is)
    (case c18 => k_is)
    (case k18 => k_is)
    (case a19 => k_is)
    (case i19 => k_is)
    (case l19 => k_is)
    (case c19 => k_is)
    (case k19 => k_is)
    (case a20 => k_is)
    (case i20 => k_is)
    (case l20 => k_is)
    (case c20 => k_is)
    (case k20 => k_is)
    (case a21 => k_is)
    (case i21 => k_is)
    (case l21 => k_is)
    (case c21 => k_is)
    (case k21 => k_is)
    (case a22 => k_is)
    (case i22 => k_is)
    (case l22 => k_is)
    (case c22 => k_is)
    (case k22 => k_is)
    (case a23 => k_is)
    (case i23 => k_is)
    (case l23 => k_is)
    (case c23 => k_is)
    (case k23 => k_is)
    (case a24 => k_is)
    (case i24 => k_is)
    (case l24 => k_is)
    (case c24 => k_is)
    (case k24 => k_is)
    (case a25 => k_is)
    (case i25 => k_is)
    (case l25 => k_is)
    (case c25 => k_is)
    (case k25 => k_is)
    (case a26 => k_is)
    (case i26 => k_is)
    (case l26 => k_is)
    (case c26 => k_is)
    (case k26 => k_is)
    (case a27 => k_is)
    (case i27 => k_is)
    (case l27 => k_is)
    (case c27 => k_is)
    (case k27 => k_is)
    (case a28 => k_is)
    (case i28 => k_is)
    (case l28 => k_is)
    (case c28 => k_is)
    (case k28 => k_is)
    (case a29 => k_is)
    (case i29 => k_is)
    (case l29 => k_is)
    (case c29 => k_is)
    (case k29 => k_is)
    (case a30 => k_is)
    (case i30 => k_is)
    (case l30 => k_is)
    (case c30 => k_is)
    (case k30 => k_is)
    (case a31 => k_is)
    (case i31 => k_is)
    (case l31 => k_is)
    (case c31 => k_is)
    (case k31 => k_is)
    (case a32 => k_is)
    (case i32 => k_is)
    (case l32 => k_is)
    (case c32 => k_is)
    (case k32 => k_is)
    (case a33 => k_is)
    (case i33 => k_is)
    (case l33 => k_is)
    (case c33 => k_is)
    (case k33 => k_is)
    (case a34 => k_is)
    (case i34 => k_is)
    (case l34 => k_is)
    (case c34 => k_is)
    (case k34 => k_is)
    (case a35 => k_is)
    (case i35 => k_is)
    (case l35 => k_is)
    (case c35 => k_is)
    (case k35 => k_is)
    (case a36 => k_is)
    (case i36 => k_is)
    (case l36 => k_is)
    (case c36 => k_is)
    (case k36 => k_is)
    (case pgE => k_is)
    (case hdE => k_is)
    (case poE => k_is)
    (case saE => k_is)
    (case mkE => k_is)
    (case kcE => k_is)
    (case nE_chances => k_is)
    (case nE_low => k_is)
    (case nE_span => k_is)
    (case nE_shifts => k_is)
    (case pgD => k_is)
    (case hdD => k_is)
    (case poD => k_is)
    (case saD => k_is)
    (case mkD => k_is)
    (case kcD => k_is)
    (case nD_chances => k_is)
    (case nD_source => k_is)
    (case nD_place => k_is)
    (case nD_span => k_is)
    (case nD_value => k_is)
    (case pgW => k_is)
    (case hdW => k_is)
    (case poW => k_is)
    (case saW => k_is)
    (case mkW => k_is)
    (case kcW => k_is)
    (case nW_encoder => k_is)
    (case pgR => k_is)
    (case hdR => k_is)
    (case poR => k_is)
    (case saR => k_is)
    (case mkR => k_is)
    (case kcR => k_is)
    (case nR_decoder => k_is)
    (case v_SIGNIFICANT => k_is)
    (case v_LAST => k_is)
    (case v_LEVEL => k_is)
    (case v_LEAST_LEVEL => k_is)
    (case v_GREATEST_LEVEL => k_is)
    (case v_CONTEXTS => k_is)
    (case v_EVEN => k_is)
    (case v_FULL => k_is)
    (case v_LEAST => k_is)
    (case v_MAX_NUMBER => k_is)
    (case v_PREFIX => k_is)
    (case z_len => k_is)
    (case z_range => k_is)
    (case z_min => k_is)
    (case z_max => k_is)
    (case z_abs => k_is)
    (case z_int => k_is)
    (case z_list => k_is)
    (case z_bool => k_is)
    (case z_any => k_is)
    (case z_isinstance => k_is)
    (case z_reversed => k_is)
    (case z_enumerate => k_is)
