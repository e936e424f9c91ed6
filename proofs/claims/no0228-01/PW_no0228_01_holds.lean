import PyProof.Rows.All
import Wide.All
import OpenK.AllK
import Wide.FinOn
import Lean
import PySem.Challenge.RW_no0228_01
open PySem PySem.W PyProof.Rows
set_option Elab.async false
set_option linter.all false
set_option maxRecDepth 100000
set_option maxHeartbeats 8000000
namespace Mine
local macro_rules | `(tactic| k_mem) => `(tactic| assumption)
local macro_rules | `(tactic| k_all) => `(tactic| with_reducible assumption)
local macro_rules | `(tactic| walk_at $s:str) => `(tactic| k_extra $s)

section
open PySem PySem.W PyProof.Rows
set_option Elab.async false
set_option maxRecDepth 100000
set_option maxHeartbeats 8000000
open_top hd for PySem.Challenge.rw_no0228_01
end
set_option tactic.hygienic false

section
open PySem PySem.W PySem.NumText PyProof.Rows
set_option Elab.async false
/- the mirror functions: what each def gives, in the library's own words -/
noncomputable abbrev tupObj (vs : List Value) : Obj := { cls := .type "tuple", data := .seq vs.toArray }
noncomputable abbrev lisObj (vs : List Value) : Obj := { cls := .type "list", data := .seq vs.toArray }
theorem not_t {b : Bool} (h : b = false) : ¬ b = true := by rw [h]; decide
noncomputable def absV (n : Int) : Int := if n < 0 then -n else n
noncomputable def fieldV (x : Str) (n : Int) : Str :=
  if n < (x.length : Int) then Txt.mul (Str.ofString "*") n else Txt.mul (Str.ofString " ") (n - (x.length : Int)) ++ x
noncomputable def signV (p q : Bool) : Str := if p = true then Str.ofString "-" else if q = true then Str.ofString "+" else Str.ofString ""
noncomputable def scaledV (n k : Int) : Int := if 0 ≤ k then n * 10 ^ k.toNat else Int.fdiv (2 * n + 10 ^ (-k).toNat) (2 * 10 ^ (-k).toNat)
noncomputable def pointV (sg wh rs : Str) (width : Int) : Str :=
  if (wh == Str.ofString "") = true then
    if (rs == Str.ofString "") = true then fieldV (sg ++ Str.ofString "0" ++ Str.ofString "." ++ rs) width
    else if ((sg ++ Str.ofString "0." ++ rs).length : Int) ≤ width then fieldV (sg ++ Str.ofString "0." ++ rs) width
    else fieldV (sg ++ wh ++ Str.ofString "." ++ rs) width
  else fieldV (sg ++ wh ++ Str.ofString "." ++ rs) width
noncomputable def digsV (number places : Int) : Str :=
  if number = 0 then Txt.mul (Str.ofString "0") (places - ((0 : Nat) : Int)) ++ Str.ofString ""
  else Txt.mul (Str.ofString "0") (places - ((Str.ofString (toString number)).length : Int)) ++ Str.ofString (toString number)
noncomputable def fixedV (v0 v1 width places scale : Int) (plus : Bool) : Str :=
  pointV (if v0 < 0 then signV (decide (0 < scaledV (absV v0) (v1 + scale + places))) plus else signV (decide (v0 < 0)) plus)
    (Txt.slice (digsV (scaledV (absV v0) (v1 + scale + places)) places) none (some (((digsV (scaledV (absV v0) (v1 + scale + places)) places).length : Int) - places)))
    (Txt.slice (digsV (scaledV (absV v0) (v1 + scale + places)) places) (some (((digsV (scaledV (absV v0) (v1 + scale + places)) places).length : Int) - places)) none) width
noncomputable def leadV (v0 v1 count : Int) : Str × Int :=
  if absV v0 = 0 then (Txt.mul (Str.ofString "0") count, 0)
  else if count < ((Str.ofString (toString (scaledV (absV v0) (count - ((Str.ofString (toString (absV v0))).length : Int))))).length : Int) then
    (Txt.slice (Str.ofString (toString (scaledV (absV v0) (count - ((Str.ofString (toString (absV v0))).length : Int))))) none (some count), ((Str.ofString (toString (absV v0))).length : Int) + v1 + 1)
  else (Str.ofString (toString (scaledV (absV v0) (count - ((Str.ofString (toString (absV v0))).length : Int)))), ((Str.ofString (toString (absV v0))).length : Int) + v1)
noncomputable def sgV (p : Int) : Str := if p < 0 then Str.ofString "-" else Str.ofString "+"
noncomputable def expoV (l : Str) (p : Int) : Option Int → Option Str
  | none => if ((Str.ofString (toString (absV p))).length : Int) ≤ 2 then some (l ++ sgV p ++ Txt.mul (Str.ofString "0") (2 - ((Str.ofString (toString (absV p))).length : Int)) ++ Str.ofString (toString (absV p)))
    else if ((Str.ofString (toString (absV p))).length : Int) = 3 then some (sgV p ++ Str.ofString (toString (absV p))) else none
  | some z => if z < ((Str.ofString (toString (absV p))).length : Int) then none
    else some (l ++ sgV p ++ Txt.mul (Str.ofString "0") (z - ((Str.ofString (toString (absV p))).length : Int)) ++ Str.ofString (toString (absV p)))
noncomputable def countV (places scale : Int) : Int := if scale ≤ 0 then places + scale else places + 1
noncomputable def powV (v0 v1 places scale : Int) : Int := if v0 = 0 then (leadV v0 v1 (countV places scale)).2 else (leadV v0 v1 (countV places scale)).2 - scale
noncomputable def expT (d : Str) (v0 width scale : Int) (plus : Bool) : Option Str → Str
  | none => Txt.mul (Str.ofString "*") width
  | some tail => if scale ≤ 0 then pointV (signV (decide (v0 < 0)) plus) (Str.ofString "") (Txt.mul (Str.ofString "0") (-scale) ++ d ++ tail) width
    else pointV (signV (decide (v0 < 0)) plus) (Txt.slice d none (some scale)) (Txt.slice d (some scale) none ++ tail) width
noncomputable def expV (letter : Str) (v0 v1 width places : Int) (size : Option Int) (scale : Int) (plus : Bool) : Str :=
  expT (leadV v0 v1 (countV places scale)).1 v0 width scale plus (expoV letter (powV v0 v1 places scale) size)
noncomputable def genfixV (v0 v1 places : Int) : Bool :=
  if v0 = 0 then false else if 0 ≤ ((Str.ofString (toString (absV v0))).length : Int) + v1 then decide (((Str.ofString (toString (absV v0))).length : Int) + v1 ≤ places) else decide (0 ≤ ((Str.ofString (toString (absV v0))).length : Int) + v1)
noncomputable def blanksV : Option Int → Int
  | none => 4
  | some z => z + 2
noncomputable def gfixB (bl v0 v1 width places : Int) (plus : Bool) : Str :=
  if width ≤ bl then Txt.mul (Str.ofString "*") width
  else if (Txt.item (fixedV v0 v1 (width - bl) (places - (((Str.ofString (toString (absV v0))).length : Int) + v1)) 0 plus) 0 == Str.ofString "*") = true then Txt.mul (Str.ofString "*") width
  else fixedV v0 v1 (width - bl) (places - (((Str.ofString (toString (absV v0))).length : Int) + v1)) 0 plus ++ Txt.mul (Str.ofString " ") bl
noncomputable def gfixV (v0 v1 width places : Int) (size : Option Int) (plus : Bool) : Str := gfixB (blanksV size) v0 v1 width places plus
/- the law's own side -/
noncomputable def padV (n k : Int) : Str := Txt.mul (Str.ofString "0") (-k - ((Str.ofString (toString n)).length : Int)) ++ Str.ofString (toString n)
noncomputable def spreadV (n k : Int) : Str × Str :=
  if 0 ≤ k then (Txt.lstripChars (Str.ofString (toString n) ++ Txt.mul (Str.ofString "0") k) (Str.ofString "0"), Str.ofString "")
  else (Txt.lstripChars (Txt.slice (padV n k) none (some (((padV n k).length : Int) + k))) (Str.ofString "0"), Txt.slice (padV n k) (some (((padV n k).length : Int) + k)) none)
noncomputable def readV (y : Str) : Int := ((digitsVal y.cps.toList : Nat) : Int)
noncomputable def cutD (x : Str) (n : Int) : Str := x ++ Txt.mul (Str.ofString "0") (n + 1 - (x.length : Int))
noncomputable def cutN (x : Str) (n : Int) : Int := readV (Str.ofString "0" ++ Txt.slice (cutD x n) none (some n))
noncomputable def cutV (x : Str) (n : Int) : Str :=
  if (Txt.item (x ++ Txt.mul (Str.ofString "0") (n + 1 - (x.length : Int))) n).cps.toList < (Str.ofString "5").cps.toList then Txt.slice (x ++ Txt.mul (Str.ofString "0") (n + 1 - (x.length : Int))) none (some n)
  else Txt.mul (Str.ofString "0") (n - ((Str.ofString (toString (cutN x n + 1))).length : Int)) ++ Str.ofString (toString (cutN x n + 1))
noncomputable def lfield1 (x : Str) (n : Int) : Str := if (x.length : Int) ≤ n then Txt.mul (Str.ofString " ") (n - (x.length : Int)) ++ x else Txt.mul (Str.ofString "*") n
noncomputable def lfield2 (x y : Str) (n : Int) : Str := if (x.length : Int) ≤ n then Txt.mul (Str.ofString " ") (n - (x.length : Int)) ++ x else lfield1 y n
noncomputable def toldV (v0 k pl : Int) : Str := cutV ((spreadV (absV v0) k).1 ++ (spreadV (absV v0) k).2) (((spreadV (absV v0) k).1.length : Int) + pl)
noncomputable def aheadV (v0 k pl : Int) : Str := Txt.slice (toldV v0 k pl) none (some (((toldV v0 k pl).length : Int) - pl))
noncomputable def behindV (v0 k pl : Int) : Str := Txt.slice (toldV v0 k pl) (some (((toldV v0 k pl).length : Int) - pl)) none
noncomputable def lsgV (v0 k pl : Int) (plus : Bool) : Str :=
  if v0 < 0 then signV (!(Txt.stripChars (toldV v0 k pl) (Str.ofString "0") == Str.ofString "")) plus else signV (decide (v0 < 0)) plus
noncomputable def lfixedV (v0 k wd pl : Int) (plus : Bool) : Str :=
  if (aheadV v0 k pl == Str.ofString "") = true then
    if (behindV v0 k pl == Str.ofString "") = true then lfield1 (lsgV v0 k pl plus ++ Str.ofString "0" ++ Str.ofString "." ++ behindV v0 k pl) wd
    else lfield2 (lsgV v0 k pl plus ++ Str.ofString "0." ++ behindV v0 k pl) (lsgV v0 k pl plus ++ Str.ofString "." ++ behindV v0 k pl) wd
  else lfield1 (lsgV v0 k pl plus ++ aheadV v0 k pl ++ Str.ofString "." ++ behindV v0 k pl) wd
noncomputable def lleadV (v0 v1 count : Int) : Str × Int :=
  if v0 = 0 then (Txt.mul (Str.ofString "0") count, 0)
  else (Txt.slice (cutV (Str.ofString (toString (absV v0))) count) none (some count), ((Str.ofString (toString (absV v0))).length : Int) + v1 + ((cutV (Str.ofString (toString (absV v0))) count).length : Int) - count)
noncomputable def lcountV (pl sc : Int) : Int := if 0 < sc then pl + 1 else pl + sc
noncomputable def lpowV (v0 v1 pl sc : Int) : Int := if v0 = 0 then 0 else (lleadV v0 v1 (lcountV pl sc)).2 - sc
noncomputable def lexpT (d : Str) (v0 wd sc : Int) (plus : Bool) : Option Str → Str
  | none => Txt.mul (Str.ofString "*") wd
  | some tail => if 0 < sc then lfield1 (signV (decide (v0 < 0)) plus ++ Txt.slice d none (some sc) ++ Str.ofString "." ++ Txt.slice d (some sc) none ++ tail) wd
    else lfield2 (signV (decide (v0 < 0)) plus ++ Str.ofString "0" ++ (Str.ofString "." ++ Txt.mul (Str.ofString "0") (-sc) ++ d ++ tail)) (signV (decide (v0 < 0)) plus ++ (Str.ofString "." ++ Txt.mul (Str.ofString "0") (-sc) ++ d ++ tail)) wd
noncomputable def lexpV (letter : Str) (v0 v1 wd pl : Int) (size : Option Int) (sc : Int) (plus : Bool) : Str :=
  lexpT (lleadV v0 v1 (lcountV pl sc)).1 v0 wd sc plus (expoV letter (lpowV v0 v1 pl sc) size)
/- where _law_general tells by E -/
noncomputable def lgenB (v0 v1 pl : Int) : Prop :=
  pl < ((spreadV (absV v0) v1).1.length : Int) ∨ (((spreadV (absV v0) v1).1 == Str.ofString "") = true ∧
    ([Str.ofString "", Str.ofString "0"].any fun x => x == Txt.slice (spreadV (absV v0) v1).2 none (some 1)) = true)
noncomputable def lgfixB (bl v0 v1 wd pl : Int) (plus : Bool) : Str :=
  if bl < wd then
    if (Txt.item (lfixedV v0 v1 (wd - bl) (pl - ((spreadV (absV v0) v1).1.length : Int)) plus) 0 == Str.ofString "*") = true then Txt.mul (Str.ofString "*") wd
    else lfixedV v0 v1 (wd - bl) (pl - ((spreadV (absV v0) v1).1.length : Int)) plus ++ Txt.mul (Str.ofString " ") bl
  else Txt.mul (Str.ofString "*") wd
end

section
open PySem PySem.W PySem.NumText PyProof.Rows
set_option Elab.async false
/- text steps as lists of signs -/
theorem slice_to {x : Str} {j : Int} (h0 : 0 ≤ j) (h1 : j ≤ x.length) : (Txt.slice x none (some j)).cps.toList = x.cps.toList.take j.toNat := by
  have hl : x.cps.toList.length = x.length := Array.length_toList
  show (StrLaws.sliceText x none (some j)).cps.toList = _
  rw [StrLaws.sliceText_to ⟨h0, by omega⟩]
  simp
theorem slice_from {x : Str} {j : Int} (h0 : 0 ≤ j) (h1 : j ≤ x.length) : (Txt.slice x (some j) none).cps.toList = x.cps.toList.drop j.toNat := by
  have hl : x.cps.toList.length = x.length := Array.length_toList
  show (StrLaws.sliceText x (some j) none).cps.toList = _
  rw [StrLaws.sliceText_from ⟨h0, by omega⟩]
  simp only [List.toList_toArray]
  refine List.take_of_length_le ?_
  rw [List.length_drop]; omega
theorem goes0 : (Str.ofString "0").cps.contains = fun c : Nat => c == 48 := by
  funext c
  rw [show Str.ofString "0" = ⟨#[48]⟩ by decide]
  simp [Array.contains]
theorem drop_run (p : Nat → Bool) (l : List Nat) : l.drop (l.takeWhile p).length = l.dropWhile p := by
  induction l with
  | nil => rfl
  | cons c r ih =>
    by_cases h : p c = true
    · simp [List.takeWhile_cons, List.dropWhile_cons, h, ih]
    · simp [List.takeWhile_cons, List.dropWhile_cons, h]
theorem run_len (p : Nat → Bool) (l : List Nat) : (l.takeWhile p).length + (l.dropWhile p).length = l.length := by
  rw [← List.length_append, List.takeWhile_append_dropWhile]
theorem lstrip_list (x : Str) : (Txt.lstripChars x (Str.ofString "0")).cps.toList = x.cps.toList.dropWhile (fun c => c == 48) := by
  have hl : x.cps.toList.length = x.length := Array.length_toList
  unfold Txt.lstripChars
  rw [PyProof.Rows.stripBy_eq, StrLaws.strSub_toList, goes0]
  unfold stripHi stripLo
  simp only [if_true, Bool.false_eq_true, if_false]
  rw [List.take_of_length_le (by rw [List.length_drop]; omega), drop_run]
theorem str_ext {x y : Str} (h : x.cps.toList = y.cps.toList) : x = y := Str.ext' (Array.toList_inj.mp h)
theorem run_all (p : Nat → Bool) (l : List Nat) (h : (l.takeWhile p).length = l.length) : ∀ c ∈ l, p c = true := by
  have e : l.dropWhile p = [] := List.eq_nil_of_length_eq_zero (by have := run_len p l; omega)
  intro c hc
  rw [← List.takeWhile_append_dropWhile (p := p) (l := l), e, List.append_nil] at hc
  exact (List.all_takeWhile (p := p) (l := l) |> List.all_eq_true.mp) c hc
theorem all_run (p : Nat → Bool) (l : List Nat) (h : ∀ c ∈ l, p c = true) : l.takeWhile p = l := by
  induction l with
  | nil => rfl
  | cons c r ih => rw [List.takeWhile_cons, if_pos (h c (.head _)), ih fun d hd => h d (.tail _ hd)]
theorem strip_empty (x : Str) : (Txt.stripChars x (Str.ofString "0") == Str.ofString "") = true ↔ ∀ c ∈ x.cps.toList, c = 48 := by
  have hl : x.cps.toList.length = x.length := Array.length_toList
  rw [beq_iff_eq]
  have key : (Txt.stripChars x (Str.ofString "0")).cps.toList = (x.cps.toList.dropWhile (fun c => c == 48)).take (x.length - ((x.cps.toList.dropWhile (fun c => c == 48)).reverse.takeWhile (fun c => c == 48)).length - (x.cps.toList.takeWhile (fun c => c == 48)).length) := by
    unfold Txt.stripChars
    rw [PyProof.Rows.stripBy_eq, StrLaws.strSub_toList, goes0]
    unfold stripHi stripLo
    simp only [if_true]
    rw [drop_run]
  constructor
  · intro h
    have z : (Str.ofString "").cps.toList = [] := by decide
    rw [h, z] at key
    have rl := run_len (fun c => c == 48) x.cps.toList
    by_cases hd : x.cps.toList.dropWhile (fun c => c == 48) = []
    · rw [hd] at rl
      have := run_all (fun c => c == 48) x.cps.toList (by simpa using rl)
      intro c hc; exact beq_iff_eq.mp (this c hc)
    · exfalso
      have hh := List.head_dropWhile_not (fun c : Nat => c == 48) hd
      have hle := run_len (fun c => c == 48) (x.cps.toList.dropWhile (fun c => c == 48)).reverse
      have hne : ((x.cps.toList.dropWhile (fun c => c == 48)).reverse.takeWhile (fun c => c == 48)).length ≠ (x.cps.toList.dropWhile (fun c => c == 48)).reverse.length := by
        intro e
        have := run_all _ _ e _ (List.mem_reverse.mpr (List.head_mem hd))
        rw [this] at hh; cases hh
      rw [List.length_reverse] at hle hne
      have := congrArg List.length key
      rw [List.length_take] at this
      have pos : 0 < (x.cps.toList.dropWhile (fun c => c == 48)).length := List.length_pos_iff.mpr hd
      simp only [List.length_nil] at this
      omega
  · intro h
    apply str_ext
    rw [key]
    have t : x.cps.toList.takeWhile (fun c => c == 48) = x.cps.toList := all_run _ _ fun c hc => by rw [h c hc]; rfl
    have d : x.cps.toList.dropWhile (fun c => c == 48) = [] := List.eq_nil_of_length_eq_zero (by have := run_len (fun c => c == 48) x.cps.toList; rw [t] at this; omega)
    rw [d]; simp; decide
end

section
open PySem PySem.W PySem.NumText PyProof.Rows
set_option Elab.async false
theorem abs_line {prog : Program} {w : World} {A : Around} {E : Value → Shared → Prop} {s : Shared} {a : Int} {t : Tok} {Q : Value → Shared → Prop}
    (h : ∀ u tk, Q (.int (absV a) u) { s with toks := tk }) : wpAny (model prog w) A (call (.builtin "abs") [.int a t]) Q E s := call_abs_int h
theorem room {a b c d R : Nat} (h : a + d < R) (hb : b + c ≤ d) : a + b + c < R := by omega
theorem absV_nonneg (n : Int) : 0 ≤ absV n := by unfold absV; split <;> omega
theorem absV_lt {n : Int} (h : -(10 ^ 10) < n) (h1 : n < 10 ^ 10) : absV n < 10 ^ 10 := by unfold absV; split <;> omega
theorem len_star : (Str.ofString "*").length = 1 := by decide
theorem len_one (x : String) (h : (Str.ofString x).length = 1) (n : Int) : ((Txt.mul (Str.ofString x) n).length : Int) = if n < 0 then 0 else n := by
  rw [len_mul_k1 h]; split <;> omega
theorem lens : (Str.ofString "").length = 0 ∧ (Str.ofString "0").length = 1 ∧ (Str.ofString ".").length = 1 ∧ (Str.ofString "0.").length = 2 ∧ (Str.ofString "-").length = 1 ∧ (Str.ofString "+").length = 1 := by decide
theorem len_app (x y : Str) : (x ++ y).length = x.length + y.length := Str.length_append x y
theorem fieldV_len {x : Str} {n : Int} (h1 : 0 ≤ n) (h2 : n ≤ 100) : ((fieldV x n).length : Int) = n := by
  unfold fieldV
  have a := len_one "*" (by decide) n
  have b := len_one " " (by decide) (n - x.length)
  split
  · rw [a]; split <;> omega
  · rw [len_app]; push_cast; rw [b]; split <;> omega
theorem noPy {x k : Int} (h : -k ≤ 90) : Builtin.divisionGoesByPylong x (2 * 10 ^ (-k).toNat) = false := by
  apply PyProof.noPylong_of_log2
  have e : ((2 : Int) * 10 ^ (-k).toNat).natAbs = 2 * 10 ^ (-k).toNat := by
    rw [show ((2 : Int) * 10 ^ (-k).toNat) = ((2 * 10 ^ (-k).toNat : Nat) : Int) by push_cast; rfl]; exact Int.natAbs_natCast _
  rw [e]
  have p : 0 < 10 ^ (-k).toNat := Nat.pow_pos (by decide)
  refine (Nat.log2_lt (by omega)).mpr ?_
  have q : 10 ^ (-k).toNat ≤ 10 ^ 90 := Nat.pow_le_pow_right (by decide) (by omega)
  have r : 2 * 10 ^ 90 < 2 ^ 9000 := by
    have : (2 : Nat) ^ 400 ≤ 2 ^ 9000 := Nat.pow_le_pow_right (by decide) (by decide)
    have : 2 * 10 ^ 90 < (2 : Nat) ^ 400 := by decide
    omega
  omega
theorem signV_len (p q : Bool) : (signV p q).length ≤ 1 := by
  unfold signV; split
  · decide
  · split <;> decide
theorem scaledV_nonneg {n k : Int} (h : 0 ≤ n) : 0 ≤ scaledV n k := by
  have p : (0 : Int) < 10 ^ (-k).toNat := Int.pow_pos (by decide)
  have p' : (0 : Int) < 10 ^ k.toNat := Int.pow_pos (by decide)
  unfold scaledV; split
  · exact Int.mul_nonneg h (by omega)
  · rw [Int.fdiv_eq_ediv_of_nonneg _ (by omega)]; exact Int.ediv_nonneg (by omega) (by omega)
theorem scaledV_lt {n k : Int} (h : 0 ≤ n) (h1 : n < 10 ^ 10) (h2 : k ≤ 90) : scaledV n k < 10 ^ 100 := by
  have p : (0 : Int) < 10 ^ (-k).toNat := Int.pow_pos (by decide)
  unfold scaledV; split
  · have q : (10 : Int) ^ k.toNat ≤ 10 ^ 90 := by have := Nat.pow_le_pow_right (n := 10) (by decide) (show k.toNat ≤ 90 by omega); exact_mod_cast this
    have q0 : (0 : Int) < 10 ^ k.toNat := Int.pow_pos (by decide)
    calc n * 10 ^ k.toNat ≤ n * 10 ^ 90 := Int.mul_le_mul_of_nonneg_left q h
      _ < 10 ^ 10 * 10 ^ 90 := Int.mul_lt_mul_of_pos_right h1 (by decide)
      _ = 10 ^ 100 := by decide
  · rw [Int.fdiv_eq_ediv_of_nonneg _ (by omega)]
    generalize (10 : Int) ^ (-k).toNat = u at p
    have : (2 * n + u) / (2 * u) < n + 2 := by
      apply Int.ediv_lt_of_lt_mul (by omega)
      have : n * 1 ≤ n * u := Int.mul_le_mul_of_nonneg_left (by omega) h
      have e : (n + 2) * (2 * u) = 2 * (n * u) + 4 * u := by rw [Int.add_mul, ← Int.mul_assoc, Int.mul_comm n 2, Int.mul_assoc]; omega
      rw [e]; omega
    omega
theorem pointV_len {sg wh rs : Str} {n : Int} (h1 : 0 ≤ n) (h2 : n ≤ 100) : ((pointV sg wh rs n).length : Int) = n := by
  have e0 : (Str.ofString "0").length = 1 := by decide
  have e1 : (Str.ofString ".").length = 1 := by decide
  have e2 : (Str.ofString "0.").length = 2 := by decide
  unfold pointV
  split
  · split
    · exact fieldV_len h1 h2
    · split
      · exact fieldV_len h1 h2
      · exact fieldV_len h1 h2
  · exact fieldV_len h1 h2
theorem fixedV_len {v0 v1 n places scale : Int} {plus : Bool} (h1 : 0 ≤ n) (h2 : n ≤ 100) : ((fixedV v0 v1 n places scale plus).length : Int) = n := pointV_len h1 h2
theorem txt_len {n : Int} {k : Nat} (hk : 0 < k) (h0 : 0 ≤ n) (h : n < 10 ^ k) : (Str.ofString (toString n)).length ≤ k := toString_length_le h0 hk h
theorem cb_retN {P : Prop} {h₀ h' : Heap} {L : Addr} {m : Str → Option Value} {news : List (Addr × Obj)} {s : Shared} {Q : Value → Shared → Prop} {tk' : Nat}
    (hret : ∀ (t : Tok) (h' : Heap) (tk' : Nat), P → Fr h₀ L h' m → News h₀ L h' news → Q .none { s with heap := h', toks := tk' }) (e : P) (F : Fr h₀ L h' m) (N : News h₀ L h' news) :
    Q .none { s with heap := h', toks := tk' } := hret 0 h' tk' e F N
theorem cb_retO {o : Option Str} {x : Str} {h₀ h' : Heap} {L : Addr} {m : Str → Option Value} {news : List (Addr × Obj)} {s : Shared} {Q : Value → Shared → Prop} {t : Tok} {tk' : Nat}
    (hret : ∀ (x : Str) (t : Tok) (h' : Heap) (tk' : Nat), o = some x → Fr h₀ L h' m → News h₀ L h' news → Q (.str x t) { s with heap := h', toks := tk' }) (e : o = some x) (F : Fr h₀ L h' m) (N : News h₀ L h' news) :
    Q (.str x t) { s with heap := h', toks := tk' } := hret x t h' tk' e F N
theorem cb_ret2 {x x' : Str} {k k' : Int} {t1 t2 : Tok} {D : Addr} {h₀ h' : Heap} {L : Addr} {m : Str → Option Value} {news : List (Addr × Obj)} {s : Shared} {Q : Value → Shared → Prop} {tk' : Nat}
    (hret : ∀ (t1 t2 : Tok) (D : Addr) (h' : Heap) (tk' : Nat), Fr h₀ L h' m → News h₀ L h' ((D, ({ cls := .type "tuple", data := .seq #[.str x t1, .int k t2] } : Obj)) :: news) → (∀ p ∈ news, p.1 < D) → Q (.ref D) { s with heap := h', toks := tk' })
    (e1 : x' = x) (e2 : k' = k) (F : Fr h₀ L h' m) (N : News h₀ L h' ((D, ({ cls := .type "tuple", data := .seq #[.str x' t1, .int k' t2] } : Obj)) :: news)) (hl : ∀ p ∈ news, p.1 < D) :
    Q (.ref D) { s with heap := h', toks := tk' } := by subst e1 e2; exact hret t1 t2 D h' tk' F N hl
theorem cb_ret3 {x x' y y' : Str} {t1 t2 : Tok} {D : Addr} {h₀ h' : Heap} {L : Addr} {m : Str → Option Value} {news : List (Addr × Obj)} {s : Shared} {Q : Value → Shared → Prop} {tk' : Nat}
    (hret : ∀ (t1 t2 : Tok) (D : Addr) (h' : Heap) (tk' : Nat), Fr h₀ L h' m → News h₀ L h' ((D, ({ cls := .type "tuple", data := .seq #[.str x t1, .str y t2] } : Obj)) :: news) → (∀ p ∈ news, p.1 < D) → Q (.ref D) { s with heap := h', toks := tk' })
    (e1 : x' = x) (e2 : y' = y) (F : Fr h₀ L h' m) (N : News h₀ L h' ((D, ({ cls := .type "tuple", data := .seq #[.str x' t1, .str y' t2] } : Obj)) :: news)) (hl : ∀ p ∈ news, p.1 < D) :
    Q (.ref D) { s with heap := h', toks := tk' } := by subst e1 e2; exact hret t1 t2 D h' tk' F N hl
theorem txt_pos {n : Int} (h : 0 ≤ n) : 1 ≤ (Str.ofString (toString n)).length := KLn.one_le h
theorem leadV_facts {v0 v1 count : Int} (q1 : -(10 ^ 10) < v0) (q2 : v0 < 10 ^ 10) (q3 : -40 ≤ v1) (q4 : v1 ≤ 40) (c1 : 0 ≤ count) (c2 : count ≤ 50) :
    (leadV v0 v1 count).1.length ≤ 100 ∧ -100 ≤ (leadV v0 v1 count).2 ∧ (leadV v0 v1 count).2 ≤ 100 := by
  have ha0 := absV_nonneg v0
  have ha1 := absV_lt q1 q2
  have hz := txt_len (k := 10) (by decide) ha0 ha1
  have hp := txt_pos ha0
  have hd := txt_len (n := scaledV (absV v0) (count - ((Str.ofString (toString (absV v0))).length : Int))) (k := 100) (by decide) (scaledV_nonneg ha0) (scaledV_lt ha0 ha1 (by omega))
  unfold leadV
  split
  · have := len_one "0" (by decide) count
    refine ⟨?_, by show (-100 : Int) ≤ 0; omega, by show (0 : Int) ≤ 100; omega⟩
    show (Txt.mul (Str.ofString "0") count).length ≤ 100
    split at this <;> omega
  · split
    · exact ⟨Nat.le_trans (Txt.slice_le _ _ _) hd, by show -100 ≤ _ + _ + 1; omega, by show _ + _ + 1 ≤ 100; omega⟩
    · exact ⟨hd, by show -100 ≤ _ + _; omega, by show _ + _ ≤ 100; omega⟩
theorem sgV_len (p : Int) : (sgV p).length = 1 := by unfold sgV; split <;> decide
theorem expoV_len {l x : Str} {p : Int} {z : Option Int} (hl : l.length = 1) (hp : -1000 < p) (hp' : p < 1000) (hz : ∀ k, z = some k → 0 ≤ k ∧ k ≤ 3) (h : expoV l p z = some x) : x.length ≤ 8 := by
  have h0 := absV_nonneg p
  have h1 : absV p < 10 ^ 3 := by unfold absV; split <;> omega
  have a := txt_len (k := 3) (by decide) h0 h1
  have s := sgV_len p
  cases z with
  | none =>
    have b := len_one "0" (by decide) (2 - ((Str.ofString (toString (absV p))).length : Int))
    simp only [expoV] at h
    split at h
    · cases h; simp only [len_app]; split at b <;> omega
    · split at h
      · cases h; simp only [len_app]; omega
      · cases h
  | some k =>
    have := hz k rfl
    have b := len_one "0" (by decide) (k - ((Str.ofString (toString (absV p))).length : Int))
    simp only [expoV] at h
    split at h
    · cases h
    · cases h; simp only [len_app]; split at b <;> omega


theorem genfix_facts {i j pl : Int} (h : genfixV i j pl = true) : i ≠ 0 ∧ 0 ≤ ((Str.ofString (toString (absV i))).length : Int) + j ∧ ((Str.ofString (toString (absV i))).length : Int) + j ≤ pl := by
  unfold genfixV at h
  split at h
  · cases h
  · rename_i h0
    split at h
    · rename_i h1; exact ⟨h0, h1, of_decide_eq_true h⟩
    · rename_i h1; exact absurd (of_decide_eq_true h) h1
/- the law's side: sizes, digits -/
def DigS (x : Str) : Prop := AllDigits x.cps.toList
theorem app_list (a y : Str) : (a ++ y).cps.toList = a.cps.toList ++ y.cps.toList := KT.app_list a y
theorem len_list (x : Str) : x.cps.toList.length = x.length := Array.length_toList
theorem DigS.app {x y : Str} (h : DigS x) (h' : DigS y) : DigS (x ++ y) := by
  intro c hc; rw [app_list] at hc; exact (List.mem_append.mp hc).elim (h c) (h' c)
theorem list_zero : (Str.ofString "0") = ⟨#[48]⟩ := by decide
theorem mul_list (n : Int) : (Txt.mul (Str.ofString "0") n).cps.toList = List.replicate n.toNat 48 := by rw [list_zero]; exact mul_one_list 48 n
theorem digS_mul (n : Int) : DigS (Txt.mul (Str.ofString "0") n) := by
  intro c hc; rw [mul_list] at hc; rw [(List.mem_replicate.mp hc).2]; decide
theorem digS_num (n : Int) (h : 0 ≤ n) : DigS (Str.ofString (toString n)) := by
  obtain ⟨m, rfl⟩ := Int.eq_ofNat_of_zero_le h
  intro c hc
  rw [KIN.signs_num] at hc
  obtain ⟨ch, hch, e⟩ := List.mem_map.mp hc
  have r := digit_range (Nat.isDigit_of_mem_toDigits (by decide) (by decide) hch)
  rw [← e]; exact r
theorem slice_sub (x : Str) (l u : Option Int) : ∀ c ∈ (Txt.slice x l u).cps.toList, c ∈ x.cps.toList := by
  intro c hc
  unfold Txt.slice at hc
  split at hc
  · exact hc
  · rw [List.toList_toArray] at hc
    obtain ⟨i, _, e⟩ := List.mem_filterMap.mp hc
    exact Array.mem_toList_iff.mpr (Array.mem_of_getElem? e)
theorem digS_slice {x : Str} (h : DigS x) (l u : Option Int) : DigS (Txt.slice x l u) := fun c hc => h c (slice_sub x l u c hc)
theorem digitsVal_lt : ∀ (l : List Nat), AllDigits l → ∀ a, l.foldl (fun acc c => acc * 10 + (c - 48)) a < (a + 1) * 10 ^ l.length
  | [], _, a => by simp
  | c :: r, h, a => by
    have hc := h.head
    have := digitsVal_lt r h.tail (a * 10 + (c - 48))
    rw [List.foldl_cons, List.length_cons, Nat.pow_succ]
    refine Nat.lt_of_lt_of_le this ?_
    have e : (a + 1) * (10 ^ r.length * 10) = (a * 10 + 10) * 10 ^ r.length := by rw [Nat.mul_comm (10 ^ r.length) 10, ← Nat.mul_assoc, Nat.add_mul]
    rw [e]
    exact Nat.mul_le_mul_right _ (by omega)
theorem readV_nonneg (x : Str) : 0 ≤ readV x := Int.natCast_nonneg _
theorem readV_lt {x : Str} {k : Nat} (h : DigS x) (hk : x.length ≤ k) : readV x < 10 ^ k := by
  have := digitsVal_lt _ h 0
  unfold readV digitsVal
  have q : 10 ^ x.cps.toList.length ≤ 10 ^ k := Nat.pow_le_pow_right (by decide) (by rw [len_list]; exact hk)
  have := Nat.lt_of_lt_of_le this (by simpa using q)
  exact_mod_cast this
theorem readV_text {x : Str} (h : DigS x) (h1 : 1 ≤ x.length) (h2 : x.length ≤ 4300) : PySem.intText? x = some (readV x) := by
  refine intText_digits h ?_ h2
  intro e; have := len_list x; rw [e] at this; simp at this; omega
theorem cutD_dig {x : Str} (n : Int) (h : DigS x) : DigS (cutD x n) := h.app (digS_mul _)
theorem cutD_len (x : Str) (n : Int) : ((cutD x n).length : Int) = if n + 1 - (x.length : Int) < 0 then (x.length : Int) else n + 1 := by
  unfold cutD
  rw [len_app]; push_cast; rw [len_one "0" (by decide)]; split <;> omega
theorem cutN_facts {x : Str} {n : Int} (h : DigS x) (h0 : 0 ≤ n) (h1 : n ≤ 110) (h2 : x.length ≤ 110) :
    PySem.intText? (Str.ofString "0" ++ Txt.slice (cutD x n) none (some n)) = some (cutN x n) ∧ (Str.ofString "0" ++ Txt.slice (cutD x n) none (some n)).length ≤ 120 ∧ 0 ≤ cutN x n ∧ cutN x n < 10 ^ 120 := by
  have e := cutD_len x n
  have l := Txt.slice_le (cutD x n) none (some n)
  have z : (Str.ofString "0").length = 1 := by decide
  have hl : (Str.ofString "0" ++ Txt.slice (cutD x n) none (some n)).length ≤ 120 := by rw [len_app, z]; split at e <;> omega
  have d : DigS (Str.ofString "0" ++ Txt.slice (cutD x n) none (some n)) := DigS.app (by intro c hc; rw [list_zero] at hc; simp at hc; omega) (digS_slice (cutD_dig n h) _ _)
  exact ⟨readV_text d (by rw [len_app, z]; omega) (by omega), hl, readV_nonneg _, readV_lt d hl⟩
theorem cutV_len {x : Str} {n : Int} (h : DigS x) (h0 : 0 ≤ n) (h1 : n ≤ 110) (h2 : x.length ≤ 110) : (cutV x n).length ≤ 235 := by
  obtain ⟨_, _, a, b⟩ := cutN_facts h h0 h1 h2
  have e := cutD_len x n
  have l := Txt.slice_le (cutD x n) none (some n)
  unfold cutV
  split
  · show (Txt.slice (cutD x n) none (some n)).length ≤ 235
    split at e <;> omega
  · rw [len_app]
    have p := len_one "0" (by decide) (n - ((Str.ofString (toString (cutN x n + 1))).length : Int))
    have q := txt_len (n := cutN x n + 1) (k := 121) (by decide) (by omega) (by omega)
    split at p <;> omega
theorem padV_len {n k : Int} (h0 : 0 ≤ n) (h1 : n < 10 ^ 10) (hk : -50 ≤ k) (hk' : k < 0) : -k ≤ ((padV n k).length : Int) ∧ (padV n k).length ≤ 60 := by
  have a := txt_len (k := 10) (by decide) h0 h1
  have p := len_one "0" (by decide) (-k - ((Str.ofString (toString n)).length : Int))
  unfold padV; rw [len_app]; push_cast
  split at p <;> omega
theorem digS_lstrip {x : Str} (h : DigS x) : DigS (Txt.lstripChars x (Str.ofString "0")) := by
  intro c hc; rw [lstrip_list] at hc; exact h c ((List.dropWhile_sublist _).mem hc)
theorem ar_j {L : Nat} {k : Int} (q1 : -k ≤ (L : Int)) (hk : k < 0) : 0 ≤ (L : Int) + k ∧ (L : Int) + k ≤ L := by omega
theorem spreadV_facts {n k : Int} (h0 : 0 ≤ n) (h1 : n < 10 ^ 10) (hk : -50 ≤ k) (hk' : k ≤ 40) :
    (spreadV n k).1.length ≤ 60 ∧ (spreadV n k).2.length ≤ 60 ∧ ((spreadV n k).1 ++ (spreadV n k).2).length ≤ 110 ∧ DigS ((spreadV n k).1 ++ (spreadV n k).2) := by
  have a := txt_len (k := 10) (by decide) h0 h1
  have z : (Str.ofString "").length = 0 := by decide
  unfold spreadV
  split
  · rename_i hp
    have p := len_one "0" (by decide) k
    have l := len_lstripChars (Str.ofString (toString n) ++ Txt.mul (Str.ofString "0") k) (Str.ofString "0")
    rw [len_app] at l
    rw [if_neg (by omega)] at p
    refine ⟨?_, ?_, ?_, ?_⟩
    · show (Txt.lstripChars _ _).length ≤ 60; omega
    · show (Str.ofString "").length ≤ 60; omega
    · rw [len_app]; show (Txt.lstripChars _ _).length + (Str.ofString "").length ≤ 110; omega
    · exact (digS_lstrip ((digS_num n h0).app (digS_mul k))).app (by intro c hc; rw [show ((_, Str.ofString "") : Str × Str).2.cps.toList = [] from (by decide : (Str.ofString "").cps.toList = [])] at hc; cases hc)
  · rename_i hp
    obtain ⟨q1, q2⟩ := padV_len h0 h1 hk (by omega)
    have l := len_lstripChars (Txt.slice (padV n k) none (some (((padV n k).length : Int) + k))) (Str.ofString "0")
    have s1 := Txt.slice_le (padV n k) none (some (((padV n k).length : Int) + k))
    have s2 := Txt.slice_le (padV n k) (some (((padV n k).length : Int) + k)) none
    obtain ⟨j0, j1⟩ := ar_j q1 (Int.not_le.mp hp)
    have e : (Txt.slice (padV n k) none (some (((padV n k).length : Int) + k))).length + (Txt.slice (padV n k) (some (((padV n k).length : Int) + k)) none).length = (padV n k).length := by
      rw [← len_list, ← len_list (Txt.slice _ (some _) none), slice_to j0 j1, slice_from j0 j1, ← List.length_append, List.take_append_drop, len_list]
    have d : DigS (padV n k) := (digS_mul _).app (digS_num n h0)
    refine ⟨Nat.le_trans l (Nat.le_trans s1 q2), Nat.le_trans s2 q2, by rw [len_app]; exact Nat.le_trans (Nat.add_le_add_right l _) (by rw [e]; exact Nat.le_trans q2 (by decide)), ?_⟩
    · exact (digS_lstrip (digS_slice d _ _)).app (digS_slice d _ _)
theorem lfield1_len {x : Str} {n : Int} (h1 : 0 ≤ n) (h2 : n ≤ 100) : ((lfield1 x n).length : Int) = n := by
  unfold lfield1
  have a := len_one "*" (by decide) n
  have b := len_one " " (by decide) (n - x.length)
  split
  · rw [len_app]; push_cast; rw [b]; split <;> omega
  · rw [a]; split <;> omega
theorem lfield2_len {x y : Str} {n : Int} (h1 : 0 ≤ n) (h2 : n ≤ 100) : ((lfield2 x y n).length : Int) = n := by
  unfold lfield2
  have b := len_one " " (by decide) (n - x.length)
  split
  · rw [len_app]; push_cast; rw [b]; split <;> omega
  · exact lfield1_len h1 h2
/- the ways of _law_fixed -/
theorem neq_t {a b : Str} (h : (a != b) = true) : (a == b) = false := by simpa [bne] using h
theorem neq_f {a b : Str} (h : (a != b) = false) : (a == b) = true := by simpa [bne] using h
theorem way_no {a b : Str} {P : Prop} (h1 : (a == b) = true) (h2 : (a != b) = true) : P := by rw [neq_t h2] at h1; cases h1
theorem way_no' {a b : Str} {P : Prop} (h1 : (a == b) = false) (h2 : (a != b) = false) : P := by rw [neq_f h2] at h1; cases h1
theorem lfixedV_len {v0 k n pl : Int} {plus : Bool} (h1 : 0 ≤ n) (h2 : n ≤ 100) : ((lfixedV v0 k n pl plus).length : Int) = n := by
  unfold lfixedV
  split
  · split
    · exact lfield1_len h1 h2
    · exact lfield2_len h1 h2
  · exact lfield1_len h1 h2
theorem lleadV_facts {v0 v1 c : Int} (q1 : -(10 ^ 10) < v0) (q2 : v0 < 10 ^ 10) (q3 : -40 ≤ v1) (q4 : v1 ≤ 40) (c1 : 0 ≤ c) (c2 : c ≤ 50) :
    (lleadV v0 v1 c).1.length ≤ 235 ∧ -300 ≤ (lleadV v0 v1 c).2 ∧ (lleadV v0 v1 c).2 ≤ 300 := by
  have ha0 := absV_nonneg v0
  have ha1 := absV_lt q1 q2
  have hz := txt_len (k := 10) (by decide) ha0 ha1
  have hp := txt_pos ha0
  have hc := cutV_len (digS_num _ ha0) c1 (show c ≤ 110 by omega) (show (Str.ofString (toString (absV v0))).length ≤ 110 by omega)
  unfold lleadV
  split
  · have := len_one "0" (by decide) c
    refine ⟨?_, by show (-300 : Int) ≤ 0; omega, by show (0 : Int) ≤ 300; omega⟩
    show (Txt.mul (Str.ofString "0") c).length ≤ 235
    split at this <;> omega
  · exact ⟨Nat.le_trans (Txt.slice_le _ _ _) hc, by show -300 ≤ _ + _ + _ - _; omega, by show _ + _ + _ - _ ≤ 300; omega⟩

/- the ways of _law_exp -/




/- the ways of _law_general -/
theorem lgen_y1 {i j pl : Int} {x : Str} (hx : x = (spreadV (absV i) j).1) (h : pl < (x.length : Int)) : lgenB i j pl := by subst hx; exact .inl h
theorem lgen_y2 {i j pl : Int} {x y : Str} (hx : x = (spreadV (absV i) j).1) (hy : y = (spreadV (absV i) j).2) (h1 : (x == Str.ofString "") = true)
    (h2 : ([Str.ofString "", Str.ofString "0"].any fun x => x == Txt.slice y none (some 1)) = true) : lgenB i j pl := by subst hx hy; exact .inr ⟨h1, h2⟩
theorem lgen_n1 {i j pl : Int} {x y : Str} (hx : x = (spreadV (absV i) j).1) (hy : y = (spreadV (absV i) j).2) (h : ¬ pl < (x.length : Int))
    (h2 : ([Str.ofString "", Str.ofString "0"].any fun x => x == Txt.slice y none (some 1)) = false) : ¬ lgenB i j pl := by
  subst hx hy; rintro (a | ⟨_, a⟩)
  · exact h a
  · rw [h2] at a; cases a
theorem lgen_n2 {i j pl : Int} {x : Str} (hx : x = (spreadV (absV i) j).1) (h : ¬ pl < (x.length : Int)) (h1 : (x == Str.ofString "") = false) : ¬ lgenB i j pl := by
  subst hx; rintro (a | ⟨a, _⟩)
  · exact h a
  · rw [h1] at a; cases a
theorem lgfx1 {bl i j pl wd : Int} {b : Bool} {x : Str} (hx : x = (spreadV (absV i) j).1) (h : bl < wd) (h1 : (Txt.item (lfixedV i j (wd - bl) (pl - (x.length : Int)) b) 0 == Str.ofString "*") = true) :
    Txt.mul (Str.ofString "*") wd = lgfixB bl i j wd pl b := by subst hx; unfold lgfixB; rw [if_pos h, if_pos h1]
theorem lgfx2 {bl i j pl wd : Int} {b : Bool} {x : Str} (hx : x = (spreadV (absV i) j).1) (h : bl < wd) (h1 : (Txt.item (lfixedV i j (wd - bl) (pl - (x.length : Int)) b) 0 == Str.ofString "*") = false) :
    lfixedV i j (wd - bl) (pl - (x.length : Int)) b ++ Txt.mul (Str.ofString " ") bl = lgfixB bl i j wd pl b := by subst hx; unfold lgfixB; rw [if_pos h, if_neg (by rw [h1]; decide)]
theorem lgfx3 {bl i j pl wd : Int} {b : Bool} (h : ¬ bl < wd) : Txt.mul (Str.ofString "*") wd = lgfixB bl i j wd pl b := by unfold lgfixB; rw [if_neg h]
/- the draws -/
theorem news_rot {h₀ h : Heap} {L : Addr} {a b c : Addr × Obj} {r : List (Addr × Obj)} (N : News h₀ L h (a :: b :: c :: r)) : News h₀ L h (b :: c :: a :: r) := fun x hx => N x (by
  rcases List.mem_cons.mp hx with rfl | hx
  · exact .tail _ (.head _)
  · rcases List.mem_cons.mp hx with rfl | hx
    · exact .tail _ (.tail _ (.head _))
    · rcases List.mem_cons.mp hx with rfl | hx
      · exact .head _
      · exact .tail _ (.tail _ (.tail _ hx)))
theorem allLt_mem {d : Addr} : ∀ {l : List (Addr × Obj)}, AllLt d l → ∀ x ∈ l, x.1 < d
  | [], _, _, h => nomatch h
  | _ :: _, h, x, hx => by
    rcases List.mem_cons.mp hx with rfl | hx
    · exact h.1
    · exact allLt_mem h.2 x hx
theorem pow_real {s : Int} (h0 : 0 ≤ s) (h1 : s < 10) : (0 : Int) < 10 ^ s.toNat ∧ (10 : Int) ^ s.toNat ≤ 10 ^ 9 := by
  refine ⟨Int.pow_pos (by decide), ?_⟩
  have := Nat.pow_le_pow_right (n := 10) (by decide) (show s.toNat ≤ 9 by omega)
  exact_mod_cast this
theorem real_p1 {v s : Int} (h0 : 0 ≤ s) (h1 : s < 10) : -(10 ^ 9) < Int.fmod v (10 ^ s.toNat) := by
  have := fmod_lo v (pow_real h0 h1).1; omega
theorem real_p2 {v s : Int} (h0 : 0 ≤ s) (h1 : s < 10) : Int.fmod v (10 ^ s.toNat) < 10 ^ 9 := by
  have := fmod_hi v (pow_real h0 h1).1; have := (pow_real h0 h1).2; omega
theorem real_m1 {v s : Int} (h0 : 0 ≤ s) (h1 : s < 10) : -(10 ^ 9) < -Int.fmod v (10 ^ s.toNat) := by have := real_p2 (v := v) h0 h1; omega
theorem real_m2 {v s : Int} (h0 : 0 ≤ s) (h1 : s < 10) : -Int.fmod v (10 ^ s.toNat) < 10 ^ 9 := by
  have := fmod_lo v (pow_real h0 h1).1; omega
theorem edge_b1 {v u : Int} (h0 : 0 ≤ v) (h1 : v < 10) (h2 : 0 ≤ u) (h3 : u < 3) : -(10 ^ 10) < 10 ^ v.toNat + u - 1 := by have := pow_real h0 h1; omega
theorem edge_b2 {v u : Int} (h0 : 0 ≤ v) (h1 : v < 10) (h2 : 0 ≤ u) (h3 : u < 3) : 10 ^ v.toNat + u - 1 < 10 ^ 10 := by have := pow_real h0 h1; omega
end

section
open PySem PySem.W PySem.NumText PyProof.Rows
set_option Elab.async false
/- digit strings and their numbers -/
theorem dv_foldl (l : List Nat) (a : Nat) : l.foldl (fun acc c => acc * 10 + (c - 48)) a = a * 10 ^ l.length + l.foldl (fun acc c => acc * 10 + (c - 48)) 0 := by
  induction l generalizing a with
  | nil => simp
  | cons c r ih =>
    rw [List.foldl_cons, List.foldl_cons, ih, ih (0 * 10 + (c - 48)), List.length_cons, Nat.pow_succ]
    simp only [Nat.zero_mul, Nat.zero_add, Nat.add_mul]
    rw [Nat.mul_assoc, Nat.mul_comm 10]
    omega
theorem dv_app (l r : List Nat) : digitsVal (l ++ r) = digitsVal l * 10 ^ r.length + digitsVal r := by
  unfold digitsVal
  rw [List.foldl_append, dv_foldl]
theorem dv_cons (c : Nat) (r : List Nat) : digitsVal (c :: r) = (c - 48) * 10 ^ r.length + digitsVal r := by
  have := dv_app [c] r
  rw [List.singleton_append] at this
  rw [this]
  simp [digitsVal]
theorem dv_nil : digitsVal [] = 0 := rfl
theorem dv_one (c : Nat) : digitsVal [c] = c - 48 := by simp [digitsVal]
theorem dv_zeros (n : Nat) : digitsVal (List.replicate n 48) = 0 := by
  induction n with
  | zero => rfl
  | succ n ih => rw [List.replicate_succ, dv_cons, ih]; simp
theorem dv_lt {l : List Nat} (h : AllDigits l) : digitsVal l < 10 ^ l.length := by
  have := digitsVal_lt l h 0
  unfold digitsVal
  simpa using this
theorem dv_inj : ∀ {l r : List Nat}, AllDigits l → AllDigits r → l.length = r.length → digitsVal l = digitsVal r → l = r
  | [], [], _, _, _, _ => rfl
  | [], _ :: _, _, _, h, _ => by simp at h
  | _ :: _, [], _, _, h, _ => by simp at h
  | c :: l, d :: r, hl, hr, h, e => by
    have hn : l.length = r.length := by simpa using h
    rw [dv_cons, dv_cons, hn] at e
    have a := dv_lt hl.tail
    have b := dv_lt hr.tail
    rw [hn] at a
    have hc := hl.head
    have hd := hr.head
    have hcd : c - 48 = d - 48 := by
      rcases Nat.lt_trichotomy (c - 48) (d - 48) with q | q | q
      · have := Nat.mul_le_mul_right (10 ^ r.length) (show c - 48 + 1 ≤ d - 48 from q)
        rw [Nat.add_mul] at this; omega
      · exact q
      · have := Nat.mul_le_mul_right (10 ^ r.length) (show d - 48 + 1 ≤ c - 48 from q)
        rw [Nat.add_mul] at this; omega
    rw [hcd] at e
    have := dv_inj hl.tail hr.tail hn (by omega)
    rw [this, show c = d by omega]
theorem digS_inj {x y : Str} (hx : DigS x) (hy : DigS y) (hl : x.length = y.length) (hv : readV x = readV y) : x = y := by
  refine str_ext (dv_inj hx hy ?_ ?_)
  · rw [len_list, len_list]; exact hl
  · unfold readV at hv; exact_mod_cast hv
theorem read_app (x y : Str) : readV (x ++ y) = readV x * 10 ^ y.length + readV y := by
  unfold readV
  rw [app_list, dv_app, len_list]
  push_cast; rfl
theorem read_zeros (n : Int) : readV (Txt.mul (Str.ofString "0") n) = 0 := by
  unfold readV; rw [mul_list, dv_zeros]; rfl
theorem read_bound {x : Str} (h : DigS x) : readV x < 10 ^ x.length := readV_lt h (Nat.le_refl _)
theorem read_num {n : Int} (h : 0 ≤ n) : readV (Str.ofString (toString n)) = n := by
  obtain ⟨m, rfl⟩ := Int.eq_ofNat_of_zero_le h
  unfold readV
  rw [KIN.signs_num, KIN.val_back]
theorem num_hi {n : Int} (h : 0 ≤ n) : n < 10 ^ (Str.ofString (toString n)).length := by
  have := read_bound (digS_num n h)
  rwa [read_num h] at this
theorem num_lo {n : Int} (h : 1 ≤ n) : (10 : Int) ^ ((Str.ofString (toString n)).length - 1) ≤ n := by
  have p := txt_pos (n := n) (by omega)
  by_cases q : (Str.ofString (toString n)).length - 1 = 0
  · rw [q]; simpa using h
  · refine Int.not_lt.mp fun lt => ?_
    have := txt_len (k := (Str.ofString (toString n)).length - 1) (by omega) (by omega) lt
    omega
theorem pow_mono {a b : Nat} (h : a ≤ b) : (10 : Int) ^ a ≤ 10 ^ b := by
  have := Nat.pow_le_pow_right (n := 10) (by decide) h
  exact_mod_cast this
theorem pow_pos' (a : Nat) : (0 : Int) < 10 ^ a := Int.pow_pos (by decide)
theorem pow_lt_of {a b : Nat} (h : (10 : Int) ^ a < 10 ^ b) : a < b := by
  rcases Nat.lt_or_ge a b with q | q
  · exact q
  · have := pow_mono q; omega
theorem pow_uniq {V : Int} {a b : Nat} (ha : 1 ≤ a) (hb : 1 ≤ b) (h1 : (10 : Int) ^ (a - 1) ≤ V) (h2 : V < 10 ^ a) (h3 : (10 : Int) ^ (b - 1) ≤ V) (h4 : V < 10 ^ b) : a = b := by
  have x := pow_lt_of (Int.lt_of_le_of_lt h1 h4)
  have y := pow_lt_of (Int.lt_of_le_of_lt h3 h2)
  omega
theorem pow_add' (a b : Nat) : (10 : Int) ^ (a + b) = 10 ^ a * 10 ^ b := Int.pow_add 10 a b
theorem num_len {V : Int} {a : Nat} (ha : 1 ≤ a) (h1 : (10 : Int) ^ (a - 1) ≤ V) (h2 : V < 10 ^ a) : (Str.ofString (toString V)).length = a := by
  have p := pow_pos' (a - 1)
  have v : 1 ≤ V := by omega
  exact pow_uniq (txt_pos (by omega)) ha (num_lo v) (num_hi (by omega)) h1 h2
/- the rounding -/
theorem round_nat {k d e p : Nat} (hp : 0 < p) (hd : d ≤ 9) (he : e < p) : (2 * ((k * 10 + d) * p + e) + 10 * p) / (2 * (10 * p)) = if d < 5 then k else k + 1 := by
  have hk : (k * 10 + d) * p = 10 * (k * p) + d * p := by rw [Nat.add_mul, Nat.mul_comm k 10, Nat.mul_assoc]
  rw [hk]
  generalize hkp : k * p = kp
  have q : (2 * (10 * p)) * k = 20 * kp := by rw [← hkp, Nat.mul_comm]; rw [show k * (2 * (10 * p)) = 20 * (k * p) by rw [Nat.mul_left_comm]; rw [show 2 * (k * (10 * p)) = 2 * (10 * (k * p)) by rw [Nat.mul_left_comm k]]; omega]
  have dp : d * p ≤ 9 * p := Nat.mul_le_mul_right _ hd
  split
  · rename_i h5
    have d5 : d * p ≤ 4 * p := Nat.mul_le_mul_right _ (by omega)
    rw [Nat.div_eq_of_lt_le]
    · rw [Nat.mul_comm, q]; omega
    · rw [Nat.add_mul, Nat.mul_comm k, q]; omega
  · rename_i h5
    have d5 : 5 * p ≤ d * p := Nat.mul_le_mul_right _ (by omega)
    rw [Nat.div_eq_of_lt_le]
    · rw [Nat.add_mul, Nat.mul_comm k, q]; omega
    · rw [show (k + 1 + 1) * (2 * (10 * p)) = (2 * (10 * p)) * k + 2 * (2 * (10 * p)) by rw [Nat.add_mul, Nat.add_mul, Nat.mul_comm k]; omega, q]; omega
end

section
open PySem PySem.W PySem.NumText PyProof.Rows
set_option Elab.async false
theorem item_list {x : Str} {c : Int} {y : Nat} (h0 : 0 ≤ c) (h : x.cps.toList[c.toNat]? = some y) : (Txt.item x c).cps.toList = [y] := by
  have e : Txt.charAt x c = some y := by
    unfold Txt.charAt
    have hlt : c.toNat < x.cps.toList.length := (List.getElem?_eq_some_iff.mp h).1
    rw [len_list] at hlt
    have e : seqIndex? c x.length = some c.toNat := by
      unfold seqIndex?
      simp only [if_neg (show ¬ c < 0 by omega)]
      rw [if_pos (by simp; omega)]
    rw [e, Option.bind_some, ← h, Array.getElem?_toList]
  unfold Txt.item
  rw [e]
  rfl
theorem lt_five {y : Nat} : ([y] : List Nat) < (Str.ofString "5").cps.toList ↔ y < 53 := by
  rw [show (Str.ofString "5").cps.toList = [53] by decide]
  simp [List.cons_lt_cons_iff]
theorem cut_split (x : Str) (c : Int) (h0 : 0 ≤ c) (hx : DigS x) : ∃ K y R, (cutD x c).cps.toList = K ++ y :: R ∧ K.length = c.toNat ∧ (48 ≤ y ∧ y ≤ 57) ∧ AllDigits K ∧ AllDigits R ∧ R.length = (cutD x c).length - (c.toNat + 1) ∧
    (Txt.slice (cutD x c) none (some c)).cps.toList = K ∧ (Txt.item (cutD x c) c).cps.toList = [y] := by
  have hl := cutD_len x c
  have hd := cutD_dig c hx
  have hM : c.toNat < (cutD x c).cps.toList.length := by rw [len_list]; split at hl <;> omega
  have e := List.take_append_drop c.toNat (cutD x c).cps.toList
  rw [List.drop_eq_getElem_cons hM] at e
  refine ⟨_, _, _, e.symm, ?_, ?_, ?_, ?_, ?_, ?_, ?_⟩
  · rw [List.length_take]; omega
  · exact hd _ (List.getElem_mem hM)
  · exact fun d q => hd d (List.mem_of_mem_take q)
  · exact fun d q => hd d (List.mem_of_mem_drop q)
  · rw [List.length_drop, len_list]
  · refine slice_to h0 ?_
    rw [len_list] at hM; omega
  · exact item_list h0 (List.getElem?_eq_getElem hM)
theorem read_zero : readV (Str.ofString "0") = 0 := by decide
theorem read_slice {x : Str} {K : List Nat} (h : x.cps.toList = K) : readV x = ((digitsVal K : Nat) : Int) := by unfold readV; rw [h]
theorem ar_r {x c R : Nat} {q : Int} (h0 : 0 ≤ q) (hR : R = x - (q.toNat + 1)) (h : ¬ (x : Int) ≤ q) : (-(q - (x : Int))).toNat = R + 1 := by omega
theorem ar_p {x : Nat} {c : Int} (q : (x : Int) ≤ c) : (c + 1 - (x : Int)).toNat = (c - (x : Int)).toNat + 1 := by omega
theorem ar_p0 {x : Nat} {c : Int} (q : ¬ (x : Int) ≤ c) : (c + 1 - (x : Int)).toNat = 0 := by omega
theorem ar_q {Xp K d r : Nat} (hd : d ≤ 9) (hr : r < 10 ^ 0) (h : Xp * 10 = (K * 10 + d) * 10 ^ 0 + r) : Xp = K ∧ d = 0 := by simp at hr; omega
theorem ar_d {y : Nat} (hy : 48 ≤ y ∧ y ≤ 57) : y - 48 ≤ 9 ∧ (y < 53 → y - 48 < 5) ∧ (¬ y < 53 → ¬ y - 48 < 5) ∧ (y - 48 = 0 → y < 53) := by omega
theorem ar_ten {K p : Int} (h : K < p) (hp : 0 < p) : K + 1 < p * 10 := by omega
theorem ar_m1 {S C M : Nat} {c : Int} (h : (C : Int) = c) (hS : S ≤ C) (p : (M : Int) = if c - (S : Int) < 0 then 0 else c - (S : Int)) : M + S = C := by split at p <;> omega
theorem ar_m2 {S C M : Nat} {c : Int} (h : (C : Int) = c) (hS : S = C + 1) (p : (M : Int) = if c - (S : Int) < 0 then 0 else c - (S : Int)) : M + S = C + 1 := by split at p <;> omega
theorem cut_value {x : Str} {c : Int} (hx : DigS x) (h0 : 0 ≤ c) {K R : List Nat} {y : Nat} (hY : (cutD x c).cps.toList = K ++ y :: R) (hy : 48 ≤ y ∧ y ≤ 57) (dR : AllDigits R)
    (hR : R.length = (cutD x c).length - (c.toNat + 1)) (hK : K.length = c.toNat) :
    scaledV (readV x) (c - (x.length : Int)) = ((if y < 53 then digitsVal K else digitsVal K + 1 : Nat) : Int) := by
  have hl := cutD_len x c
  have rR := dv_lt dR
  have hV : digitsVal (cutD x c).cps.toList = (digitsVal K * 10 + (y - 48)) * 10 ^ R.length + digitsVal R := by
    rw [hY, dv_app, dv_cons, List.length_cons, Nat.pow_succ]
    rw [Nat.add_mul, Nat.mul_assoc, Nat.mul_comm (10 ^ R.length) 10]
    omega
  have hX : readV x = ((digitsVal x.cps.toList : Nat) : Int) := rfl
  rw [hX]
  generalize hxv : digitsVal x.cps.toList = Xv at *
  generalize digitsVal K = Kv at *
  by_cases q : (x.length : Int) ≤ c
  · have e0 : R.length = 0 := by rw [if_neg (by omega)] at hl; omega
    rw [e0] at hV rR
    have eY : digitsVal (cutD x c).cps.toList = Xv * 10 ^ ((c - (x.length : Int)).toNat) * 10 := by
      unfold cutD
      rw [app_list, mul_list, dv_app, dv_zeros, List.length_replicate, hxv, ar_p q, Nat.pow_succ]
      rw [Nat.mul_assoc]; omega
    rw [eY] at hV
    unfold scaledV
    rw [if_pos (Int.sub_nonneg.mpr q)]
    obtain ⟨e, e'⟩ := ar_q (ar_d hy).1 rR hV
    rw [if_pos ((ar_d hy).2.2.2 e'), ← e]
    push_cast; rfl
  · have eY : (cutD x c).cps.toList = x.cps.toList := by
      unfold cutD
      rw [app_list, mul_list, ar_p0 q]; simp
    rw [eY, hxv] at hV
    have hlen : (cutD x c).length = x.length := by rw [← len_list, ← len_list, eY]
    rw [hlen] at hR
    have e1 : (-(c - (x.length : Int))).toNat = R.length + 1 := ar_r (c := 0) h0 hR q
    unfold scaledV
    rw [if_neg (fun z => q (Int.sub_nonneg.mp z)), e1, Int.fdiv_eq_ediv_of_nonneg _ (Int.mul_nonneg (by decide) (Int.le_of_lt (pow_pos' _)))]
    have rn := round_nat (k := Kv) (d := y - 48) (e := digitsVal R) (p := 10 ^ R.length) (Nat.pow_pos (by decide)) (ar_d hy).1 rR
    rw [← hV] at rn
    have e2 : (10 : Int) ^ (R.length + 1) = ((10 * 10 ^ R.length : Nat) : Int) := by rw [Int.pow_succ]; push_cast; rw [Int.mul_comm]
    rw [e2]
    have e3 : (2 * (Xv : Int) + ((10 * 10 ^ R.length : Nat) : Int)) / (2 * ((10 * 10 ^ R.length : Nat) : Int)) = (((2 * Xv + 10 * 10 ^ R.length) / (2 * (10 * 10 ^ R.length)) : Nat) : Int) := by push_cast; rfl
    rw [e3, rn]
    congr 1
    by_cases h5 : y < 53
    · rw [if_pos h5, if_pos ((ar_d hy).2.1 h5)]
    · rw [if_neg h5, if_neg ((ar_d hy).2.2.1 h5)]
theorem cut_law {x : Str} {c : Int} (hx : DigS x) (h0 : 0 ≤ c) :
    DigS (cutV x c) ∧ readV (cutV x c) = scaledV (readV x) (c - (x.length : Int)) ∧ readV (cutV x c) ≤ 10 ^ c.toNat ∧ (cutV x c).length = if readV (cutV x c) < 10 ^ c.toNat then c.toNat else c.toNat + 1 := by
  obtain ⟨K, y, R, hY, hK, hy, dK, dR, hR, hs, hi⟩ := cut_split x c h0 hx
  have val := cut_value hx h0 hY hy dR hR hK
  have kb := dv_lt dK
  rw [hK] at kb
  have kb' : ((digitsVal K : Nat) : Int) < 10 ^ c.toNat := by exact_mod_cast kb
  rw [val]
  have hN : cutN x c = ((digitsVal K : Nat) : Int) := by
    unfold cutN
    rw [read_app, read_zero, read_slice hs]; simp
  have hcut : cutV x c = if y < 53 then Txt.slice (cutD x c) none (some c) else Txt.mul (Str.ofString "0") (c - ((Str.ofString (toString (cutN x c + 1))).length : Int)) ++ Str.ofString (toString (cutN x c + 1)) := by
    unfold cutV
    have e : (Txt.item (x ++ Txt.mul (Str.ofString "0") (c + 1 - (x.length : Int))) c).cps.toList = [y] := hi
    rw [e]
    by_cases h5 : y < 53
    · rw [if_pos (lt_five.mpr h5), if_pos h5]; rfl
    · rw [if_neg (fun q => h5 (lt_five.mp q)), if_neg h5]
  rw [hcut]
  by_cases h5 : y < 53
  · rw [if_pos h5, if_pos h5]
    have r := read_slice hs
    refine ⟨by intro d q; rw [hs] at q; exact dK d q, r, by rw [r]; exact Int.le_of_lt kb', ?_⟩
    rw [r, if_pos kb', ← len_list, hs, hK]
  · rw [if_neg h5, if_neg h5, hN]
    have k1 : 0 ≤ ((digitsVal K : Nat) : Int) + 1 := Int.add_nonneg (Int.natCast_nonneg _) (by decide)
    have cc : ((c.toNat : Nat) : Int) = c := Int.toNat_of_nonneg h0
    have r : readV (Txt.mul (Str.ofString "0") (c - ((Str.ofString (toString (((digitsVal K : Nat) : Int) + 1))).length : Int)) ++ Str.ofString (toString (((digitsVal K : Nat) : Int) + 1))) = ((digitsVal K : Nat) : Int) + 1 := by
      rw [read_app, read_zeros, read_num k1]; simp
    refine ⟨(digS_mul _).app (digS_num _ k1), by rw [r]; push_cast; rfl, by rw [r]; exact kb', ?_⟩
    rw [r, len_app]
    have p := len_one "0" (by decide) (c - ((Str.ofString (toString (((digitsVal K : Nat) : Int) + 1))).length : Int))
    by_cases q : ((digitsVal K : Nat) : Int) + 1 < 10 ^ c.toNat
    · rw [if_pos q]
      have c1 : 0 < c.toNat := by
        rcases Nat.eq_zero_or_pos c.toNat with z | z
        · rw [z, Int.pow_zero] at q; exact absurd q (Int.not_lt.mpr (Int.le_add_of_nonneg_left (Int.natCast_nonneg _)))
        · exact z
      exact ar_m1 cc (txt_len c1 k1 q) p
    · rw [if_neg q]
      have ten : (10 : Int) ^ (c.toNat + 1) = 10 ^ c.toNat * 10 := Int.pow_succ ..
      have := num_len (V := ((digitsVal K : Nat) : Int) + 1) (a := c.toNat + 1) (Nat.le_add_left 1 _) (by rw [Nat.add_sub_cancel]; exact Int.not_lt.mp q) (by rw [ten]; exact ar_ten kb' (pow_pos' _))
      exact ar_m2 cc this p
end

section
open PySem PySem.W PySem.NumText PyProof.Rows
set_option Elab.async false
theorem dv_drop (l : List Nat) : digitsVal (l.dropWhile (fun c => c == 48)) = digitsVal l := by
  induction l with
  | nil => rfl
  | cons c r ih =>
    rw [List.dropWhile_cons]
    by_cases h : c = 48
    · subst h
      rw [if_pos (by decide), ih, dv_cons]; simp
    · rw [if_neg (by simpa using h)]
theorem dv_low {l : List Nat} (h : AllDigits l) (hn : l.dropWhile (fun c => c == 48) ≠ []) :
    10 ^ ((l.dropWhile (fun c => c == 48)).length - 1) ≤ digitsVal (l.dropWhile (fun c => c == 48)) := by
  have hh := List.head_dropWhile_not (fun c : Nat => c == 48) hn
  have hd := h _ ((List.dropWhile_sublist _).subset (List.head_mem hn))
  revert hh hd
  generalize l.dropWhile (fun c => c == 48) = r at *
  match r, hn with
  | c :: r, _ =>
    intro hh hd
    simp only [List.head_cons] at hh hd
    have c1 : c ≠ 48 := by simpa using hh
    rw [dv_cons, List.length_cons, Nat.add_sub_cancel]
    have : 1 * 10 ^ r.length ≤ (c - 48) * 10 ^ r.length := Nat.mul_le_mul_right _ (by omega)
    omega
theorem lstrip_law {x : Str} (h : DigS x) : DigS (Txt.lstripChars x (Str.ofString "0")) ∧ readV (Txt.lstripChars x (Str.ofString "0")) = readV x ∧
    ((Txt.lstripChars x (Str.ofString "0")).length = 0 ∨ (10 : Int) ^ ((Txt.lstripChars x (Str.ofString "0")).length - 1) ≤ readV (Txt.lstripChars x (Str.ofString "0"))) := by
  refine ⟨digS_lstrip h, ?_, ?_⟩
  · unfold readV; rw [lstrip_list, dv_drop]
  · rw [← len_list]
    unfold readV
    rw [lstrip_list]
    by_cases q : x.cps.toList.dropWhile (fun c => c == 48) = []
    · exact .inl (by rw [q]; rfl)
    · have := dv_low h q
      exact .inr (by exact_mod_cast this)
theorem read_cut {x : Str} {j : Int} (h0 : 0 ≤ j) (h1 : j ≤ x.length) : readV (Txt.slice x none (some j)) * 10 ^ (x.length - j.toNat) + readV (Txt.slice x (some j) none) = readV x ∧ (Txt.slice x (some j) none).length = x.length - j.toNat := by
  have l : (Txt.slice x (some j) none).length = x.length - j.toNat := by rw [← len_list, slice_from h0 h1, List.length_drop, len_list]
  refine ⟨?_, l⟩
  rw [← l, ← read_app]
  congr 1
  refine str_ext ?_
  rw [app_list, slice_to h0 h1, slice_from h0 h1, List.take_append_drop]
theorem read_none : readV (Str.ofString "") = 0 := by decide
theorem none_list : (Str.ofString "").cps.toList = [] := by decide
theorem digS_none : DigS (Str.ofString "") := by intro c hc; rw [none_list] at hc; cases hc
/- what _law_spread gives -/
theorem spread_law {n k : Int} (h : 0 ≤ n) : DigS (spreadV n k).1 ∧ DigS (spreadV n k).2 ∧ (spreadV n k).2.length = (-k).toNat ∧
    readV (spreadV n k).1 * 10 ^ (-k).toNat + readV (spreadV n k).2 = n * 10 ^ k.toNat ∧
    ((spreadV n k).1.length = 0 ∨ (10 : Int) ^ ((spreadV n k).1.length - 1) ≤ readV (spreadV n k).1) := by
  unfold spreadV
  by_cases hk : 0 ≤ k
  · rw [if_pos hk]
    have d : DigS (Str.ofString (toString n) ++ Txt.mul (Str.ofString "0") k) := (digS_num n h).app (digS_mul k)
    obtain ⟨a, b, c⟩ := lstrip_law d
    refine ⟨a, digS_none, by rw [show (-k).toNat = 0 by omega]; exact lens.1, ?_, c⟩
    have ml : (Txt.mul (Str.ofString "0") k).length = k.toNat := by rw [← len_list, mul_list, List.length_replicate]
    show readV (Txt.lstripChars _ _) * _ + readV (Str.ofString "") = _
    rw [b, read_app, read_num h, read_zeros, read_none, ml, show (-k).toNat = 0 by omega]
    simp
  · rw [if_neg hk]
    have d : DigS (padV n k) := (digS_mul _).app (digS_num n h)
    have pl : ((padV n k).length : Int) = (if -k - ((Str.ofString (toString n)).length : Int) < 0 then 0 else -k - ((Str.ofString (toString n)).length : Int)) + ((Str.ofString (toString n)).length : Int) := by
      unfold padV; rw [len_app]; push_cast; rw [len_one "0" (by decide)]
    have pv : readV (padV n k) = n := by unfold padV; rw [read_app, read_zeros, read_num h]; simp
    have j0 : 0 ≤ ((padV n k).length : Int) + k := by rw [pl]; split <;> omega
    have j1 : ((padV n k).length : Int) + k ≤ (padV n k).length := by omega
    obtain ⟨e1, e2⟩ := read_cut j0 j1
    have ex : (padV n k).length - (((padV n k).length : Int) + k).toNat = (-k).toNat := by omega
    rw [ex] at e1 e2
    obtain ⟨a, b, c⟩ := lstrip_law (digS_slice d none (some (((padV n k).length : Int) + k)))
    refine ⟨a, digS_slice d _ _, e2, ?_, c⟩
    show readV (Txt.lstripChars _ _) * _ + readV (Txt.slice _ _ _) = _
    rw [b, e1, pv, show k.toNat = 0 by omega]; simp
theorem read_pos_len {x : Str} (h : DigS x) (hv : 1 ≤ readV x) : 1 ≤ x.length := by
  have := read_bound h
  rcases Nat.eq_zero_or_pos x.length with z | z
  · rw [z] at this; simp at this; omega
  · exact z
/- small arithmetic, said once -/
theorem ar_n0 {k : Int} (h : 0 ≤ k) : (-k).toNat = 0 := Int.toNat_of_nonpos (Int.neg_nonpos_of_nonneg h)
theorem ar_k0 {k : Int} (h : ¬ 0 ≤ k) : k.toNat = 0 := Int.toNat_of_nonpos (Int.le_of_lt (Int.not_le.mp h))
theorem ar_split {S : Nat} {k : Int} (hk : k ≤ 0) (q : 0 ≤ (S : Int) + k) : S = ((S : Int) + k).toNat + (-k).toNat := by
  refine Int.ofNat_inj.mp ?_
  rw [Int.natCast_add, Int.toNat_of_nonneg q, Int.toNat_of_nonneg (Int.neg_nonneg_of_nonpos hk), Int.add_neg_cancel_right]
theorem ar_one {n : Int} (h : 0 ≤ n) (hn : ¬ n = 0) : 1 ≤ n := by omega
theorem ar_b0 {B : Int} (h : B < 10 ^ 0) (h0 : 0 ≤ B) : B = 0 := by simp at h; omega
theorem ar_pos {S : Nat} {k : Int} (q : ¬ (S : Int) + k ≤ 0) : 1 ≤ ((S : Int) + k).toNat := by omega
theorem ar_up {A B n p X : Int} (h : (A + 1) * p ≤ X) (lo : X ≤ n) (d : A * p + B = n) (rb : B < p) : False := by rw [Int.add_mul, Int.one_mul] at h; omega
theorem ar_dn {A B n p Y : Int} (h : Y ≤ A * p) (hi : n < Y) (d : A * p + B = n) (rm : 0 ≤ B) : False := by omega
theorem ar_z {A B p n X : Int} (q : 0 < A) (pk : 0 < p) (d : A * p + B = n) (rm : 0 ≤ B) (hi : n < X) (hX : X ≤ p) : False := by
  have : 1 * p ≤ A * p := Int.mul_le_mul_of_nonneg_right q (Int.le_of_lt pk)
  omega
theorem ar_lt {S : Nat} {k : Int} (q : (S : Int) + k ≤ 0) : S ≤ (-k).toNat := by omega
theorem ar_end {S l : Nat} {k : Int} (hk : 0 ≤ (S : Int) + k) (h : l = ((S : Int) + k).toNat) : (l : Int) = S + k := by rw [h, Int.toNat_of_nonneg hk]
theorem ar_sk {S : Nat} {k : Int} (hk : 0 ≤ k) : ¬ (S : Int) + k < 0 := by omega
theorem ar_le {S : Nat} {k : Int} (q : (S : Int) + k ≤ 0) : (0 : Int) = if (S : Int) + k < 0 then 0 else (S : Int) + k := by split <;> omega
/- the length of the whole part -/
theorem spread_len {n k : Int} (h : 0 ≤ n) : ((spreadV n k).1.length : Int) = if n = 0 then 0 else if ((Str.ofString (toString n)).length : Int) + k < 0 then 0 else ((Str.ofString (toString n)).length : Int) + k := by
  obtain ⟨a, b, c, d, e⟩ := spread_law (k := k) h
  have rb := read_bound b
  rw [c] at rb
  have rn := readV_nonneg (spreadV n k).1
  have rm := readV_nonneg (spreadV n k).2
  have wb := read_bound a
  have pk := pow_pos' (-k).toNat
  have zero : readV (spreadV n k).1 = 0 → (spreadV n k).1.length = 0 := fun z => e.elim id fun e => absurd (z ▸ e) (Int.not_le.mpr (pow_pos' _))
  have lp : 1 ≤ readV (spreadV n k).1 → 1 ≤ (spreadV n k).1.length := read_pos_len a
  generalize readV (spreadV n k).1 = A at *
  generalize readV (spreadV n k).2 = B at *
  generalize (spreadV n k).1.length = l at *
  by_cases hn : n = 0
  · rw [if_pos hn]
    subst hn
    rw [Int.zero_mul] at d
    have A0 : A = 0 := Int.le_antisymm (Int.not_lt.mp fun q => ar_z q pk d rm pk (Int.le_refl _)) rn
    rw [zero A0]; rfl
  · rw [if_neg hn]
    have n1 : 1 ≤ n := ar_one h hn
    have hi := num_hi h
    have lo := num_lo n1
    have sp := txt_pos h
    generalize (Str.ofString (toString n)).length = S at *
    have key : ∀ M : Nat, 1 ≤ M → (10 : Int) ^ (M - 1) ≤ A → A < 10 ^ M → l = M := by
      intro M hM l1 l2
      have l3 : 1 ≤ l := lp (Int.lt_of_lt_of_le (pow_pos' (M - 1)) l1)
      exact e.elim (fun e => absurd l3 (by rw [e]; decide)) fun e => pow_uniq l3 hM e wb l1 l2
    by_cases hk : 0 ≤ k
    · rw [if_neg (ar_sk hk)]
      rw [ar_n0 hk] at d rb
      have B0 : B = 0 := ar_b0 rb rm
      rw [B0, Int.add_zero, Int.pow_zero, Int.mul_one] at d
      have A1 := d
      have := key (S + k.toNat) (Nat.le_trans sp (Nat.le_add_right _ _)) (by
        rw [A1, Nat.sub_add_comm sp, pow_add']
        exact Int.mul_le_mul_of_nonneg_right lo (Int.le_of_lt (pow_pos' _))) (by
        rw [A1, pow_add']; exact Int.mul_lt_mul_of_pos_right hi (pow_pos' _))
      rw [this, Int.natCast_add, Int.toNat_of_nonneg hk]
    · rw [ar_k0 hk, Int.pow_zero, Int.mul_one] at d
      have hk' : k ≤ 0 := Int.le_of_lt (Int.not_le.mp hk)
      by_cases q : (S : Int) + k ≤ 0
      · have A0 : A = 0 := Int.le_antisymm (Int.not_lt.mp fun p => ar_z p pk d rm hi (pow_mono (ar_lt q))) rn
        rw [zero A0]; exact ar_le q
      · have q' : 0 ≤ (S : Int) + k := Int.le_of_lt (Int.not_le.mp q)
        rw [if_neg (Int.not_lt.mpr q')]
        have sp' := ar_split hk' q'
        have p1 := ar_pos q
        refine ar_end q' (key ((S : Int) + k).toNat p1 (Int.not_lt.mp fun lt => ?_) (Int.not_le.mp fun le => ?_))
        · have e' : (10 : Int) ^ (S - 1) = 10 ^ (((S : Int) + k).toNat - 1) * 10 ^ (-k).toNat := by rw [← pow_add', ← Nat.sub_add_comm p1, ← sp']
          rw [e'] at lo
          exact ar_up (Int.mul_le_mul_of_nonneg_right lt (Int.le_of_lt pk)) lo d rb
        · have e' : (10 : Int) ^ S = 10 ^ ((S : Int) + k).toNat * 10 ^ (-k).toNat := by rw [← pow_add', ← sp']
          rw [e'] at hi
          exact ar_dn (Int.mul_le_mul_of_nonneg_right le (Int.le_of_lt pk)) hi d rm
end

section
open PySem PySem.W PySem.NumText PyProof.Rows
set_option Elab.async false
theorem app_none (x : Str) : x ++ Str.ofString "" = x := str_ext (by rw [app_list, none_list, List.append_nil])
theorem app_assoc (x y z : Str) : x ++ y ++ z = x ++ (y ++ z) := str_ext (by rw [app_list, app_list, app_list, app_list, List.append_assoc])
theorem is_none {x : Str} : (x == Str.ofString "") = true ↔ x.length = 0 := by
  rw [beq_iff_eq]
  constructor
  · intro h; rw [h]; exact lens.1
  · intro h; refine str_ext ?_
    rw [none_list]; exact List.eq_nil_of_length_eq_zero (by rw [len_list]; exact h)
theorem dv_zero {l : List Nat} (h : AllDigits l) : digitsVal l = 0 ↔ ∀ c ∈ l, c = 48 := by
  induction l with
  | nil => simp [digitsVal]
  | cons c r ih =>
    rw [dv_cons]
    have p : 0 < 10 ^ r.length := Nat.pow_pos (by decide)
    have hc := h.head
    constructor
    · intro e
      have e1 : digitsVal r = 0 := by omega
      have e2 : c - 48 = 0 := by
        rcases Nat.eq_zero_or_pos (c - 48) with z | z
        · exact z
        · have := Nat.mul_pos z p; omega
      intro d hd
      rcases List.mem_cons.mp hd with rfl | hd
      · omega
      · exact (ih h.tail).mp e1 d hd
    · intro e
      rw [(ih h.tail).mpr fun d hd => e d (.tail _ hd), e c (.head _)]; simp
theorem strip_read {x : Str} (h : DigS x) : (Txt.stripChars x (Str.ofString "0") == Str.ofString "") = true ↔ readV x = 0 := by
  rw [strip_empty, ← dv_zero h]
  unfold readV
  omega
theorem ar_c {c : Int} {M : Nat} (q : 0 ≤ c - (M : Int)) : c.toNat = M + (c - (M : Int)).toNat := by
  refine Int.ofNat_inj.mp ?_
  rw [Int.natCast_add, Int.toNat_of_nonneg q, Int.toNat_of_nonneg (Int.le_trans (Int.natCast_nonneg M) (Int.sub_nonneg.mp q)), Int.add_comm, Int.sub_add_cancel]
theorem ar_c2 {c : Int} {M : Nat} (h : 0 ≤ c) (q : ¬ 0 ≤ c - (M : Int)) : M = c.toNat + (-(c - (M : Int))).toNat := by
  refine Int.ofNat_inj.mp ?_
  rw [Int.natCast_add, Int.toNat_of_nonneg h, Int.toNat_of_nonneg (Int.neg_nonneg_of_nonpos (Int.le_of_lt (Int.not_le.mp q))), Int.neg_sub, Int.add_comm, Int.sub_add_cancel]
theorem ar_c1 {c : Int} (h : 1 ≤ c) : 1 ≤ c.toNat := by omega
theorem scaled_low {V c : Int} {M : Nat} (hM : 1 ≤ M) (hV : (10 : Int) ^ (M - 1) ≤ V) (hc : 1 ≤ c) : (10 : Int) ^ (c.toNat - 1) ≤ scaledV V (c - (M : Int)) := by
  unfold scaledV
  by_cases q : 0 ≤ c - (M : Int)
  · rw [if_pos q]
    have e : (10 : Int) ^ (c.toNat - 1) = 10 ^ (M - 1) * 10 ^ (c - (M : Int)).toNat := by rw [← pow_add', ← Nat.sub_add_comm hM, ← ar_c q]
    rw [e]
    exact Int.mul_le_mul_of_nonneg_right hV (Int.le_of_lt (pow_pos' _))
  · rw [if_neg q]
    have e : (10 : Int) ^ (M - 1) = 10 ^ (c.toNat - 1) * 10 ^ (-(c - (M : Int))).toNat := by rw [← pow_add', ← Nat.sub_add_comm (ar_c1 hc), ← ar_c2 (Int.le_of_lt hc) q]
    rw [e] at hV
    have p := pow_pos' (-(c - (M : Int))).toNat
    generalize (10 : Int) ^ (-(c - (M : Int))).toNat = u at *
    generalize (10 : Int) ^ (c.toNat - 1) = A at *
    rw [Int.fdiv_eq_ediv_of_nonneg _ (by omega), Int.le_ediv_iff_mul_le (by omega)]
    rw [show A * (2 * u) = 2 * (A * u) by rw [Int.mul_left_comm]]
    omega
theorem scaled_up {n k m : Int} (hk : 0 ≤ k) (hm : 0 ≤ m) : scaledV (n * 10 ^ k.toNat) m = scaledV n (k + m) := by
  unfold scaledV
  rw [if_pos hm, if_pos (Int.add_nonneg hk hm), Int.mul_assoc, ← pow_add', Int.toNat_add hk hm]
theorem digs_law {N pl : Int} (h : 0 ≤ N) (hp : 0 ≤ pl) : DigS (digsV N pl) ∧ readV (digsV N pl) = N ∧ ((digsV N pl).length : Int) = if N = 0 then pl else if pl ≤ ((Str.ofString (toString N)).length : Int) then ((Str.ofString (toString N)).length : Int) else pl := by
  unfold digsV
  have p := len_one "0" (by decide)
  by_cases q : N = 0
  · subst q
    rw [if_pos rfl, if_pos rfl, app_none]
    refine ⟨digS_mul _, read_zeros _, ?_⟩
    have := p (pl - ((0 : Nat) : Int))
    rw [this]; split <;> omega
  · rw [if_neg q, if_neg q]
    refine ⟨(digS_mul _).app (digS_num _ h), by rw [read_app, read_zeros, read_num h]; simp, ?_⟩
    rw [len_app]; push_cast
    rw [p]
    split <;> split <;> omega
theorem ar_t0 {l : Nat} {pl k : Int} (q : 0 ≤ k) : (l : Int) + pl - ((l + (-k).toNat : Nat) : Int) = pl := by rw [ar_n0 q, Nat.add_zero, Int.add_comm, Int.add_sub_cancel]
theorem ar_t1 {l : Nat} {pl k : Int} (q : ¬ 0 ≤ k) : (l : Int) + pl - ((l + (-k).toNat : Nat) : Int) = k + pl := by omega
theorem ar_1 {l : Nat} {pl : Int} (w : 1 ≤ l) (hp : 0 ≤ pl) : 1 ≤ (l : Int) + pl := by omega
/- the digits told -/
theorem told_law {v0 k pl : Int} (hp : 0 ≤ pl) : toldV v0 k pl = digsV (scaledV (absV v0) (k + pl)) pl ∧ DigS (toldV v0 k pl) ∧ readV (toldV v0 k pl) = scaledV (absV v0) (k + pl) := by
  have h := absV_nonneg v0
  obtain ⟨a, b, c, d, e⟩ := spread_law (k := k) h
  unfold toldV
  generalize absV v0 = n at *
  have rb := read_bound b
  have rb0 := readV_nonneg (spreadV n k).2
  have hX : DigS ((spreadV n k).1 ++ (spreadV n k).2) := a.app b
  have hXl : ((spreadV n k).1 ++ (spreadV n k).2).length = (spreadV n k).1.length + (-k).toNat := by rw [len_app, c]
  have hXv : readV ((spreadV n k).1 ++ (spreadV n k).2) = n * 10 ^ k.toNat := by rw [read_app, c, d]
  have low : 1 ≤ (spreadV n k).1.length → (10 : Int) ^ ((spreadV n k).1.length + (-k).toNat - 1) ≤ n * 10 ^ k.toNat := by
    intro w
    rcases e with e | e
    · exact absurd w (by rw [e]; decide)
    · rw [← d, Nat.sub_add_comm w, pow_add']
      exact Int.le_trans (Int.mul_le_mul_of_nonneg_right e (Int.le_of_lt (pow_pos' _))) (Int.le_add_of_nonneg_right rb0)
  have hc : 0 ≤ ((spreadV n k).1.length : Int) + pl := Int.add_nonneg (Int.natCast_nonneg _) hp
  obtain ⟨t1, t2, t3, t4⟩ := cut_law hX hc
  have hN : scaledV (readV ((spreadV n k).1 ++ (spreadV n k).2)) (((spreadV n k).1.length : Int) + pl - (((spreadV n k).1 ++ (spreadV n k).2).length : Int)) = scaledV n (k + pl) := by
    rw [hXv, hXl]
    by_cases q : 0 ≤ k
    · rw [ar_t0 q]
      exact scaled_up q hp
    · rw [ar_k0 q, ar_t1 q, Int.pow_zero, Int.mul_one]
  have lo2 : 1 ≤ (spreadV n k).1.length → (10 : Int) ^ ((((spreadV n k).1.length : Int) + pl).toNat - 1) ≤ scaledV n (k + pl) := by
    intro w
    rw [← hN, hXl, hXv]
    exact scaled_low (Nat.le_trans w (Nat.le_add_right _ _)) (low w) (ar_1 w hp)
  rw [hN] at t2
  have nn : 0 ≤ scaledV n (k + pl) := scaledV_nonneg h
  obtain ⟨g1, g2, g3⟩ := digs_law nn hp
  refine ⟨digS_inj t1 g1 ?_ (by rw [t2, g2]), t1, t2⟩
  rw [t2] at t3 t4
  generalize scaledV n (k + pl) = N at *
  generalize (spreadV n k).1.length = lw at *
  generalize cutV ((spreadV n k).1 ++ (spreadV n k).2) ((lw : Int) + pl) = Z at *
  have hcN : (((lw : Int) + pl).toNat : Int) = (lw : Int) + pl := Int.toNat_of_nonneg hc
  clear hXl hX hXv low hN d e b a rb rb0 c hc
  generalize ((lw : Int) + pl).toNat = C at *
  by_cases q : N = 0
  · subst q
    rw [if_pos (pow_pos' _)] at t4
    rw [if_pos rfl] at g3
    have : ¬ 1 ≤ lw := fun w => by have := lo2 w; have := pow_pos' (C - 1); omega
    omega
  · rw [if_neg q] at g3
    have n1 : 1 ≤ N := ar_one nn q
    have sp := txt_pos nn
    by_cases w : 1 ≤ lw
    · have l2 := lo2 w
      have : (Str.ofString (toString N)).length = if N < 10 ^ C then C else C + 1 := by
        by_cases u : N < 10 ^ C
        · rw [if_pos u]; exact num_len (by omega) l2 u
        · rw [if_neg u]
          have ten : (10 : Int) ^ (C + 1) = 10 ^ C * 10 := Int.pow_succ ..
          exact num_len (by omega) (by rw [Nat.add_sub_cancel]; omega) (by have := pow_pos' C; omega)
      split at this <;> split at t4 <;> split at g3 <;> omega
    · by_cases u : N < 10 ^ C
      · rw [if_pos u] at t4
        have c0 : 0 < C := by
          rcases Nat.eq_zero_or_pos C with z | z
          · rw [z] at u; simp at u; omega
          · exact z
        have := txt_len c0 nn u
        split at g3 <;> omega
      · rw [if_neg u] at t4
        have ten : (10 : Int) ^ (C + 1) = 10 ^ C * 10 := Int.pow_succ ..
        have := num_len (V := N) (a := C + 1) (by omega) (by rw [Nat.add_sub_cancel]; omega) (by have := pow_pos' C; omega)
        split at g3 <;> omega
theorem field_law (x : Str) (n : Int) : fieldV x n = lfield1 x n := by
  unfold fieldV lfield1
  by_cases q : n < (x.length : Int)
  · rw [if_pos q, if_neg (by omega)]
  · rw [if_neg q, if_pos (by omega)]
theorem point_law (sg wh rs : Str) (n : Int) : pointV sg wh rs n = if (wh == Str.ofString "") = true then
    if (rs == Str.ofString "") = true then lfield1 (sg ++ Str.ofString "0" ++ Str.ofString "." ++ rs) n else lfield2 (sg ++ Str.ofString "0." ++ rs) (sg ++ Str.ofString "." ++ rs) n
    else lfield1 (sg ++ wh ++ Str.ofString "." ++ rs) n := by
  unfold pointV
  by_cases q : (wh == Str.ofString "") = true
  · rw [if_pos q, if_pos q, beq_iff_eq.mp q, app_none]
    split
    · exact field_law _ _
    · unfold lfield2
      split
      · rw [field_law]; unfold lfield1; rw [if_pos (by assumption)]
      · exact field_law _ _
  · rw [if_neg q, if_neg q]; exact field_law _ _
theorem fixed_law {i j wd pl sc : Int} {b : Bool} (h : 0 ≤ pl) : fixedV i j wd pl sc b = lfixedV i (j + sc) wd pl b := by
  obtain ⟨t1, t2, t3⟩ := told_law (v0 := i) (k := j + sc) h
  have sg : lsgV i (j + sc) pl b = if i < 0 then signV (decide (0 < scaledV (absV i) (j + sc + pl))) b else signV (decide (i < 0)) b := by
    unfold lsgV
    split
    · congr 1
      have nn : 0 ≤ scaledV (absV i) (j + sc + pl) := scaledV_nonneg (absV_nonneg i)
      have sr := strip_read t2
      rw [t3] at sr
      by_cases q : scaledV (absV i) (j + sc + pl) = 0
      · rw [sr.mpr q, q]; rfl
      · have : (Txt.stripChars (toldV i (j + sc) pl) (Str.ofString "0") == Str.ofString "") = false := by
          rw [← Bool.not_eq_true]; exact fun z => q (sr.mp z)
        rw [this, decide_eq_true (by omega)]; rfl
    · rfl
  unfold fixedV lfixedV aheadV behindV
  rw [point_law, sg, t1]
theorem num_not {n : Int} : absV n = 0 ↔ n = 0 := by unfold absV; split <;> omega
theorem slice_all {x : Str} {c : Int} (h : (x.length : Int) = c) : Txt.slice x none (some c) = x := by
  refine str_ext ?_
  rw [slice_to (by omega) (by omega)]
  exact List.take_of_length_le (by rw [len_list]; omega)
theorem slice_len {x : Str} {c : Int} (h : 0 ≤ c) (h1 : c ≤ x.length) : ((Txt.slice x none (some c)).length : Int) = c := by
  rw [← len_list, slice_to h h1, List.length_take, len_list]; omega
theorem lead_law {v0 v1 c : Int} (hc : 1 ≤ c) : leadV v0 v1 c = lleadV v0 v1 c ∧ ((lleadV v0 v1 c).1.length : Int) = c := by
  unfold leadV lleadV
  by_cases q : v0 = 0
  · rw [if_pos (num_not.mpr q), if_pos q]
    exact ⟨rfl, by show ((Txt.mul _ _).length : Int) = c; rw [len_one "0" (by decide), if_neg (by omega)]⟩
  · rw [if_neg (fun z => q (num_not.mp z)), if_neg q]
    have h := absV_nonneg v0
    have n1 : 1 ≤ absV v0 := by have := num_not (n := v0); omega
    generalize absV v0 = n at *
    have d := digS_num n h
    obtain ⟨t1, t2, t3, t4⟩ := cut_law d (show 0 ≤ c by omega)
    rw [read_num h] at t2
    have lo := scaled_low (V := n) (c := c) (txt_pos h) (num_lo n1) hc
    have nn : 0 ≤ scaledV n (c - ((Str.ofString (toString n)).length : Int)) := scaledV_nonneg h
    rw [t2] at t3 t4
    have sl : (Str.ofString (toString (scaledV n (c - ((Str.ofString (toString n)).length : Int))))).length = if scaledV n (c - ((Str.ofString (toString n)).length : Int)) < 10 ^ c.toNat then c.toNat else c.toNat + 1 := by
      by_cases u : scaledV n (c - ((Str.ofString (toString n)).length : Int)) < 10 ^ c.toNat
      · rw [if_pos u]; exact num_len (by omega) lo u
      · rw [if_neg u]
        have ten : (10 : Int) ^ (c.toNat + 1) = 10 ^ c.toNat * 10 := Int.pow_succ ..
        exact num_len (by omega) (by rw [Nat.add_sub_cancel]; omega) (by have := pow_pos' c.toNat; omega)
    have e : cutV (Str.ofString (toString n)) c = Str.ofString (toString (scaledV n (c - ((Str.ofString (toString n)).length : Int)))) :=
      digS_inj t1 (digS_num _ nn) (by rw [t4, sl]) (by rw [t2, read_num nn])
    rw [e]
    generalize scaledV n (c - ((Str.ofString (toString n)).length : Int)) = N at *
    by_cases u : N < 10 ^ c.toNat
    · rw [if_pos u] at sl
      have sz : ((Str.ofString (toString N)).length : Int) = c := by omega
      rw [if_neg (by omega), slice_all sz]
      refine ⟨?_, sz⟩
      congr 1; omega
    · rw [if_neg u] at sl
      rw [if_pos (by omega)]
      refine ⟨?_, slice_len (by omega) (by omega)⟩
      congr 1; omega
theorem exp_law {l : Str} {i j wd pl sc : Int} {sz : Option Int} {b : Bool} (h : 0 ≤ pl) (r1 : -pl < sc) (r2 : sc ≤ pl + 1) : expV l i j wd pl sz sc b = lexpV l i j wd pl sz sc b := by
  have ce : countV pl sc = lcountV pl sc := by unfold countV lcountV; split <;> split <;> omega
  have c1 : 1 ≤ lcountV pl sc := by unfold lcountV; split <;> omega
  obtain ⟨le, ll⟩ := lead_law (v0 := i) (v1 := j) c1
  have pe : powV i j pl sc = lpowV i j pl sc := by
    unfold powV lpowV
    rw [ce, le]
    by_cases q : i = 0
    · rw [if_pos q, if_pos q]; unfold lleadV; rw [if_pos q]
    · rw [if_neg q, if_neg q]
  unfold expV lexpV
  rw [ce, le, pe]
  have scl : sc ≤ lcountV pl sc := by unfold lcountV; split <;> omega
  generalize (lleadV i j (lcountV pl sc)).1 = d at *
  cases expoV l (lpowV i j pl sc) sz with
  | none => rfl
  | some tail =>
    unfold expT lexpT
    by_cases q : sc ≤ 0
    · dsimp only
      rw [if_pos q, if_neg (by omega), point_law, if_pos (by decide), if_neg]
      · congr 1
        · rw [show Str.ofString "0." = Str.ofString "0" ++ Str.ofString "." by decide]
          simp only [app_assoc]
        · simp only [app_assoc]
      · rw [is_none, len_app, len_app]; omega
    · dsimp only
      rw [if_neg q, if_pos (by omega), point_law, if_neg]
      · simp only [app_assoc]
      · rw [is_none]
        have := slice_len (x := d) (c := sc) (by omega) (by omega)
        omega
theorem first_law {x : Str} (h : DigS x) (h1 : 1 ≤ x.length) : Txt.slice x none (some 1) = Str.ofString "0" ↔ readV x < 10 ^ (x.length - 1) := by
  have e := slice_to (x := x) (j := 1) (by decide) (by omega)
  have hl := len_list x
  unfold readV
  unfold DigS at h
  match hx : x.cps.toList with
  | [] => rw [hx] at hl; simp at hl; omega
  | c :: r =>
    rw [hx] at e hl h
    rw [dv_cons]
    have rl : x.length - 1 = r.length := by rw [← hl]; rfl
    rw [rl]
    have hc := h.head
    have b := dv_lt h.tail
    have z : (Str.ofString "0").cps.toList = [48] := by decide
    have l : Txt.slice x none (some 1) = Str.ofString "0" ↔ c = 48 := by
      constructor
      · intro q; rw [q, z] at e; simpa using e.symm
      · intro q; refine str_ext ?_; rw [e, z, q]; rfl
    rw [l]
    have p : 0 < 10 ^ r.length := Nat.pow_pos (by decide)
    constructor
    · intro q; subst q; simp only [Nat.sub_self, Nat.zero_mul, Nat.zero_add]; exact_mod_cast b
    · intro q
      have q' : (c - 48) * 10 ^ r.length + digitsVal r < 10 ^ r.length := by exact_mod_cast q
      rcases Nat.eq_zero_or_pos (c - 48) with w | w
      · omega
      · have : 1 * 10 ^ r.length ≤ (c - 48) * 10 ^ r.length := Nat.mul_le_mul_right _ w
        omega
theorem any_law {x : Str} : ([Str.ofString "", Str.ofString "0"].any fun y => y == x) = true ↔ x.length = 0 ∨ x = Str.ofString "0" := by
  rw [List.any_cons, List.any_cons, List.any_nil, Bool.or_false, Bool.or_eq_true, beq_iff_eq, beq_iff_eq]
  constructor
  · rintro (h | h)
    · exact .inl (by rw [← h]; exact lens.1)
    · exact .inr h.symm
  · rintro (h | h)
    · exact .inl (beq_iff_eq.mp (is_none.mpr h)).symm
    · exact .inr h.symm
theorem slice_none {x : Str} (h : x.length = 0) : (Txt.slice x none (some 1)).length = 0 := by
  have : x = Str.ofString "" := beq_iff_eq.mp (is_none.mpr h)
  rw [this]; decide
theorem ar_j1 {j : Int} (q : ¬ 0 ≤ j) : 1 ≤ (-j).toNat := by omega
theorem ar_s {S l : Nat} {j : Int} (sl : (l : Int) = S + j) (y : l = 0) (sp : 1 ≤ S) : ¬ 0 ≤ j ∧ S = (-j).toNat := by omega
theorem ar_w {S : Nat} {j : Int} (w : ¬ 0 ≤ (S : Int) + j) : ¬ 0 ≤ j ∧ S ≤ (-j).toNat - 1 := by omega
theorem gen_law {i j pl : Int} (h : 0 ≤ pl) : genfixV i j pl = true ↔ ¬ lgenB i j pl := by
  have n0 := absV_nonneg i
  have sl := spread_len (k := j) n0
  obtain ⟨a, b, c, d, e⟩ := spread_law (k := j) n0
  have iz := num_not (n := i)
  unfold lgenB
  rw [any_law, is_none]
  have first : ((Txt.slice (spreadV (absV i) j).2 none (some 1)).length = 0 ∨ Txt.slice (spreadV (absV i) j).2 none (some 1) = Str.ofString "0") ↔ (0 ≤ j ∨ readV (spreadV (absV i) j).2 < 10 ^ ((-j).toNat - 1)) := by
    by_cases q : 0 ≤ j
    · exact ⟨fun _ => .inl q, fun _ => .inl (slice_none (by rw [c]; exact ar_n0 q))⟩
    · have j1 : 1 ≤ (spreadV (absV i) j).2.length := by rw [c]; exact ar_j1 q
      have fl := first_law b j1
      rw [c] at fl
      rw [fl]
      have := slice_len (x := (spreadV (absV i) j).2) (c := 1) (by decide) (Int.ofNat_le.mpr j1)
      constructor
      · rintro (w | w)
        · rw [w] at this; cases this
        · exact .inr w
      · rintro (w | w)
        · exact absurd w q
        · exact .inr w
  rw [first]
  have z1 : (spreadV (absV i) j).1.length = 0 → readV (spreadV (absV i) j).1 = 0 := by
    intro w
    have := read_bound a
    rw [w] at this
    exact ar_b0 this (readV_nonneg _)
  unfold genfixV
  have pj := pow_pos' ((-j).toNat - 1)
  by_cases q : i = 0
  · rw [if_pos q]
    rw [if_pos (iz.mpr q)] at sl
    have w : (spreadV (absV i) j).1.length = 0 := by exact_mod_cast sl
    rw [iz.mpr q, Int.zero_mul] at d
    have zz := z1 w
    rw [iz.mpr q] at zz w ⊢
    rw [zz, Int.zero_mul, Int.zero_add] at d
    constructor
    · intro x; cases x
    · intro x
      refine absurd (.inr ⟨w, .inr ?_⟩) x
      rw [d]; exact pj
  · rw [if_neg q]
    rw [if_neg (fun z => q (iz.mp z))] at sl
    have n1 : 1 ≤ absV i := ar_one n0 fun z => q (iz.mp z)
    have hi := num_hi n0
    have lo := num_lo n1
    have sp := txt_pos n0
    generalize absV i = n at *
    generalize (Str.ofString (toString n)).length = S at *
    by_cases w : 0 ≤ (S : Int) + j
    · rw [if_pos w, decide_eq_true_iff]
      rw [if_neg (Int.not_lt.mpr w)] at sl
      constructor
      · rintro x (y | ⟨y, y'⟩)
        · exact absurd (sl ▸ y) (Int.not_lt.mpr x)
        · obtain ⟨j0, js⟩ := ar_s sl y sp
          rcases y' with y' | y'
          · exact j0 y'
          · rw [z1 y, Int.zero_mul, Int.zero_add, ar_k0 j0, Int.pow_zero, Int.mul_one] at d
            rw [d, ← js] at y'
            exact absurd lo (Int.not_le.mpr y')
      · intro x
        exact Int.not_lt.mp fun y => x (.inl (by rw [sl]; exact y))
    · rw [if_neg w, decide_eq_true_iff]
      rw [if_pos (Int.not_le.mp w)] at sl
      have y : (spreadV n j).1.length = 0 := by exact_mod_cast sl
      constructor
      · intro x; exact absurd x w
      · intro x
        refine absurd (.inr ⟨y, .inr ?_⟩) x
        rw [z1 y, Int.zero_mul, Int.zero_add, ar_k0 (ar_w w).1, Int.pow_zero, Int.mul_one] at d
        rw [d]
        exact Int.lt_of_lt_of_le hi (pow_mono (ar_w w).2)
theorem gfix_law {bl i j wd pl : Int} {b : Bool} (h : 0 ≤ pl) (hg : genfixV i j pl = true) : gfixB bl i j wd pl b = lgfixB bl i j wd pl b := by
  have sl := spread_len (k := j) (absV_nonneg i)
  have iz := num_not (n := i)
  unfold genfixV at hg
  have key : ((spreadV (absV i) j).1.length : Int) = ((Str.ofString (toString (absV i))).length : Int) + j ∧ ((Str.ofString (toString (absV i))).length : Int) + j ≤ pl := by
    split at hg
    · cases hg
    · rename_i q
      rw [if_neg (fun z => q (iz.mp z))] at sl
      split at hg
      · rw [if_neg (by omega)] at sl
        exact ⟨sl, of_decide_eq_true hg⟩
      · have := of_decide_eq_true hg; omega
  unfold gfixB lgfixB
  rw [key.1]
  have f := fixed_law (i := i) (j := j) (wd := wd - bl) (pl := pl - (((Str.ofString (toString (absV i))).length : Int) + j)) (sc := 0) (b := b) (by omega)
  rw [Int.add_zero] at f
  rw [f]
  by_cases q : wd ≤ bl
  · rw [if_pos q, if_neg (by omega)]
  · rw [if_neg q, if_pos (show bl < wd by omega)]
end

section
open PySem PySem.W PyProof.Rows
set_option Elab.async false
set_option maxRecDepth 100000
set_option maxHeartbeats 8000000
/- what _law_heard tells -/
theorem eq_diff {prog : Program} {w : World} {A : Around} {E : Value → Shared → Prop} {s : Shared} {Q : Value → Shared → Prop} {a b : Str} {t u : Tok} (h : a ≠ b) (hq : Q (.bool false) s) :
    wpAny (model prog w) A (compareOp .Eq (.str a t) (.str b u)) Q E s := by
  refine eq_str ?_
  rw [show (a == b) = false by simpa using h]
  exact hq
/- digits of the exponent: none, or 1 to 3 -/
def SzIs (sz : Value) (o : Option Int) : Prop := (sz = .none ∧ o = none) ∨ ∃ z t, sz = .int z t ∧ o = some z ∧ 1 ≤ z ∧ z ≤ 3
theorem szNone : SzIs .none none := .inl ⟨rfl, rfl⟩
def ExpIs (l : Str) (i j wd pl : Int) (o : Option Int) (sc : Int) (b : Bool) (x : Value) : Prop :=
  (-pl < sc ∧ sc ≤ pl + 1 ∧ ∃ t, x = .str (expV l i j wd pl o sc b) t) ∨ ((sc ≤ -pl ∨ pl + 1 < sc) ∧ x = .none)
noncomputable def blanks : Option Int → Int | none => 4 | some z => z + 2
def GenIs (i j wd pl : Int) (o : Option Int) (sc : Int) (b : Bool) (x : Value) : Prop :=
  (genfixV i j pl = true ∧ ∃ t, x = .str (gfixB (blanks o) i j wd pl b) t) ∨ (genfixV i j pl = false ∧ ExpIs (Str.ofString "E") i j wd pl o sc b x)
theorem same_exp {l : Str} {i j wd pl : Int} {o : Option Int} {sc : Int} {b : Bool} {x y : Value} (hx : ExpIs l i j wd pl o sc b x) (hy : ExpIs l i j wd pl o sc b y) :
    (∃ a t u, x = .str a t ∧ y = .str a u) ∨ (x = .none ∧ y = .none) := by
  rcases hx with ⟨h1, h2, t, rfl⟩ | ⟨h, rfl⟩ <;> rcases hy with ⟨g1, g2, u, rfl⟩ | ⟨g, rfl⟩
  · exact .inl ⟨_, _, _, rfl, rfl⟩
  · exfalso; omega
  · exfalso; omega
  · exact .inr ⟨rfl, rfl⟩
theorem same_gen {i j wd pl : Int} {o : Option Int} {sc : Int} {b : Bool} {x y : Value} (hx : GenIs i j wd pl o sc b x) (hy : GenIs i j wd pl o sc b y) :
    (∃ a t u, x = .str a t ∧ y = .str a u) ∨ (x = .none ∧ y = .none) := by
  rcases hx with ⟨h, t, rfl⟩ | ⟨h, hx⟩ <;> rcases hy with ⟨g, u, rfl⟩ | ⟨g, hy⟩
  · exact .inl ⟨_, _, _, rfl, rfl⟩
  · rw [h] at g; cases g
  · rw [h] at g; cases g
  · exact same_exp hx hy
end

section
open PySem PySem.W PyProof.Rows
set_option Elab.async false
set_option maxRecDepth 100000
set_option maxHeartbeats 8000000
theorem menu_line {prog : Program} {w : World} {A : Around} {E : Value → Shared → Prop} {s : Shared} {value slice : PySem.Expr} {l : Addr} {t1 t2 t3 : Tok} {n : Nat} {k : Int} {u : Tok} {Q : Value → Shared → Prop} {h₀ : Heap} {L : Addr} {news : List (Addr × Obj)}
    (N : News h₀ L s.heap news) (hm : (l, listOf #[.none, .int 1 t1, .int 2 t2, .int 3 t3] n) ∈ news) (h0 : 0 ≤ k) (h4 : k < 4) (hn : Q .none s) (hz : ∀ z t, 1 ≤ z → z ≤ 3 → Q (.int z t) s)
    (hs : subscripted slice false (.ref l) (.int k u) = operate [.ref l, .int k u] (getItem (.ref l) (.int k u))) :
    wpAny (model prog w) A (subscriptTail value slice (.ref l) (.int k u)) Q E s := by
  have hl : s.heap.IsList l ([.none, .int 1 t1, .int 2 t2, .int 3 t3] : List Value).toArray := PySem.IsL.isList (n := n) (N _ hm).1
  have c : k = 0 ∨ k = 1 ∨ k = 2 ∨ k = 3 := by omega
  rcases c with rfl | rfl | rfl | rfl
  · exact item_litK hl (by decide) (by decide) rfl hn hs
  · exact item_litK hl (by decide) (by decide) rfl (hz 1 t1 (by decide) (by decide)) hs
  · exact item_litK hl (by decide) (by decide) rfl (hz 2 t2 (by decide) (by decide)) hs
  · exact item_litK hl (by decide) (by decide) rfl (hz 3 t3 (by decide) (by decide)) hs
theorem neq_same {prog : Program} {w : World} {A : Around} {E : Value → Shared → Prop} {s : Shared} {Q : Value → Shared → Prop} {a b : Str} {t u : Tok} (h : a = b) (hq : Q (.bool false) s) :
    wpAny (model prog w) A (compareOp .NotEq (.str a t) (.str b u)) Q E s := by
  refine ne_str ?_; subst h; rw [show (a != a) = false by simp]; exact hq
theorem eq_same {prog : Program} {w : World} {A : Around} {E : Value → Shared → Prop} {s : Shared} {Q : Value → Shared → Prop} {a b : Str} {t u : Tok} (h : a = b) (hq : Q (.bool true) s) :
    wpAny (model prog w) A (compareOp .Eq (.str a t) (.str b u)) Q E s := by
  refine eq_str ?_; subst h; rw [show (a == a) = true by simp]; exact hq
/- the two ways of `if is_edge` meet -/
noncomputable def TupOf (i j : Int) (u1 u2 : Tok) : Obj := { cls := .type "tuple", data := .seq #[.int i u1, .int j u2] }
structure EdgeEnd (h₀ : Heap) (L : Addr) (m : Str → Option Value) (s : Shared) (f : Flow) (s' : Shared) : Prop where
  next : f = .next
  here : ∃ (R : Addr) (i j : Int) (u1 u2 : Tok) (h : Heap) (tk : Nat), s' = { s with heap := h, toks := tk } ∧ -(10 ^ 10) < i ∧ i < 10 ^ 10 ∧ -40 + 26 ≤ j ∧ j ≤ 40 - 26 ∧
    Fr h₀ L h (fun y => if y = Str.ofString "value" then some (.ref R) else m y) ∧ News h₀ L h [(R, TupOf i j u1 u2)]
def EdgeB2 (P : Prop) : Prop := P
theorem edge_cut {M : Model} {A : Around} {E : Value → Shared → Prop} {s : Shared} {env : Env} {h₀ : Heap} {L : Addr} {m : Str → Option Value} {test : PySem.Expr} {st : List Stmt} {pos : Pos} {Q : Flow → Shared → Prop}
    (_F : Fr h₀ L s.heap m) (h1 : wpAny M A (exec (.If test st [] pos) env) (EdgeEnd h₀ L m s) E s)
    (h2 : EdgeB2 (∀ (R : Addr) (i j : Int) (u1 u2 : Tok) (h : Heap) (tk : Nat), -(10 ^ 10) < i → i < 10 ^ 10 → -14 ≤ j → j ≤ 14 →
      let m' : Str → Option Value := fun y => if y = Str.ofString "value" then some (.ref R) else m y; Fr h₀ L h m' → News h₀ L h [(R, { cls := .type "tuple", data := .seq #[.int i u1, .int j u2] })] → Q .next { s with heap := h, toks := tk })) :
    wpAny M A (exec (.If test st [] pos) env) Q E s := by
  refine wpAny_mono h1 (fun f s' hf => ?_) fun _ _ h => h
  obtain ⟨rfl, R, i, j, u1, u2, h, tk, rfl, b1, b2, b3, b4, F, N⟩ := hf
  exact h2 R i j u1 u2 h tk b1 b2 (by omega) (by omega) F N
theorem edge_end {h₀ : Heap} {L : Addr} {m m' : Str → Option Value} {s : Shared} {h : Heap} {tk : Nat} {news : List (Addr × Obj)} {R : Addr} {i j : Int} {u1 u2 : Tok}
    (F : Fr h₀ L h m') (N : News h₀ L h news) (hm : (R, ({ cls := .type "tuple", data := .seq #[.int i u1, .int j u2] } : Obj)) ∈ news)
    (e : m' = fun y => if y = Str.ofString "value" then some (.ref R) else m y) (b1 : -(10 ^ 10) < i) (b2 : i < 10 ^ 10) (b3 : -14 ≤ j) (b4 : j ≤ 14) :
    EdgeEnd h₀ L m s .next { s with heap := h, toks := tk } :=
  ⟨rfl, R, i, j, u1, u2, h, tk, rfl, b1, b2, by omega, by omega, e ▸ F, fun p hp => by rcases List.mem_singleton.mp hp with rfl; exact N _ hm⟩
theorem edge_same {m : Str → Option Value} {R : Addr} (h : m (Str.ofString "value") = some (.ref R)) : m = fun y => if y = Str.ofString "value" then some (.ref R) else m y := by
  funext y; by_cases q : y = Str.ofString "value"
  · rw [if_pos q, q, h]
  · rw [if_neg q]
/- answers of unknown kind -/
theorem menu_any {prog : Program} {w : World} {A : Around} {E : Value → Shared → Prop} {s : Shared} {value slice : PySem.Expr} {l : Addr} {t1 t2 t3 : Tok} {n : Nat} {k : Int} {u : Tok} {Q : Value → Shared → Prop} {h₀ : Heap} {L : Addr} {news : List (Addr × Obj)}
    (N : News h₀ L s.heap news) (hm : (l, listOf #[.none, .int 1 t1, .int 2 t2, .int 3 t3] n) ∈ news) (h0 : 0 ≤ k) (h4 : k < 4) (hz : ∀ sz o, SzIs sz o → Q sz s)
    (hs : subscripted slice false (.ref l) (.int k u) = operate [.ref l, .int k u] (getItem (.ref l) (.int k u))) :
    wpAny (model prog w) A (subscriptTail value slice (.ref l) (.int k u)) Q E s :=
  menu_line N hm h0 h4 (hz _ _ szNone) (fun z t h1 h3 => hz _ _ (.inr ⟨z, t, rfl, rfl, h1, h3⟩)) hs
theorem neq_is {prog : Program} {w : World} {A : Around} {E : Value → Shared → Prop} {s : Shared} {Q : Value → Shared → Prop} {x y : Value} (h : (∃ a t u, x = .str a t ∧ y = .str a u) ∨ (x = .none ∧ y = .none)) (hq : Q (.bool false) s) :
    wpAny (model prog w) A (compareOp .NotEq x y) Q E s := by
  rcases h with ⟨a, t, u, rfl, rfl⟩ | ⟨rfl, rfl⟩
  · exact neq_same rfl hq
  · exact EqNone.ne_none_none hq
theorem eq_is {prog : Program} {w : World} {A : Around} {E : Value → Shared → Prop} {s : Shared} {Q : Value → Shared → Prop} {x y : Value} (h : (∃ a t u, x = .str a t ∧ y = .str a u) ∨ (x = .none ∧ y = .none)) (hq : Q (.bool true) s) :
    wpAny (model prog w) A (compareOp .Eq x y) Q E s := by
  rcases h with ⟨a, t, u, rfl, rfl⟩ | ⟨rfl, rfl⟩
  · exact eq_same rfl hq
  · exact EqNone.eq_none_none hq
end

section
open PySem PySem.W PyProof.Rows
set_option Elab.async false
set_option maxRecDepth 100000
set_option maxHeartbeats 8000000
/- the ways of a test meet: an expression's value, or one name's, said once for both ways -/
section
variable {M : Model} {A : Around} {E : Value → Shared → Prop} {s : Shared} {h₀ : Heap} {L : Addr} {m : Str → Option Value} {news : List (Addr × Obj)}
structure JV {α : Type} (P : α → Prop) (h₀ : Heap) (L : Addr) (m : Str → Option Value) (news : List (Addr × Obj)) (s : Shared) (x : α) (s' : Shared) : Prop where
  val : P x
  here : ∃ (h : Heap) (tk : Nat), s' = { s with heap := h, toks := tk } ∧ Fr h₀ L h m ∧ News h₀ L h news
def JI (v : Int) (x : Value) : Prop := ∃ t, x = .int v t
def JS (v : Str) (x : Value) : Prop := ∃ t, x = .str v t
def JB (v : Bool) (x : Value) : Prop := x = .bool v
def JT (p : Prop) (x : Bool) : Prop := x = true ↔ p
theorem jv_cut {α : Type} {c : Sem α} {P : α → Prop} {Q : α → Shared → Prop} (h1 : wpAny M A c (JV P h₀ L m news s) E s)
    (h2 : ∀ x h tk, P x → Fr h₀ L h m → News h₀ L h news → Q x { s with heap := h, toks := tk }) : wpAny M A c Q E s :=
  wpAny_mono h1 (fun x s' hx => by obtain ⟨hv, h, tk, rfl, F, N⟩ := hx; exact h2 x h tk hv F N) fun _ _ h => h
theorem jv_int {c : Sem Value} {Q : Value → Shared → Prop} (v : Int) (_F : Fr h₀ L s.heap m) (_N : News h₀ L s.heap news) (h1 : wpAny M A c (JV (JI v) h₀ L m news s) E s)
    (h2 : ∀ t h tk, Fr h₀ L h m → News h₀ L h news → Q (.int v t) { s with heap := h, toks := tk }) : wpAny M A c Q E s :=
  jv_cut h1 fun _ h tk ⟨t, e⟩ F N => e ▸ h2 t h tk F N
theorem jv_str {c : Sem Value} {Q : Value → Shared → Prop} (v : Str) (_F : Fr h₀ L s.heap m) (_N : News h₀ L s.heap news) (h1 : wpAny M A c (JV (JS v) h₀ L m news s) E s)
    (h2 : ∀ t h tk, Fr h₀ L h m → News h₀ L h news → Q (.str v t) { s with heap := h, toks := tk }) : wpAny M A c Q E s :=
  jv_cut h1 fun _ h tk ⟨t, e⟩ F N => e ▸ h2 t h tk F N
theorem jv_bool {c : Sem Value} {Q : Value → Shared → Prop} (v : Bool) (_F : Fr h₀ L s.heap m) (_N : News h₀ L s.heap news) (h1 : wpAny M A c (JV (JB v) h₀ L m news s) E s)
    (h2 : ∀ h tk, Fr h₀ L h m → News h₀ L h news → Q (.bool v) { s with heap := h, toks := tk }) : wpAny M A c Q E s :=
  jv_cut h1 fun _ h tk e F N => (show _ = _ from e) ▸ h2 h tk F N
theorem jv_test {c : Sem Bool} {Q : Bool → Shared → Prop} (p : Prop) (_F : Fr h₀ L s.heap m) (_N : News h₀ L s.heap news) (h1 : wpAny M A c (JV (JT p) h₀ L m news s) E s)
    (h2 : ∀ h tk, p → Fr h₀ L h m → News h₀ L h news → Q true { s with heap := h, toks := tk })
    (h3 : ∀ h tk, ¬ p → Fr h₀ L h m → News h₀ L h news → Q false { s with heap := h, toks := tk }) : wpAny M A c Q E s :=
  jv_cut h1 fun x h tk e F N => by
    cases x with
    | true => exact h2 h tk (e.mp rfl) F N
    | false => exact h3 h tk (fun q => Bool.noConfusion (e.mpr q)) F N
theorem je_int {h : Heap} {tk : Nat} {v v' : Int} {t : Tok} (F : Fr h₀ L h m) (N : News h₀ L h news) (e : v' = v) : JV (JI v) h₀ L m news s (.int v' t) { s with heap := h, toks := tk } :=
  ⟨⟨t, by rw [e]⟩, h, tk, rfl, F, N⟩
theorem je_str {h : Heap} {tk : Nat} {v v' : Str} {t : Tok} (F : Fr h₀ L h m) (N : News h₀ L h news) (e : v' = v) : JV (JS v) h₀ L m news s (.str v' t) { s with heap := h, toks := tk } :=
  ⟨⟨t, by rw [e]⟩, h, tk, rfl, F, N⟩
theorem je_bool {h : Heap} {tk : Nat} {v v' : Bool} (F : Fr h₀ L h m) (N : News h₀ L h news) (e : v' = v) : JV (JB v) h₀ L m news s (.bool v') { s with heap := h, toks := tk } :=
  ⟨by rw [e]; rfl, h, tk, rfl, F, N⟩
theorem je_test {h : Heap} {tk : Nat} {p : Prop} {x : Bool} (F : Fr h₀ L h m) (N : News h₀ L h news) (e : x = true ↔ p) : JV (JT p) h₀ L m news s x { s with heap := h, toks := tk } :=
  ⟨e, h, tk, rfl, F, N⟩
structure JF (mk : Tok → Value) (name : Str) (h₀ : Heap) (L : Addr) (m : Str → Option Value) (news : List (Addr × Obj)) (s : Shared) (f : Flow) (s' : Shared) : Prop where
  next : f = .next
  here : ∃ (t : Tok) (h : Heap) (tk : Nat), s' = { s with heap := h, toks := tk } ∧ Fr h₀ L h (fun y => if y = name then some (mk t) else m y) ∧ News h₀ L h news
theorem jf_cut {c : Sem Flow} {Q : Flow → Shared → Prop} (mk : Tok → Value) (name : Str) (_F : Fr h₀ L s.heap m) (_N : News h₀ L s.heap news) (h1 : wpAny M A c (JF mk name h₀ L m news s) E s)
    (h2 : ∀ t h tk, let m' : Str → Option Value := fun y => if y = name then some (mk t) else m y; Fr h₀ L h m' → News h₀ L h news → Q .next { s with heap := h, toks := tk }) : wpAny M A c Q E s :=
  wpAny_mono h1 (fun x s' hx => by obtain ⟨rfl, t, h, tk, rfl, F, N⟩ := hx; exact h2 t h tk F N) fun _ _ h => h

theorem jf_int1 {h : Heap} {tk : Nat} {name : Str} {v v' : Int} {t : Tok} (F : Fr h₀ L h (fun y => if y = name then some (.int v' t) else m y)) (N : News h₀ L h news) (e : v' = v) :
    JF (Value.int v) name h₀ L m news s .next { s with heap := h, toks := tk } := ⟨rfl, t, h, tk, rfl, e ▸ F, N⟩
theorem jf_str1 {h : Heap} {tk : Nat} {name : Str} {v v' : Str} {t : Tok} (F : Fr h₀ L h (fun y => if y = name then some (.str v' t) else m y)) (N : News h₀ L h news) (e : v' = v) :
    JF (Value.str v) name h₀ L m news s .next { s with heap := h, toks := tk } := ⟨rfl, t, h, tk, rfl, e ▸ F, N⟩
theorem jf_same {name : Str} {v : Value} (h : m name = some v) : m = fun y => if y = name then some v else m y := by
  funext y; by_cases q : y = name
  · rw [if_pos q, q, h]
  · rw [if_neg q]
theorem jf_int0 {h : Heap} {tk : Nat} {name : Str} {v v' : Int} {t : Tok} (F : Fr h₀ L h m) (N : News h₀ L h news) (hm : m name = some (.int v' t)) (e : v' = v) :
    JF (Value.int v) name h₀ L m news s .next { s with heap := h, toks := tk } := ⟨rfl, t, h, tk, rfl, by subst e; exact jf_same hm ▸ F, N⟩
theorem jf_str0 {h : Heap} {tk : Nat} {name : Str} {v v' : Str} {t : Tok} (F : Fr h₀ L h m) (N : News h₀ L h news) (hm : m name = some (.str v' t)) (e : v' = v) :
    JF (Value.str v) name h₀ L m news s .next { s with heap := h, toks := tk } := ⟨rfl, t, h, tk, rfl, by subst e; exact jf_same hm ▸ F, N⟩
theorem let_str {c : Sem Flow} {Q : Flow → Shared → Prop} (v : Str) (name : Str) (F : Fr h₀ L s.heap m) (N : News h₀ L s.heap news) (h1 : wpAny M A c (JF (Value.str v) name h₀ L m news s) E s)
    (h2 : ∀ y t h tk, y = v → let m' : Str → Option Value := fun z => if z = name then some (.str y t) else m z; Fr h₀ L h m' → News h₀ L h news → Q .next { s with heap := h, toks := tk }) : wpAny M A c Q E s :=
  jf_cut (Value.str v) name F N h1 fun t h tk F' N' => h2 v t h tk rfl F' N'


/- arguments that are names of the frame's: all in one step -/
theorem nm_ok {o : Option NameKind} {b : Bool} (k : (o == some .local) = true ∧ (!b) = true) : o = some .local ∧ b = false := ⟨by simpa using k.1, by simpa using k.2⟩
theorem name_at {q : Str} {sc : Scope} {f : Addr} {cd v : Value} {x : Str} {pos : Pos} {Q : Value → Shared → Prop} (F : Fr h₀ L s.heap m) (hv : m x = some v) (h : Q v s)
    (hk : sc.kind = .function) (hx : (envOf q sc L f cd).kindOf x = some .local ∧ (x == ("__debug__" : Str)) = false) : wpAny M A (eval (.Name x pos) (envOf q sc L f cd)) Q E s :=
  nameX_L (cl := []) F hv h hk hx.1 hx.2
theorem all2 {α : Type} {f : α → Bool} {x : α} {r : List α} (h : (x :: r).all f = true) : f x = true ∧ r.all f = true := by rw [List.all_cons, Bool.and_eq_true] at h; exact h
theorem nm_ok2 {o : Option NameKind} {b : Bool} (k : ((o == some .local) && !b) = true) : o = some .local ∧ b = false := nm_ok (by rw [Bool.and_eq_true] at k; exact k)
theorem args_n1 {q : Str} {sc : Scope} {f : Addr} {cd : Value} {pos : Pos} {Q : List Value → Shared → Prop} {x1 : Str} {p1 : Pos} {v1 : Value} (F : Fr h₀ L s.heap m)
    (h1 : m x1 = some v1) (h : Q [v1] s) (hk : sc.kind = .function)
    (hx : ([x1].all fun x => ((envOf q sc L f cd).kindOf x == some .local) && !(x == ("__debug__" : Str))) = true) :
    wpAny M A (spliced (backTo pos (starEach [.Name x1 p1] (envOf q sc L f cd)))) Q E s :=
  args_cons (name_at F h1 (args_nil h) hk (nm_ok2 (all2 hx).1))
theorem args_n2 {q : Str} {sc : Scope} {f : Addr} {cd : Value} {pos : Pos} {Q : List Value → Shared → Prop} {x1 x2 : Str} {p1 p2 : Pos} {v1 v2 : Value} (F : Fr h₀ L s.heap m)
    (h1 : m x1 = some v1) (h2 : m x2 = some v2) (h : Q [v1, v2] s) (hk : sc.kind = .function)
    (hx : ([x1, x2].all fun x => ((envOf q sc L f cd).kindOf x == some .local) && !(x == ("__debug__" : Str))) = true) :
    wpAny M A (spliced (backTo pos (starEach [.Name x1 p1, .Name x2 p2] (envOf q sc L f cd)))) Q E s :=
  args_cons (name_at F h1 (args_n1 F h2 h hk (all2 hx).2) hk (nm_ok2 (all2 hx).1))
theorem args_n3 {q : Str} {sc : Scope} {f : Addr} {cd : Value} {pos : Pos} {Q : List Value → Shared → Prop} {x1 x2 x3 : Str} {p1 p2 p3 : Pos} {v1 v2 v3 : Value} (F : Fr h₀ L s.heap m)
    (h1 : m x1 = some v1) (h2 : m x2 = some v2) (h3 : m x3 = some v3) (h : Q [v1, v2, v3] s) (hk : sc.kind = .function)
    (hx : ([x1, x2, x3].all fun x => ((envOf q sc L f cd).kindOf x == some .local) && !(x == ("__debug__" : Str))) = true) :
    wpAny M A (spliced (backTo pos (starEach [.Name x1 p1, .Name x2 p2, .Name x3 p3] (envOf q sc L f cd)))) Q E s :=
  args_cons (name_at F h1 (args_n2 F h2 h3 h hk (all2 hx).2) hk (nm_ok2 (all2 hx).1))
theorem args_n4 {q : Str} {sc : Scope} {f : Addr} {cd : Value} {pos : Pos} {Q : List Value → Shared → Prop} {x1 x2 x3 x4 : Str} {p1 p2 p3 p4 : Pos} {v1 v2 v3 v4 : Value} (F : Fr h₀ L s.heap m)
    (h1 : m x1 = some v1) (h2 : m x2 = some v2) (h3 : m x3 = some v3) (h4 : m x4 = some v4) (h : Q [v1, v2, v3, v4] s) (hk : sc.kind = .function)
    (hx : ([x1, x2, x3, x4].all fun x => ((envOf q sc L f cd).kindOf x == some .local) && !(x == ("__debug__" : Str))) = true) :
    wpAny M A (spliced (backTo pos (starEach [.Name x1 p1, .Name x2 p2, .Name x3 p3, .Name x4 p4] (envOf q sc L f cd)))) Q E s :=
  args_cons (name_at F h1 (args_n3 F h2 h3 h4 h hk (all2 hx).2) hk (nm_ok2 (all2 hx).1))
theorem args_n5 {q : Str} {sc : Scope} {f : Addr} {cd : Value} {pos : Pos} {Q : List Value → Shared → Prop} {x1 x2 x3 x4 x5 : Str} {p1 p2 p3 p4 p5 : Pos} {v1 v2 v3 v4 v5 : Value} (F : Fr h₀ L s.heap m)
    (h1 : m x1 = some v1) (h2 : m x2 = some v2) (h3 : m x3 = some v3) (h4 : m x4 = some v4) (h5 : m x5 = some v5) (h : Q [v1, v2, v3, v4, v5] s) (hk : sc.kind = .function)
    (hx : ([x1, x2, x3, x4, x5].all fun x => ((envOf q sc L f cd).kindOf x == some .local) && !(x == ("__debug__" : Str))) = true) :
    wpAny M A (spliced (backTo pos (starEach [.Name x1 p1, .Name x2 p2, .Name x3 p3, .Name x4 p4, .Name x5 p5] (envOf q sc L f cd)))) Q E s :=
  args_cons (name_at F h1 (args_n4 F h2 h3 h4 h5 h hk (all2 hx).2) hk (nm_ok2 (all2 hx).1))
theorem args_n6 {q : Str} {sc : Scope} {f : Addr} {cd : Value} {pos : Pos} {Q : List Value → Shared → Prop} {x1 x2 x3 x4 x5 x6 : Str} {p1 p2 p3 p4 p5 p6 : Pos} {v1 v2 v3 v4 v5 v6 : Value} (F : Fr h₀ L s.heap m)
    (h1 : m x1 = some v1) (h2 : m x2 = some v2) (h3 : m x3 = some v3) (h4 : m x4 = some v4) (h5 : m x5 = some v5) (h6 : m x6 = some v6) (h : Q [v1, v2, v3, v4, v5, v6] s) (hk : sc.kind = .function)
    (hx : ([x1, x2, x3, x4, x5, x6].all fun x => ((envOf q sc L f cd).kindOf x == some .local) && !(x == ("__debug__" : Str))) = true) :
    wpAny M A (spliced (backTo pos (starEach [.Name x1 p1, .Name x2 p2, .Name x3 p3, .Name x4 p4, .Name x5 p5, .Name x6 p6] (envOf q sc L f cd)))) Q E s :=
  args_cons (name_at F h1 (args_n5 F h2 h3 h4 h5 h6 h hk (all2 hx).2) hk (nm_ok2 (all2 hx).1))
theorem args_n7 {q : Str} {sc : Scope} {f : Addr} {cd : Value} {pos : Pos} {Q : List Value → Shared → Prop} {x1 x2 x3 x4 x5 x6 x7 : Str} {p1 p2 p3 p4 p5 p6 p7 : Pos} {v1 v2 v3 v4 v5 v6 v7 : Value} (F : Fr h₀ L s.heap m)
    (h1 : m x1 = some v1) (h2 : m x2 = some v2) (h3 : m x3 = some v3) (h4 : m x4 = some v4) (h5 : m x5 = some v5) (h6 : m x6 = some v6) (h7 : m x7 = some v7) (h : Q [v1, v2, v3, v4, v5, v6, v7] s) (hk : sc.kind = .function)
    (hx : ([x1, x2, x3, x4, x5, x6, x7].all fun x => ((envOf q sc L f cd).kindOf x == some .local) && !(x == ("__debug__" : Str))) = true) :
    wpAny M A (spliced (backTo pos (starEach [.Name x1 p1, .Name x2 p2, .Name x3 p3, .Name x4 p4, .Name x5 p5, .Name x6 p6, .Name x7 p7] (envOf q sc L f cd)))) Q E s :=
  args_cons (name_at F h1 (args_n6 F h2 h3 h4 h5 h6 h7 h hk (all2 hx).2) hk (nm_ok2 (all2 hx).1))
/- the frame's map behind a letter -/
theorem fr_let {h : Heap} {P : Prop} (F : Fr h₀ L h m) (k : let m' := m; Fr h₀ L h m' → P) : P := k F
theorem store_let {x : Str} {v : Value} {cn : Str} {cs : Scope} {a : Addr} {ccd : Value} {Q : Unit → Shared → Prop} (F : Fr h₀ L s.heap m) (N : News h₀ L s.heap news)
    (h : let m' : Str → Option Value := fun y => if y = x then some v else m y; ∀ h', Fr h₀ L h' m' → News h₀ L h' news → Q () { s with heap := h', toks := s.toks + 1 })
    (hk : cs.kind = .function) (hx : (envOf cn cs L a ccd).kindOf x = some .local) : wpAny M A (storeName (envOf cn cs L a ccd) x v) Q E s :=
  storeX_L (cl := []) F N (fun h' F' N' => h h' F' N') hk hx
theorem env_let {cn : Str} {cs : Scope} {a : Addr} {ccd : Value} {B : Around} {body : List Stmt} {Q : Flow → Shared → Prop}
    (h : let env' := envOf cn cs L a ccd; let A' := B.deeper env'; wpAny M A' (execs body env') Q E s) : wpAny M (B.deeper (envOf cn cs L a ccd)) (execs body (envOf cn cs L a ccd)) Q E s := h
end
end

section
open PySem PySem.W PyProof.Rows
set_option Elab.async false
set_option maxRecDepth 100000
set_option maxHeartbeats 8000000
theorem u_draw {w : World} {mean : ExcName → Option Value} {mg mb : Str → Option Value} {dp un : Nat} {gd : Option (List Code)} {cn : Str} {cs : Scope} {a : Addr} {ccd : Value} {cl : List (Str × Addr)} {outer : List Env} {A₀ : Around} {base h₀ : Heap} {L : Addr} {m : Str → Option Value} {news : List (Addr × Obj)} {s : Shared} {Q E : Value → Shared → Prop} {p q : Addr} {ws : List Value} {ns : List Int} {n0 n1 : Nat} {at_ : Int} {ta : Tok} {mn : Int} {t2 : Tok}
  (B : Below A₀ base outer h₀) (F : Fr h₀ L s.heap m) (X : (hd.heap_39 w.params).In h₀) (N : News h₀ L s.heap ((p, listOf #[.ref q, .int at_ ta] n0) :: (q, listOf ws.toArray n1) :: news)) (T : Top hd.view_39 (looseW hd.view_39 []) mean mg mb h₀) (hk : cs.kind = .function) (hdp : dp + 2 < recursionLimit) (hun : un + 16 < cLine)
  (hne : ∀ x ∈ news, x.1 ≠ p) (hqp : @LT.lt Nat _ q p) (hI : IntsAre ws ns) (hln : ns.length ≤ 24) (a0 : 0 ≤ at_) (a1 : at_ ≤ 30) (m0 : 0 < mn) (m1 : mn ≤ 10 ^ 9)
  (hret : ∀ (v : Int) (t ta' : Tok) (h' : Heap) (tk' : Nat), 0 ≤ v → v < mn → Fr h₀ L h' m → News h₀ L h' ((p, listOf #[.ref q, .int (at_ + 1) ta'] n0) :: (q, listOf ws.toArray n1) :: news) → ns.length ≤ 24 → Q (.int v t) { s with heap := h', toks := tk' }) :
  wpAny (model Challenge.rw_no0228_01.row.prog w) (ktrTop dp un gd cn cs L a ccd cl outer) (call (.ref 130) [.ref p, .int mn t2]) Q E s := by
  k_with_none
  k_with_none
  (k_with "storeName" => (k_here; k_dflt (refine' store_let ?zsF ?zsN ?_ ?zsa ?zsb; (case zsF => k_asm); (case zsN => k_asm); (case zsa => first | rfl | assumption); (case zsb => rfl)); k_whole; intro m' h' F' N'; (try k_sweep)))
  (k_with "spliced" => (k_here; first | (with_reducible refine' args_n7 ?zaF ?za1 ?za2 ?za3 ?za4 ?za5 ?za6 ?za7 ?_ ?zak ?zax; (case zaF => k_dflt k_asm); (case za1 => with_unfolding_all rfl); (case za2 => with_unfolding_all rfl); (case za3 => with_unfolding_all rfl); (case za4 => with_unfolding_all rfl); (case za5 => with_unfolding_all rfl); (case za6 => with_unfolding_all rfl); (case za7 => with_unfolding_all rfl); (case zak => first | exact rfl | assumption); (case zax => with_unfolding_all rfl)) | (with_reducible refine' args_n6 ?zaF ?za1 ?za2 ?za3 ?za4 ?za5 ?za6 ?_ ?zak ?zax; (case zaF => k_dflt k_asm); (case za1 => with_unfolding_all rfl); (case za2 => with_unfolding_all rfl); (case za3 => with_unfolding_all rfl); (case za4 => with_unfolding_all rfl); (case za5 => with_unfolding_all rfl); (case za6 => with_unfolding_all rfl); (case zak => first | exact rfl | assumption); (case zax => with_unfolding_all rfl)) | (with_reducible refine' args_n5 ?zaF ?za1 ?za2 ?za3 ?za4 ?za5 ?_ ?zak ?zax; (case zaF => k_dflt k_asm); (case za1 => with_unfolding_all rfl); (case za2 => with_unfolding_all rfl); (case za3 => with_unfolding_all rfl); (case za4 => with_unfolding_all rfl); (case za5 => with_unfolding_all rfl); (case zak => first | exact rfl | assumption); (case zax => with_unfolding_all rfl)) | (with_reducible refine' args_n4 ?zaF ?za1 ?za2 ?za3 ?za4 ?_ ?zak ?zax; (case zaF => k_dflt k_asm); (case za1 => with_unfolding_all rfl); (case za2 => with_unfolding_all rfl); (case za3 => with_unfolding_all rfl); (case za4 => with_unfolding_all rfl); (case zak => first | exact rfl | assumption); (case zax => with_unfolding_all rfl)) | (with_reducible refine' args_n3 ?zaF ?za1 ?za2 ?za3 ?_ ?zak ?zax; (case zaF => k_dflt k_asm); (case za1 => with_unfolding_all rfl); (case za2 => with_unfolding_all rfl); (case za3 => with_unfolding_all rfl); (case zak => first | exact rfl | assumption); (case zax => with_unfolding_all rfl)) | (with_reducible refine' args_n2 ?zaF ?za1 ?za2 ?_ ?zak ?zax; (case zaF => k_dflt k_asm); (case za1 => with_unfolding_all rfl); (case za2 => with_unfolding_all rfl); (case zak => first | exact rfl | assumption); (case zax => with_unfolding_all rfl))))
  revert X; k_fill; intro X
  obtain ⟨z0, z1, z2, z3, z4, z5⟩ := lens
  refine wpAny_call ?_
  k_dflt cell_enter
  (rename Fr _ _ _ _ => zF0); (refine fr_let zF0 ?_); clear zF0; intro m' zF1
  (refine env_let ?_); intro env' A'
  k_steps
  all_goals (refine' hret _ _ _ _ _ (fmod_lo _ m0) (fmod_hi _ m0) ?eF ?eN hln; (case eF => k_asm); (case eN => k_asm))
end

section
open PySem PySem.W PyProof.Rows
set_option Elab.async false
set_option maxRecDepth 100000
set_option maxHeartbeats 8000000
theorem u_real {w : World} {mean : ExcName → Option Value} {mg mb : Str → Option Value} {dp un : Nat} {gd : Option (List Code)} {cn : Str} {cs : Scope} {a : Addr} {ccd : Value} {cl : List (Str × Addr)} {outer : List Env} {A₀ : Around} {base h₀ : Heap} {L : Addr} {m : Str → Option Value} {news : List (Addr × Obj)} {s : Shared} {Q E : Value → Shared → Prop} {p q : Addr} {ws : List Value} {ns : List Int} {n0 n1 : Nat} {at_ : Int} {ta : Tok}
  (B : Below A₀ base outer h₀) (F : Fr h₀ L s.heap m) (X : (hd.heap_39 w.params).In h₀) (N : News h₀ L s.heap ((p, listOf #[.ref q, .int at_ ta] n0) :: (q, listOf ws.toArray n1) :: news)) (T : Top hd.view_39 (looseW hd.view_39 []) mean mg mb h₀) (hk : cs.kind = .function) (hdp : dp + 4 < recursionLimit) (hun : un + 32 < cLine)
  (hne : ∀ x ∈ news, x.1 ≠ p) (hqp : @LT.lt Nat _ q p) (hI : IntsAre ws ns) (hln : ns.length ≤ 24) (a0 : 0 ≤ at_) (a1 : at_ ≤ 20)
  (hret : ∀ (i j : Int) (u1 u2 ta' : Tok) (R : Addr) (h' : Heap) (tk' : Nat), -(10 ^ 9) < i → i < 10 ^ 9 → -14 ≤ j → j ≤ 10 → Fr h₀ L h' m → News h₀ L h' ((p, listOf #[.ref q, .int (at_ + 1 + 1 + 1 + 1) ta'] n0) :: (q, listOf ws.toArray n1) :: (R, ({ cls := .type "tuple", data := .seq #[.int i u1, .int j u2] } : Obj)) :: news) → (@LT.lt Nat _ p R) → (∀ x ∈ news, x.1 < R) → ns.length ≤ 24 → Q (.ref R) { s with heap := h', toks := tk' }) :
  wpAny (model Challenge.rw_no0228_01.row.prog w) (ktrTop dp un gd cn cs L a ccd cl outer) (call (.ref 137) [.ref p]) Q E s := by
  k_with_none
  k_with_none
  (k_with "storeName" => (k_here; k_dflt (refine' store_let ?zsF ?zsN ?_ ?zsa ?zsb; (case zsF => k_asm); (case zsN => k_asm); (case zsa => first | rfl | assumption); (case zsb => rfl)); k_whole; intro m' h' F' N'; (try k_sweep)))
  (k_with "spliced" => (k_here; first | (with_reducible refine' args_n7 ?zaF ?za1 ?za2 ?za3 ?za4 ?za5 ?za6 ?za7 ?_ ?zak ?zax; (case zaF => k_dflt k_asm); (case za1 => with_unfolding_all rfl); (case za2 => with_unfolding_all rfl); (case za3 => with_unfolding_all rfl); (case za4 => with_unfolding_all rfl); (case za5 => with_unfolding_all rfl); (case za6 => with_unfolding_all rfl); (case za7 => with_unfolding_all rfl); (case zak => first | exact rfl | assumption); (case zax => with_unfolding_all rfl)) | (with_reducible refine' args_n6 ?zaF ?za1 ?za2 ?za3 ?za4 ?za5 ?za6 ?_ ?zak ?zax; (case zaF => k_dflt k_asm); (case za1 => with_unfolding_all rfl); (case za2 => with_unfolding_all rfl); (case za3 => with_unfolding_all rfl); (case za4 => with_unfolding_all rfl); (case za5 => with_unfolding_all rfl); (case za6 => with_unfolding_all rfl); (case zak => first | exact rfl | assumption); (case zax => with_unfolding_all rfl)) | (with_reducible refine' args_n5 ?zaF ?za1 ?za2 ?za3 ?za4 ?za5 ?_ ?zak ?zax; (case zaF => k_dflt k_asm); (case za1 => with_unfolding_all rfl); (case za2 => with_unfolding_all rfl); (case za3 => with_unfolding_all rfl); (case za4 => with_unfolding_all rfl); (case za5 => with_unfolding_all rfl); (case zak => first | exact rfl | assumption); (case zax => with_unfolding_all rfl)) | (with_reducible refine' args_n4 ?zaF ?za1 ?za2 ?za3 ?za4 ?_ ?zak ?zax; (case zaF => k_dflt k_asm); (case za1 => with_unfolding_all rfl); (case za2 => with_unfolding_all rfl); (case za3 => with_unfolding_all rfl); (case za4 => with_unfolding_all rfl); (case zak => first | exact rfl | assumption); (case zax => with_unfolding_all rfl)) | (with_reducible refine' args_n3 ?zaF ?za1 ?za2 ?za3 ?_ ?zak ?zax; (case zaF => k_dflt k_asm); (case za1 => with_unfolding_all rfl); (case za2 => with_unfolding_all rfl); (case za3 => with_unfolding_all rfl); (case zak => first | exact rfl | assumption); (case zax => with_unfolding_all rfl)) | (with_reducible refine' args_n2 ?zaF ?za1 ?za2 ?_ ?zak ?zax; (case zaF => k_dflt k_asm); (case za1 => with_unfolding_all rfl); (case za2 => with_unfolding_all rfl); (case zak => first | exact rfl | assumption); (case zax => with_unfolding_all rfl))))
  (k_with "call ref" => (k_here; (with_reducible show wpAny _ _ (call (Value.ref 130) [Value.ref _, Value.int _ _]) _ _ _); k_dflt (refine' u_draw ?k1 ?k2 ?k3 ?k4 ?k5 ?kK ?kd ?ku ?p0 ?p1 ?p2 ?p3 ?p4 ?p5 ?p6 ?p7 ?_); (case k1 => k_asm); (case k2 => k_asm); (case k3 => k_asm); (case k4 => first | k_asm | (refine' news_rot ?nr; (case nr => k_asm))); (case k5 => k_asm); (case kK => first | exact rfl | assumption); (case kd => first | exact room hdp (by decide) | decide | ktr_room); (case ku => first | exact room hun (by decide) | decide | ktr_units); (case p0 => k_all); (case p1 => first | assumption | omega | kt_fact); (case p2 => with_reducible assumption); (case p3 => first | with_reducible assumption | omega); (case p4 => first | with_reducible assumption | decide | omega); (case p5 => first | with_reducible assumption | decide | omega); (case p6 => first | with_reducible assumption | decide | omega); (case p7 => first | with_reducible assumption | decide | omega); all_goals (intros; (try dsimp only); (try k_fold)); walk_say "CONTRACT draw"))
  revert X; k_fill; intro X
  obtain ⟨z0, z1, z2, z3, z4, z5⟩ := lens
  refine wpAny_call ?_
  k_dflt cell_enter
  (rename Fr _ _ _ _ => zF0); (refine fr_let zF0 ?_); clear zF0; intro m' zF1
  (refine env_let ?_); intro env' A'
  k_steps
  all_goals (refine' hret _ _ _ _ _ _ _ _ ?b1 ?b2 ?b3 ?b4 ?eF ?eN ?l1 ?l2 hln; (case eF => k_asm); (case eN => refine' news_rot ?n; (case n => k_asm)); (case b1 => first | (refine' real_p1 ?a ?b; (case a => with_reducible assumption); (case b => with_reducible assumption)) | (refine' real_m1 ?a ?b; (case a => with_reducible assumption); (case b => with_reducible assumption))); (case b2 => first | (refine' real_p2 ?a ?b; (case a => with_reducible assumption); (case b => with_reducible assumption)) | (refine' real_m2 ?a ?b; (case a => with_reducible assumption); (case b => with_reducible assumption))); (case b3 => omega); (case b4 => omega); (case l1 => omega); (case l2 => (rename _ ∧ _ ∧ AllLt _ _ => hA); exact allLt_mem hA.2.2))
end

section
open PySem PySem.W PyProof.Rows
set_option Elab.async false
set_option maxRecDepth 100000
set_option maxHeartbeats 8000000
/- the ends of the walks whose ways meet -/
noncomputable def digV (n : Int) : Str := if n = 0 then Str.ofString "" else Str.ofString (toString n)
noncomputable def sgB (i n : Int) : Bool := if i < 0 then decide (0 < n) else decide (i < 0)
theorem digV_len {n : Int} {k : Nat} (hk : 0 < k) (h0 : 0 ≤ n) (h : n < 10 ^ k) : (digV n).length ≤ k := by
  unfold digV; split
  · exact Nat.zero_le _
  · exact txt_len hk h0 h
theorem digs_eq (n pl : Int) : Txt.mul (Str.ofString "0") (pl - ((digV n).length : Int)) ++ digV n = digsV n pl := by
  unfold digsV digV; split <;> rfl
theorem digsV_len {n pl : Int} {d : Str} (hd : d = digsV n pl) (h0 : 0 ≤ n) (h1 : n < 10 ^ 100) (p7 : 0 ≤ pl) (p8 : pl ≤ 20) : d.length ≤ 120 ∧ pl ≤ (d.length : Int) := by
  have a := digV_len (k := 100) (by decide) h0 h1
  have b := len_one "0" (by decide) (pl - ((digV n).length : Int))
  rw [hd, ← digs_eq, len_app]
  push_cast
  rw [b]
  split <;> omega
theorem fixed_end {i j wd pl sc n : Int} {b : Bool} {d sg o : Str} (hn : n = scaledV (absV i) (j + sc + pl)) (hd : d = digsV n pl) (hg : sg = signV (sgB i n) b)
    (ho : o = pointV sg (Txt.slice d none (some ((d.length : Int) - pl))) (Txt.slice d (some ((d.length : Int) - pl)) none) wd) : o = fixedV i j wd pl sc b := by
  subst hn hd hg ho; unfold fixedV sgB; split <;> rfl
/- a text made of two, behind a letter -/
theorem add_let {prog : Program} {w : World} {A : Around} {E : Value → Shared → Prop} {s : Shared} {x y : Str} {t u : Tok} {Q : Value → Shared → Prop} {K L : Nat} (hx : x.length ≤ K) (hy : y.length ≤ L) (hs : K + L ≤ 16777216)
    (h : ∀ r t' k, r = x ++ y → r.length ≤ K + L → Q (.str r t') { s with toks := k }) : wpAny (model prog w) A (binaryOp .Add (.str x t) (.str y u)) Q E s :=
  KXadd.add hx hy hs fun t' k hl => h _ t' k rfl (Nat.le_trans hl.2 (Nat.add_le_add hx hy))
theorem mul0_le {n : Int} (h : n ≤ 20) : (Txt.mul (Str.ofString "0") n).length ≤ 20 := by
  have := len_one "0" (by decide) n
  split at this <;> omega
/- the ends of edit_exp -/
theorem countV_facts {pl sc : Int} (p7 : 0 ≤ pl) (p8 : pl ≤ 20) (r1 : -pl < sc) (r2 : sc ≤ pl + 1) : 0 ≤ countV pl sc ∧ countV pl sc ≤ 50 := by unfold countV; split <;> omega
theorem powV_facts {i j pl sc : Int} {y : Int} (hy : y = (leadV i j (countV pl sc)).2) (h0 : -100 ≤ y) (h1 : y ≤ 100) (r1 : -pl < sc) (r2 : sc ≤ pl + 1) (p8 : pl ≤ 20) : -900 < powV i j pl sc ∧ powV i j pl sc < 900 := by
  unfold powV; rw [← hy]; split <;> omega
theorem pow_y {i j pl sc : Int} {y : Int} (hy : y = (leadV i j (countV pl sc)).2) (h : i = 0) : y = powV i j pl sc := by unfold powV; rw [if_pos h]; exact hy
theorem pow_n {i j pl sc : Int} {y : Int} (hy : y = (leadV i j (countV pl sc)).2) (h : i ≠ 0) : y - sc = powV i j pl sc := by unfold powV; rw [if_neg h, ← hy]
theorem exp_e0 {l : Str} {i j wd pl sc : Int} {o : Option Int} {b : Bool} (hx : expoV l (powV i j pl sc) o = none) : Txt.mul (Str.ofString "*") wd = expV l i j wd pl o sc b := by
  unfold expV; rw [hx]; rfl
theorem exp_e1 {l : Str} {i j wd pl sc : Int} {o : Option Int} {b : Bool} {x t sg r : Str} (hd : x = (leadV i j (countV pl sc)).1) (hx : expoV l (powV i j pl sc) o = some t) (hg : sg = signV (decide (i < 0)) b) (hs : 0 < sc) {r1 : Str} (hr1 : r1 = Txt.slice x (some sc) none ++ t)
    (ho : r = pointV sg (Txt.slice x none (some sc)) r1 wd) : r = expV l i j wd pl o sc b := by
  subst hd hg ho hr1; unfold expV; rw [hx]; unfold expT; simp only []; rw [if_neg (show ¬ sc ≤ 0 by omega)]
theorem exp_e2 {l : Str} {i j wd pl sc : Int} {o : Option Int} {b : Bool} {x t sg r : Str} (hd : x = (leadV i j (countV pl sc)).1) (hx : expoV l (powV i j pl sc) o = some t) (hg : sg = signV (decide (i < 0)) b) (hs : sc ≤ 0) {r1 r2 : Str} (hr1 : r1 = Txt.mul (Str.ofString "0") (-sc) ++ x) (hr2 : r2 = r1 ++ t)
    (ho : r = pointV sg (Str.ofString "") r2 wd) : r = expV l i j wd pl o sc b := by
  subst hd hg ho hr2 hr1; unfold expV; rw [hx]; unfold expT; simp only []; rw [if_pos hs]
theorem blanks_facts {sz : Value} {o : Option Int} (hz : SzIs sz o) : 3 ≤ blanks o ∧ blanks o ≤ 5 := by
  rcases hz with ⟨_, rfl⟩ | ⟨z, _, _, rfl, _, _⟩
  · exact ⟨by decide, by decide⟩
  · show 3 ≤ z + 2 ∧ z + 2 ≤ 5; omega
/- the ends of leading -/
theorem lead_d {i j c n : Int} (hn : n = scaledV (absV i) (c - ((Str.ofString (toString (absV i))).length : Int))) (h0 : absV i ≠ 0) (h : c < ((Str.ofString (toString n)).length : Int)) :
    Txt.slice (Str.ofString (toString n)) none (some c) = (leadV i j c).1 := by subst hn; unfold leadV; rw [if_neg h0, if_pos h]
theorem lead_d1 {i j c n : Int} (hn : n = scaledV (absV i) (c - ((Str.ofString (toString (absV i))).length : Int))) (h0 : absV i ≠ 0) (h : ¬ c < ((Str.ofString (toString n)).length : Int)) :
    Str.ofString (toString n) = (leadV i j c).1 := by subst hn; unfold leadV; rw [if_neg h0, if_neg h]
theorem lead_p {i j c n : Int} (hn : n = scaledV (absV i) (c - ((Str.ofString (toString (absV i))).length : Int))) (h0 : absV i ≠ 0) (h : c < ((Str.ofString (toString n)).length : Int)) :
    ((Str.ofString (toString (absV i))).length : Int) + j + 1 = (leadV i j c).2 := by subst hn; unfold leadV; rw [if_neg h0, if_pos h]
theorem lead_p1 {i j c n : Int} (hn : n = scaledV (absV i) (c - ((Str.ofString (toString (absV i))).length : Int))) (h0 : absV i ≠ 0) (h : ¬ c < ((Str.ofString (toString n)).length : Int)) :
    ((Str.ofString (toString (absV i))).length : Int) + j = (leadV i j c).2 := by subst hn; unfold leadV; rw [if_neg h0, if_neg h]
/- the law's side -/
theorem lcountV_facts {pl sc : Int} (p7 : 0 ≤ pl) (p8 : pl ≤ 20) (r1 : -pl < sc) (r2 : sc ≤ pl + 1) : 0 ≤ lcountV pl sc ∧ lcountV pl sc ≤ 50 := by unfold lcountV; split <;> omega
theorem lpowV_facts {i j pl sc : Int} {y : Int} (hy : y = (lleadV i j (lcountV pl sc)).2) (h0 : -300 ≤ y) (h1 : y ≤ 300) (r1 : -pl < sc) (r2 : sc ≤ pl + 1) (p8 : pl ≤ 20) : -900 < lpowV i j pl sc ∧ lpowV i j pl sc < 900 := by
  unfold lpowV; rw [← hy]; split <;> omega
theorem lpow_y {i j pl sc : Int} (h : i = 0) : 0 = lpowV i j pl sc := by unfold lpowV; rw [if_pos h]
theorem lpow_n {i j pl sc : Int} {y : Int} (hy : y = (lleadV i j (lcountV pl sc)).2) (h : i ≠ 0) : y - sc = lpowV i j pl sc := by unfold lpowV; rw [if_neg h, ← hy]
theorem lexp_e0 {l : Str} {i j wd pl sc : Int} {o : Option Int} {b : Bool} (hx : expoV l (lpowV i j pl sc) o = none) : Txt.mul (Str.ofString "*") wd = lexpV l i j wd pl o sc b := by
  unfold lexpV; rw [hx]; rfl
theorem lexp_e1 {l : Str} {i j wd pl sc : Int} {o : Option Int} {b : Bool} {x t sg r : Str} (hd : x = (lleadV i j (lcountV pl sc)).1) (hx : expoV l (lpowV i j pl sc) o = some t) (hg : sg = signV (decide (i < 0)) b) (hs : 0 < sc) {r1 r2 r3 r4 : Str} (hr1 : r1 = sg ++ Txt.slice x none (some sc)) (hr2 : r2 = r1 ++ Str.ofString ".") (hr3 : r3 = r2 ++ Txt.slice x (some sc) none) (hr4 : r4 = r3 ++ t)
    (ho : r = lfield1 r4 wd) : r = lexpV l i j wd pl o sc b := by
  subst hd ho hr4 hr3 hr2 hr1 hg; unfold lexpV; rw [hx]; unfold lexpT; simp only []; rw [if_pos hs]
theorem lexp_e2 {l : Str} {i j wd pl sc : Int} {o : Option Int} {b : Bool} {x t sg r : Str} (hd : x = (lleadV i j (lcountV pl sc)).1) (hx : expoV l (lpowV i j pl sc) o = some t) (hg : sg = signV (decide (i < 0)) b) (hs : ¬ 0 < sc) {r1 r2 r3 r4 r5 r6 : Str} (hr1 : r1 = Str.ofString "." ++ Txt.mul (Str.ofString "0") (-sc)) (hr2 : r2 = r1 ++ x) (hr3 : r3 = r2 ++ t) (hr4 : r4 = sg ++ Str.ofString "0") (hr5 : r5 = r4 ++ r3) (hr6 : r6 = sg ++ r3)
    (ho : r = lfield2 r5 r6 wd) : r = lexpV l i j wd pl o sc b := by
  subst hd ho hr6 hr5 hr4 hr3 hr2 hr1 hg; unfold lexpV; rw [hx]; unfold lexpT; simp only []; rw [if_neg hs]
noncomputable def lsB (i : Int) (c : Str) : Bool := if i < 0 then !(Txt.stripChars c (Str.ofString "0") == Str.ofString "") else decide (i < 0)
theorem ls_eq {i k pl : Int} {b : Bool} {c sg : Str} (hc : c = toldV i k pl) (hs : sg = signV (lsB i c) b) : sg = lsgV i k pl b := by
  subst hs hc; unfold lsgV lsB; split <;> rfl
theorem lfy1 {i j pl wd : Int} {b : Bool} {x y c sg o : Str} (hx : x = (spreadV (absV i) j).1) (hy : y = (spreadV (absV i) j).2) (hc : c = cutV (x ++ y) ((x.length : Int) + pl)) (hs : sg = signV (lsB i c) b)
    (h1 : (Txt.slice c none (some ((c.length : Int) - pl)) == Str.ofString "") = true) (h2 : (Txt.slice c (some ((c.length : Int) - pl)) none != Str.ofString "") = true)
    {r1 r2 r3 r4 : Str} (hr1 : r1 = sg ++ Str.ofString "0.") (hr2 : r2 = r1 ++ Txt.slice c (some ((c.length : Int) - pl)) none) (hr3 : r3 = sg ++ Str.ofString ".") (hr4 : r4 = r3 ++ Txt.slice c (some ((c.length : Int) - pl)) none) (ho : o = lfield2 r2 r4 wd) : o = lfixedV i j wd pl b := by
  subst hx hy hr4 hr3 hr2 hr1
  have hc' : c = toldV i j pl := hc
  have e := ls_eq hc' hs
  clear hc hs; subst hc' e
  unfold lfixedV aheadV behindV
  rw [if_pos h1, if_neg (by rw [neq_t h2]; decide)]
  exact ho
theorem lfy2 {i j pl wd : Int} {b : Bool} {x y c sg o : Str} (hx : x = (spreadV (absV i) j).1) (hy : y = (spreadV (absV i) j).2) (hc : c = cutV (x ++ y) ((x.length : Int) + pl)) (hs : sg = signV (lsB i c) b)
    (h1 : (Txt.slice c none (some ((c.length : Int) - pl)) == Str.ofString "") = true) (h2 : (Txt.slice c (some ((c.length : Int) - pl)) none != Str.ofString "") = false)
    {r1 r2 r3 : Str} (hr1 : r1 = sg ++ Str.ofString "0") (hr2 : r2 = r1 ++ Str.ofString ".") (hr3 : r3 = r2 ++ Txt.slice c (some ((c.length : Int) - pl)) none) (ho : o = lfield1 r3 wd) : o = lfixedV i j wd pl b := by
  subst hx hy hr3 hr2 hr1
  have hc' : c = toldV i j pl := hc
  have e := ls_eq hc' hs
  clear hc hs; subst hc' e
  unfold lfixedV aheadV behindV
  rw [if_pos h1, if_pos (neq_f h2)]
  exact ho
theorem lfy3 {i j pl wd : Int} {b : Bool} {x y c sg o : Str} (hx : x = (spreadV (absV i) j).1) (hy : y = (spreadV (absV i) j).2) (hc : c = cutV (x ++ y) ((x.length : Int) + pl)) (hs : sg = signV (lsB i c) b)
    (h1 : (Txt.slice c none (some ((c.length : Int) - pl)) == Str.ofString "") = false)
    {r1 r2 r3 : Str} (hr1 : r1 = sg ++ Txt.slice c none (some ((c.length : Int) - pl))) (hr2 : r2 = r1 ++ Str.ofString ".") (hr3 : r3 = r2 ++ Txt.slice c (some ((c.length : Int) - pl)) none) (ho : o = lfield1 r3 wd) : o = lfixedV i j wd pl b := by
  subst hx hy hr3 hr2 hr1
  have hc' : c = toldV i j pl := hc
  have e := ls_eq hc' hs
  clear hc hs; subst hc' e
  unfold lfixedV aheadV behindV
  rw [if_neg (by rw [h1]; decide)]
  exact ho
theorem lg_t1 {i j pl : Int} {x : Str} (hx : x = (spreadV (absV i) j).1) (h : pl < (x.length : Int)) : (true = true) ↔ lgenB i j pl := ⟨fun _ => lgen_y1 hx h, fun _ => rfl⟩
theorem lg_t2 {i j pl : Int} {x : Str} (hx : x = (spreadV (absV i) j).1) (h : ¬ pl < (x.length : Int)) (h1 : (x == Str.ofString "") = false) : (false = true) ↔ lgenB i j pl :=
  ⟨fun q => Bool.noConfusion q, fun q => absurd q (lgen_n2 hx h h1)⟩

theorem gen_no {i j pl : Int} (hl : lgenB i j pl) (h : 0 ≤ pl) : genfixV i j pl = false := by
  cases e : genfixV i j pl with
  | false => rfl
  | true => exact absurd hl ((gen_law h).1 e)
theorem lg_x {i j wd pl : Int} {o : Option Int} {sc : Int} {b : Bool} {x : Value} (hl : lgenB i j pl) (p7 : 0 ≤ pl) (hx : ExpIs (Str.ofString "E") i j wd pl o sc b x) : GenIs i j wd pl o sc b x := .inr ⟨gen_no hl p7, hx⟩
theorem lg_f {i j wd pl : Int} {o : Option Int} {sc : Int} {b : Bool} {r : Str} {t : Tok} (hl : ¬ lgenB i j pl) (p7 : 0 ≤ pl) (e : r = lgfixB (blanks o) i j wd pl b) : GenIs i j wd pl o sc b (.str r t) :=
  .inl ⟨(gen_law p7).2 hl, t, by rw [e]; exact congrArg (Value.str · t) (gfix_law p7 ((gen_law p7).2 hl)).symm⟩
theorem lg_t4 {i j pl : Int} {x y : Str} (hx : x = (spreadV (absV i) j).1) (hy : y = (spreadV (absV i) j).2) (h1 : (x == Str.ofString "") = true)
    (h2 : ([Str.ofString "", Str.ofString "0"].any fun z => z == Txt.slice y none (some 1)) = true) : (true = true) ↔ lgenB i j pl := ⟨fun _ => lgen_y2 hx hy h1 h2, fun _ => rfl⟩
theorem lg_t5 {i j pl : Int} {x y : Str} (hx : x = (spreadV (absV i) j).1) (hy : y = (spreadV (absV i) j).2) (h : ¬ pl < (x.length : Int))
    (h2 : ([Str.ofString "", Str.ofString "0"].any fun z => z == Txt.slice y none (some 1)) = false) : (false = true) ↔ lgenB i j pl := ⟨fun q => Bool.noConfusion q, fun q => absurd q (lgen_n1 hx hy h h2)⟩
theorem lg_len {i j pl : Int} {x : Str} (hx : x = (spreadV (absV i) j).1) (h : ¬ lgenB i j pl) : (x.length : Int) ≤ pl := by
  exact Int.not_lt.mp fun q => h (lgen_y1 hx q)
/- the ends of point_field -/
theorem pt_1 {sg wh rs r1 r2 r3 o : Str} {n : Int} (h1 : (wh == Str.ofString "") = true) (h2 : (rs == Str.ofString "") = true) (hr1 : r1 = sg ++ Str.ofString "0") (hr2 : r2 = r1 ++ Str.ofString ".") (hr3 : r3 = r2 ++ rs) (ho : o = fieldV r3 n) : o = pointV sg wh rs n := by
  subst ho hr3 hr2 hr1; unfold pointV; rw [if_pos h1, if_pos h2]
theorem pt_2 {sg wh rs r1 r2 o : Str} {n : Int} (h1 : (wh == Str.ofString "") = true) (h2 : (rs == Str.ofString "") = false) (hr1 : r1 = sg ++ Str.ofString "0.") (hr2 : r2 = r1 ++ rs) (h3 : (r2.length : Int) ≤ n) (ho : o = fieldV r2 n) : o = pointV sg wh rs n := by
  subst ho hr2 hr1; unfold pointV; rw [if_pos h1, if_neg (not_t h2), if_pos h3]
theorem pt_3 {sg wh rs r1 r2 q1 q2 q3 o : Str} {n : Int} (h1 : (wh == Str.ofString "") = true) (h2 : (rs == Str.ofString "") = false) (hr1 : r1 = sg ++ Str.ofString "0.") (hr2 : r2 = r1 ++ rs) (h3 : ¬ (r2.length : Int) ≤ n) (hq1 : q1 = sg ++ wh) (hq2 : q2 = q1 ++ Str.ofString ".") (hq3 : q3 = q2 ++ rs) (ho : o = fieldV q3 n) : o = pointV sg wh rs n := by
  subst ho hq3 hq2 hq1; rw [hr2, hr1] at h3; unfold pointV; rw [if_pos h1, if_neg (not_t h2), if_neg h3]
theorem pt_4 {sg wh rs q1 q2 q3 o : Str} {n : Int} (h1 : (wh == Str.ofString "") = false) (hq1 : q1 = sg ++ wh) (hq2 : q2 = q1 ++ Str.ofString ".") (hq3 : q3 = q2 ++ rs) (ho : o = fieldV q3 n) : o = pointV sg wh rs n := by
  subst ho hq3 hq2 hq1; unfold pointV; rw [if_neg (not_t h1)]
/- the ends of _law_spread and _law_cut -/
theorem pad_d {n k : Int} {d : Str} (hd : d = padV n k) (h0 : 0 ≤ n) (h1 : n < 10 ^ 10) (hk : -50 ≤ k) (hk' : k < 0) : -k ≤ (d.length : Int) ∧ d.length ≤ 60 := hd ▸ padV_len h0 h1 hk hk'
theorem sp_1a {n k : Int} (h : 0 ≤ k) : Txt.lstripChars (Str.ofString (toString n) ++ Txt.mul (Str.ofString "0") k) (Str.ofString "0") = (spreadV n k).1 := by unfold spreadV; rw [if_pos h]
theorem sp_1b {n k : Int} (h : 0 ≤ k) : Str.ofString "" = (spreadV n k).2 := by unfold spreadV; rw [if_pos h]
theorem sp_2a {n k : Int} {d : Str} (hd : d = padV n k) (h : ¬ 0 ≤ k) : Txt.lstripChars (Txt.slice d none (some ((d.length : Int) + k))) (Str.ofString "0") = (spreadV n k).1 := by subst hd; unfold spreadV; rw [if_neg h]
theorem sp_2b {n k : Int} {d : Str} (hd : d = padV n k) (h : ¬ 0 ≤ k) : Txt.slice d (some ((d.length : Int) + k)) none = (spreadV n k).2 := by subst hd; unfold spreadV; rw [if_neg h]
theorem cutD_d {x d : Str} {n : Int} (hd : d = cutD x n) (h0 : 0 ≤ n) (h1 : n ≤ 110) (h2 : x.length ≤ 110) : n + 1 ≤ (d.length : Int) ∧ d.length ≤ 120 := by
  have e := cutD_len x n
  subst hd
  split at e <;> omega
theorem ct_1 {x d : Str} {n : Int} (hd : d = cutD x n) (h : (Txt.item d n).cps.toList < (Str.ofString "5").cps.toList) : Txt.slice d none (some n) = cutV x n := by
  subst hd; unfold cutV; exact (if_pos h).symm
theorem ct_2 {x d : Str} {n : Int} (hd : d = cutD x n) (h : ¬ (Txt.item d n).cps.toList < (Str.ofString "5").cps.toList) :
    Txt.mul (Str.ofString "0") (n - ((Str.ofString (toString (cutN x n + 1))).length : Int)) ++ Str.ofString (toString (cutN x n + 1)) = cutV x n := by
  subst hd; unfold cutV; exact (if_neg h).symm
/- the ends of exponent_text and _law_power -/
theorem xn_1 {l r1 r2 r3 : Str} {p : Int} (h : ((Str.ofString (toString (absV p))).length : Int) ≤ 2) (hr1 : r1 = l ++ sgV p) (hr2 : r2 = r1 ++ Txt.mul (Str.ofString "0") (2 - ((Str.ofString (toString (absV p))).length : Int))) (hr3 : r3 = r2 ++ Str.ofString (toString (absV p))) : expoV l p none = some r3 := by
  subst hr3 hr2 hr1; unfold expoV; rw [if_pos h]
theorem xn_2 {l r1 : Str} {p : Int} (h : ((Str.ofString (toString (absV p))).length : Int) = 3) (hr1 : r1 = sgV p ++ Str.ofString (toString (absV p))) : expoV l p none = some r1 := by
  subst hr1; unfold expoV; rw [if_neg (by rw [h]; decide), if_pos h]
theorem xz_1 {l r1 r2 r3 : Str} {p z : Int} (h : ((Str.ofString (toString (absV p))).length : Int) ≤ z) (hr1 : r1 = l ++ sgV p) (hr2 : r2 = r1 ++ Txt.mul (Str.ofString "0") (z - ((Str.ofString (toString (absV p))).length : Int))) (hr3 : r3 = r2 ++ Str.ofString (toString (absV p))) : expoV l p (some z) = some r3 := by
  subst hr3 hr2 hr1; exact if_neg (Int.not_lt.mpr h)
end

section
open PySem PySem.W PyProof.Rows
set_option Elab.async false
set_option maxRecDepth 100000
set_option maxHeartbeats 8000000
theorem u_sign_text {w : World} {mean : ExcName → Option Value} {mg mb : Str → Option Value} {dp un : Nat} {gd : Option (List Code)} {cn : Str} {cs : Scope} {a : Addr} {ccd : Value} {cl : List (Str × Addr)} {outer : List Env} {A₀ : Around} {base h₀ : Heap} {L : Addr} {m : Str → Option Value} {news : List (Addr × Obj)} {s : Shared} {Q E : Value → Shared → Prop} {p q : Bool}
  (B : Below A₀ base outer h₀) (F : Fr h₀ L s.heap m) (X : (hd.heap_39 w.params).In h₀) (N : News h₀ L s.heap (news)) (T : Top hd.view_39 (looseW hd.view_39 []) mean mg mb h₀) (hk : cs.kind = .function) (hdp : dp + 2 < recursionLimit) (hun : un + 16 < cLine)
  
  (hret : ∀ (y : Str) (t : Tok) (h' : Heap) (tk' : Nat), y = signV p q → Fr h₀ L h' m → News h₀ L h' (news) → y.length ≤ 1 → Q (.str y t) { s with heap := h', toks := tk' }) :
  wpAny (model Challenge.rw_no0228_01.row.prog w) (ktrTop dp un gd cn cs L a ccd cl outer) (call (.ref 67) [.bool p, .bool q]) Q E s := by
  k_with_none
  k_with_none
  (k_with "storeName" => (k_here; k_dflt (refine' store_let ?zsF ?zsN ?_ ?zsa ?zsb; (case zsF => k_asm); (case zsN => k_asm); (case zsa => first | rfl | assumption); (case zsb => rfl)); k_whole; intro m' h' F' N'; (try k_sweep)))
  (k_with "spliced" => (k_here; first | (with_reducible refine' args_n7 ?zaF ?za1 ?za2 ?za3 ?za4 ?za5 ?za6 ?za7 ?_ ?zak ?zax; (case zaF => k_dflt k_asm); (case za1 => with_unfolding_all rfl); (case za2 => with_unfolding_all rfl); (case za3 => with_unfolding_all rfl); (case za4 => with_unfolding_all rfl); (case za5 => with_unfolding_all rfl); (case za6 => with_unfolding_all rfl); (case za7 => with_unfolding_all rfl); (case zak => first | exact rfl | assumption); (case zax => with_unfolding_all rfl)) | (with_reducible refine' args_n6 ?zaF ?za1 ?za2 ?za3 ?za4 ?za5 ?za6 ?_ ?zak ?zax; (case zaF => k_dflt k_asm); (case za1 => with_unfolding_all rfl); (case za2 => with_unfolding_all rfl); (case za3 => with_unfolding_all rfl); (case za4 => with_unfolding_all rfl); (case za5 => with_unfolding_all rfl); (case za6 => with_unfolding_all rfl); (case zak => first | exact rfl | assumption); (case zax => with_unfolding_all rfl)) | (with_reducible refine' args_n5 ?zaF ?za1 ?za2 ?za3 ?za4 ?za5 ?_ ?zak ?zax; (case zaF => k_dflt k_asm); (case za1 => with_unfolding_all rfl); (case za2 => with_unfolding_all rfl); (case za3 => with_unfolding_all rfl); (case za4 => with_unfolding_all rfl); (case za5 => with_unfolding_all rfl); (case zak => first | exact rfl | assumption); (case zax => with_unfolding_all rfl)) | (with_reducible refine' args_n4 ?zaF ?za1 ?za2 ?za3 ?za4 ?_ ?zak ?zax; (case zaF => k_dflt k_asm); (case za1 => with_unfolding_all rfl); (case za2 => with_unfolding_all rfl); (case za3 => with_unfolding_all rfl); (case za4 => with_unfolding_all rfl); (case zak => first | exact rfl | assumption); (case zax => with_unfolding_all rfl)) | (with_reducible refine' args_n3 ?zaF ?za1 ?za2 ?za3 ?_ ?zak ?zax; (case zaF => k_dflt k_asm); (case za1 => with_unfolding_all rfl); (case za2 => with_unfolding_all rfl); (case za3 => with_unfolding_all rfl); (case zak => first | exact rfl | assumption); (case zax => with_unfolding_all rfl)) | (with_reducible refine' args_n2 ?zaF ?za1 ?za2 ?_ ?zak ?zax; (case zaF => k_dflt k_asm); (case za1 => with_unfolding_all rfl); (case za2 => with_unfolding_all rfl); (case zak => first | exact rfl | assumption); (case zax => with_unfolding_all rfl))))
  revert X; k_fill; intro X
  obtain ⟨z0, z1, z2, z3, z4, z5⟩ := lens
  have hr2 := fun t h' tk' F N => hret _ t h' tk' rfl F N (signV_len p q)
  refine wpAny_call ?_
  k_dflt cell_enter
  (rename Fr _ _ _ _ => zF0); (refine fr_let zF0 ?_); clear zF0; intro m' zF1
  (refine env_let ?_); intro env' A'
  k_steps
  all_goals (first
    | (refine cb_retS (Q := Q) hr2 ?e1 ?e2 ?e3; (case e2 => k_asm); (case e3 => k_asm); (case e1 => first | ((simp (disch := first | with_reducible assumption | (refine not_t ?_; with_reducible assumption)) only [signV, if_pos, if_neg]); done) | ((simp (disch := first | with_reducible assumption | (refine not_t ?_; with_reducible assumption)) only [signV, if_pos, if_neg]); rfl))))
end

section
open PySem PySem.W PyProof.Rows
set_option Elab.async false
set_option maxRecDepth 100000
set_option maxHeartbeats 8000000
theorem u_scaled {w : World} {mean : ExcName → Option Value} {mg mb : Str → Option Value} {dp un : Nat} {gd : Option (List Code)} {cn : Str} {cs : Scope} {a : Addr} {ccd : Value} {cl : List (Str × Addr)} {outer : List Env} {A₀ : Around} {base h₀ : Heap} {L : Addr} {m : Str → Option Value} {news : List (Addr × Obj)} {s : Shared} {Q E : Value → Shared → Prop} {n : Int} {t1 : Tok} {k : Int} {t2 : Tok}
  (B : Below A₀ base outer h₀) (F : Fr h₀ L s.heap m) (X : (hd.heap_39 w.params).In h₀) (N : News h₀ L s.heap (news)) (T : Top hd.view_39 (looseW hd.view_39 []) mean mg mb h₀) (hk : cs.kind = .function) (hdp : dp + 2 < recursionLimit) (hun : un + 16 < cLine)
  (p1 : 0 ≤ n) (p2 : n < 10 ^ 10) (p3 : -90 ≤ k) (p4 : k ≤ 90)
  (hret : ∀ (y : Int) (t : Tok) (h' : Heap) (tk' : Nat), y = scaledV n k → Fr h₀ L h' m → News h₀ L h' (news) → 0 ≤ y → y < 10 ^ 100 → Q (.int y t) { s with heap := h', toks := tk' }) :
  wpAny (model Challenge.rw_no0228_01.row.prog w) (ktrTop dp un gd cn cs L a ccd cl outer) (call (.ref 74) [.int n t1, .int k t2]) Q E s := by
  k_with_none
  k_with_none
  (k_with "storeName" => (k_here; k_dflt (refine' store_let ?zsF ?zsN ?_ ?zsa ?zsb; (case zsF => k_asm); (case zsN => k_asm); (case zsa => first | rfl | assumption); (case zsb => rfl)); k_whole; intro m' h' F' N'; (try k_sweep)))
  (k_with "spliced" => (k_here; first | (with_reducible refine' args_n7 ?zaF ?za1 ?za2 ?za3 ?za4 ?za5 ?za6 ?za7 ?_ ?zak ?zax; (case zaF => k_dflt k_asm); (case za1 => with_unfolding_all rfl); (case za2 => with_unfolding_all rfl); (case za3 => with_unfolding_all rfl); (case za4 => with_unfolding_all rfl); (case za5 => with_unfolding_all rfl); (case za6 => with_unfolding_all rfl); (case za7 => with_unfolding_all rfl); (case zak => first | exact rfl | assumption); (case zax => with_unfolding_all rfl)) | (with_reducible refine' args_n6 ?zaF ?za1 ?za2 ?za3 ?za4 ?za5 ?za6 ?_ ?zak ?zax; (case zaF => k_dflt k_asm); (case za1 => with_unfolding_all rfl); (case za2 => with_unfolding_all rfl); (case za3 => with_unfolding_all rfl); (case za4 => with_unfolding_all rfl); (case za5 => with_unfolding_all rfl); (case za6 => with_unfolding_all rfl); (case zak => first | exact rfl | assumption); (case zax => with_unfolding_all rfl)) | (with_reducible refine' args_n5 ?zaF ?za1 ?za2 ?za3 ?za4 ?za5 ?_ ?zak ?zax; (case zaF => k_dflt k_asm); (case za1 => with_unfolding_all rfl); (case za2 => with_unfolding_all rfl); (case za3 => with_unfolding_all rfl); (case za4 => with_unfolding_all rfl); (case za5 => with_unfolding_all rfl); (case zak => first | exact rfl | assumption); (case zax => with_unfolding_all rfl)) | (with_reducible refine' args_n4 ?zaF ?za1 ?za2 ?za3 ?za4 ?_ ?zak ?zax; (case zaF => k_dflt k_asm); (case za1 => with_unfolding_all rfl); (case za2 => with_unfolding_all rfl); (case za3 => with_unfolding_all rfl); (case za4 => with_unfolding_all rfl); (case zak => first | exact rfl | assumption); (case zax => with_unfolding_all rfl)) | (with_reducible refine' args_n3 ?zaF ?za1 ?za2 ?za3 ?_ ?zak ?zax; (case zaF => k_dflt k_asm); (case za1 => with_unfolding_all rfl); (case za2 => with_unfolding_all rfl); (case za3 => with_unfolding_all rfl); (case zak => first | exact rfl | assumption); (case zax => with_unfolding_all rfl)) | (with_reducible refine' args_n2 ?zaF ?za1 ?za2 ?_ ?zak ?zax; (case zaF => k_dflt k_asm); (case za1 => with_unfolding_all rfl); (case za2 => with_unfolding_all rfl); (case zak => first | exact rfl | assumption); (case zax => with_unfolding_all rfl))))
  (k_with "binaryOp FloorDiv int int" => (k_here; (refine floordiv_int (by omega) ?_ (Or.inl (by assumption)))))
  revert X; k_fill; intro X
  obtain ⟨z0, z1, z2, z3, z4, z5⟩ := lens
  have hr2 := fun t h' tk' F N => hret _ t h' tk' rfl F N (scaledV_nonneg (k := k) p1) (scaledV_lt p1 p2 p4)
  have hpw : (0 : Int) < 10 ^ (-k).toNat := Int.pow_pos (by decide)
  have hnp : Builtin.divisionGoesByPylong (2 * n + 10 ^ (-k).toNat) (2 * 10 ^ (-k).toNat) = false := noPy (by omega)
  refine wpAny_call ?_
  k_dflt cell_enter
  (rename Fr _ _ _ _ => zF0); (refine fr_let zF0 ?_); clear zF0; intro m' zF1
  (refine env_let ?_); intro env' A'
  k_steps
  all_goals (first
    | (refine cb_retI (Q := Q) hr2 ?e1 ?e2 ?e3; (case e2 => k_asm); (case e3 => k_asm); (case e1 => first | ((simp (disch := first | with_reducible assumption | (refine not_t ?_; with_reducible assumption)) only [scaledV, if_pos, if_neg]); done) | ((simp (disch := first | with_reducible assumption | (refine not_t ?_; with_reducible assumption)) only [scaledV, if_pos, if_neg]); rfl))))
end

section
open PySem PySem.W PyProof.Rows
set_option Elab.async false
set_option maxRecDepth 100000
set_option maxHeartbeats 8000000
theorem u_field {w : World} {mean : ExcName → Option Value} {mg mb : Str → Option Value} {dp un : Nat} {gd : Option (List Code)} {cn : Str} {cs : Scope} {a : Addr} {ccd : Value} {cl : List (Str × Addr)} {outer : List Env} {A₀ : Around} {base h₀ : Heap} {L : Addr} {m : Str → Option Value} {news : List (Addr × Obj)} {s : Shared} {Q E : Value → Shared → Prop} {x : Str} {t1 : Tok} {n : Int} {t2 : Tok}
  (B : Below A₀ base outer h₀) (F : Fr h₀ L s.heap m) (X : (hd.heap_39 w.params).In h₀) (N : News h₀ L s.heap (news)) (T : Top hd.view_39 (looseW hd.view_39 []) mean mg mb h₀) (hk : cs.kind = .function) (hdp : dp + 2 < recursionLimit) (hun : un + 16 < cLine)
  (p1 : x.length ≤ 300) (p2 : 0 ≤ n) (p3 : n ≤ 100)
  (hret : ∀ (y : Str) (t : Tok) (h' : Heap) (tk' : Nat), y = fieldV x n → Fr h₀ L h' m → News h₀ L h' (news) → (y.length : Int) = n → Q (.str y t) { s with heap := h', toks := tk' }) :
  wpAny (model Challenge.rw_no0228_01.row.prog w) (ktrTop dp un gd cn cs L a ccd cl outer) (call (.ref 60) [.str x t1, .int n t2]) Q E s := by
  k_with_none
  k_with_none
  (k_with "storeName" => (k_here; k_dflt (refine' store_let ?zsF ?zsN ?_ ?zsa ?zsb; (case zsF => k_asm); (case zsN => k_asm); (case zsa => first | rfl | assumption); (case zsb => rfl)); k_whole; intro m' h' F' N'; (try k_sweep)))
  (k_with "spliced" => (k_here; first | (with_reducible refine' args_n7 ?zaF ?za1 ?za2 ?za3 ?za4 ?za5 ?za6 ?za7 ?_ ?zak ?zax; (case zaF => k_dflt k_asm); (case za1 => with_unfolding_all rfl); (case za2 => with_unfolding_all rfl); (case za3 => with_unfolding_all rfl); (case za4 => with_unfolding_all rfl); (case za5 => with_unfolding_all rfl); (case za6 => with_unfolding_all rfl); (case za7 => with_unfolding_all rfl); (case zak => first | exact rfl | assumption); (case zax => with_unfolding_all rfl)) | (with_reducible refine' args_n6 ?zaF ?za1 ?za2 ?za3 ?za4 ?za5 ?za6 ?_ ?zak ?zax; (case zaF => k_dflt k_asm); (case za1 => with_unfolding_all rfl); (case za2 => with_unfolding_all rfl); (case za3 => with_unfolding_all rfl); (case za4 => with_unfolding_all rfl); (case za5 => with_unfolding_all rfl); (case za6 => with_unfolding_all rfl); (case zak => first | exact rfl | assumption); (case zax => with_unfolding_all rfl)) | (with_reducible refine' args_n5 ?zaF ?za1 ?za2 ?za3 ?za4 ?za5 ?_ ?zak ?zax; (case zaF => k_dflt k_asm); (case za1 => with_unfolding_all rfl); (case za2 => with_unfolding_all rfl); (case za3 => with_unfolding_all rfl); (case za4 => with_unfolding_all rfl); (case za5 => with_unfolding_all rfl); (case zak => first | exact rfl | assumption); (case zax => with_unfolding_all rfl)) | (with_reducible refine' args_n4 ?zaF ?za1 ?za2 ?za3 ?za4 ?_ ?zak ?zax; (case zaF => k_dflt k_asm); (case za1 => with_unfolding_all rfl); (case za2 => with_unfolding_all rfl); (case za3 => with_unfolding_all rfl); (case za4 => with_unfolding_all rfl); (case zak => first | exact rfl | assumption); (case zax => with_unfolding_all rfl)) | (with_reducible refine' args_n3 ?zaF ?za1 ?za2 ?za3 ?_ ?zak ?zax; (case zaF => k_dflt k_asm); (case za1 => with_unfolding_all rfl); (case za2 => with_unfolding_all rfl); (case za3 => with_unfolding_all rfl); (case zak => first | exact rfl | assumption); (case zax => with_unfolding_all rfl)) | (with_reducible refine' args_n2 ?zaF ?za1 ?za2 ?_ ?zak ?zax; (case zaF => k_dflt k_asm); (case za1 => with_unfolding_all rfl); (case za2 => with_unfolding_all rfl); (case zak => first | exact rfl | assumption); (case zax => with_unfolding_all rfl))))
  revert X; k_fill; intro X
  obtain ⟨z0, z1, z2, z3, z4, z5⟩ := lens
  have hr2 := fun t h' tk' F N => hret _ t h' tk' rfl F N (fieldV_len (x := x) p2 p3)
  refine wpAny_call ?_
  k_dflt cell_enter
  (rename Fr _ _ _ _ => zF0); (refine fr_let zF0 ?_); clear zF0; intro m' zF1
  (refine env_let ?_); intro env' A'
  k_steps
  all_goals (first
    | (refine cb_retS (Q := Q) hr2 ?e1 ?e2 ?e3; (case e2 => k_asm); (case e3 => k_asm); (case e1 => first | ((simp (disch := first | with_reducible assumption | (refine not_t ?_; with_reducible assumption)) only [fieldV, if_pos, if_neg]); done) | ((simp (disch := first | with_reducible assumption | (refine not_t ?_; with_reducible assumption)) only [fieldV, if_pos, if_neg]); rfl))))
end

section
open PySem PySem.W PyProof.Rows
set_option Elab.async false
set_option maxRecDepth 100000
set_option maxHeartbeats 8000000
theorem u_point_field {w : World} {mean : ExcName → Option Value} {mg mb : Str → Option Value} {dp un : Nat} {gd : Option (List Code)} {cn : Str} {cs : Scope} {a : Addr} {ccd : Value} {cl : List (Str × Addr)} {outer : List Env} {A₀ : Around} {base h₀ : Heap} {L : Addr} {m : Str → Option Value} {news : List (Addr × Obj)} {s : Shared} {Q E : Value → Shared → Prop} {x : Str} {t1 : Tok} {y : Str} {t2 : Tok} {z : Str} {t3 : Tok} {n : Int} {t4 : Tok}
  (B : Below A₀ base outer h₀) (F : Fr h₀ L s.heap m) (X : (hd.heap_39 w.params).In h₀) (N : News h₀ L s.heap (news)) (T : Top hd.view_39 (looseW hd.view_39 []) mean mg mb h₀) (hk : cs.kind = .function) (hdp : dp + 3 < recursionLimit) (hun : un + 24 < cLine)
  (p1 : x.length ≤ 1) (p2 : y.length ≤ 130) (p3 : z.length ≤ 130) (p4 : 0 ≤ n) (p5 : n ≤ 100)
  (hret : ∀ (y' : Str) (t : Tok) (h' : Heap) (tk' : Nat), y' = pointV x y z n → Fr h₀ L h' m → News h₀ L h' (news) → (y'.length : Int) = n → Q (.str y' t) { s with heap := h', toks := tk' }) :
  wpAny (model Challenge.rw_no0228_01.row.prog w) (ktrTop dp un gd cn cs L a ccd cl outer) (call (.ref 81) [.str x t1, .str y t2, .str z t3, .int n t4]) Q E s := by
  k_with_none
  k_with_none
  (k_with "storeName" => (k_here; k_dflt (refine' store_let ?zsF ?zsN ?_ ?zsa ?zsb; (case zsF => k_asm); (case zsN => k_asm); (case zsa => first | rfl | assumption); (case zsb => rfl)); k_whole; intro m' h' F' N'; (try k_sweep)))
  (k_with "spliced" => (k_here; first | (with_reducible refine' args_n7 ?zaF ?za1 ?za2 ?za3 ?za4 ?za5 ?za6 ?za7 ?_ ?zak ?zax; (case zaF => k_dflt k_asm); (case za1 => with_unfolding_all rfl); (case za2 => with_unfolding_all rfl); (case za3 => with_unfolding_all rfl); (case za4 => with_unfolding_all rfl); (case za5 => with_unfolding_all rfl); (case za6 => with_unfolding_all rfl); (case za7 => with_unfolding_all rfl); (case zak => first | exact rfl | assumption); (case zax => with_unfolding_all rfl)) | (with_reducible refine' args_n6 ?zaF ?za1 ?za2 ?za3 ?za4 ?za5 ?za6 ?_ ?zak ?zax; (case zaF => k_dflt k_asm); (case za1 => with_unfolding_all rfl); (case za2 => with_unfolding_all rfl); (case za3 => with_unfolding_all rfl); (case za4 => with_unfolding_all rfl); (case za5 => with_unfolding_all rfl); (case za6 => with_unfolding_all rfl); (case zak => first | exact rfl | assumption); (case zax => with_unfolding_all rfl)) | (with_reducible refine' args_n5 ?zaF ?za1 ?za2 ?za3 ?za4 ?za5 ?_ ?zak ?zax; (case zaF => k_dflt k_asm); (case za1 => with_unfolding_all rfl); (case za2 => with_unfolding_all rfl); (case za3 => with_unfolding_all rfl); (case za4 => with_unfolding_all rfl); (case za5 => with_unfolding_all rfl); (case zak => first | exact rfl | assumption); (case zax => with_unfolding_all rfl)) | (with_reducible refine' args_n4 ?zaF ?za1 ?za2 ?za3 ?za4 ?_ ?zak ?zax; (case zaF => k_dflt k_asm); (case za1 => with_unfolding_all rfl); (case za2 => with_unfolding_all rfl); (case za3 => with_unfolding_all rfl); (case za4 => with_unfolding_all rfl); (case zak => first | exact rfl | assumption); (case zax => with_unfolding_all rfl)) | (with_reducible refine' args_n3 ?zaF ?za1 ?za2 ?za3 ?_ ?zak ?zax; (case zaF => k_dflt k_asm); (case za1 => with_unfolding_all rfl); (case za2 => with_unfolding_all rfl); (case za3 => with_unfolding_all rfl); (case zak => first | exact rfl | assumption); (case zax => with_unfolding_all rfl)) | (with_reducible refine' args_n2 ?zaF ?za1 ?za2 ?_ ?zak ?zax; (case zaF => k_dflt k_asm); (case za1 => with_unfolding_all rfl); (case za2 => with_unfolding_all rfl); (case zak => first | exact rfl | assumption); (case zax => with_unfolding_all rfl))))
  (k_with "call ref" => (k_here; (with_reducible show wpAny _ _ (call (Value.ref 60) [Value.str _ _, Value.int _ _]) _ _ _); k_dflt (refine' u_field ?k1 ?k2 ?k3 ?k4 ?k5 ?kK ?kd ?ku ?p0 ?p1 ?p2 ?_); (case k1 => k_asm); (case k2 => k_asm); (case k3 => k_asm); (case k4 => k_asm); (case k5 => k_asm); (case kK => first | exact rfl | assumption); (case kd => first | exact room hdp (by decide) | decide | ktr_room); (case ku => first | exact room hun (by decide) | decide | ktr_units); (case p0 => first | assumption | omega | kt_fact); (case p1 => first | assumption | omega | kt_fact); (case p2 => first | assumption | omega | kt_fact); (intro o' t' h' tk' ho' F' N' l0'); (try dsimp only); (try k_fold); walk_say "CONTRACT field"))
  (k_with "binaryOp Add str str" => (k_here; (with_reducible show wpAny _ _ (binaryOp Operator.Add (Value.str _ _) (Value.str _ _)) _ _ _); (refine' add_let ?zax ?zay ?zas ?_; (case zax => first | ((with_reducible show (PySem.Txt.slice _ _ _).length ≤ _); with_reducible exact Nat.le_trans (PyProof.Txt.length_slice_le _ _ _) (by with_reducible assumption)) | with_reducible assumption | with_reducible exact Nat.le_of_eq (by with_reducible assumption) | exact Nat.le_of_eq (by kln_w) | ((with_reducible show (Txt.mul _ _).length ≤ _); exact mul0_le (by omega))); (case zay => first | ((with_reducible show (PySem.Txt.slice _ _ _).length ≤ _); with_reducible exact Nat.le_trans (PyProof.Txt.length_slice_le _ _ _) (by with_reducible assumption)) | with_reducible assumption | with_reducible exact Nat.le_of_eq (by with_reducible assumption) | exact Nat.le_of_eq (by kln_w) | ((with_reducible show (Txt.mul _ _).length ≤ _); exact mul0_le (by omega))); (case zas => decide)); intro r' t' k' hr' lr'; (try dsimp only)))
  revert X; k_fill; intro X
  obtain ⟨z0, z1, z2, z3, z4, z5⟩ := lens
  have hr2 := fun t h' tk' F N => hret _ t h' tk' rfl F N (pointV_len (sg := x) (wh := y) (rs := z) p4 p5)
  refine wpAny_call ?_
  k_dflt cell_enter
  (rename Fr _ _ _ _ => zF0); (refine fr_let zF0 ?_); clear zF0; intro m' zF1
  (refine env_let ?_); intro env' A'
  k_steps
  all_goals (
    first
    | (refine cb_retS (Q := Q) hr2 ?e0 ?eF ?eN; (case eF => k_asm); (case eN => first | k_asm | exact cb_drop (by assumption) (fun _ hp => .tail _ hp) | exact cb_drop (by assumption) (fun _ hp => .tail _ (.tail _ hp)) | exact cb_drop (by assumption) (fun _ hp => .tail _ (.tail _ (.tail _ hp)))); (case e0 => first | ((with_reducible refine' pt_1 ?zh0 ?zh1 ?zh2 ?zh3 ?zh4 ?zh5); (case zh5 => with_reducible assumption); (case zh4 => with_reducible assumption); (case zh3 => with_reducible assumption); (case zh2 => with_reducible assumption); (case zh1 => with_reducible assumption); (case zh0 => with_reducible assumption)) | ((with_reducible refine' pt_2 ?zh0 ?zh1 ?zh2 ?zh3 ?zh4 ?zh5); (case zh5 => with_reducible assumption); (case zh4 => with_reducible assumption); (case zh3 => with_reducible assumption); (case zh2 => with_reducible assumption); (case zh1 => with_reducible assumption); (case zh0 => with_reducible assumption)) | ((with_reducible refine' pt_3 ?zh0 ?zh1 ?zh2 ?zh3 ?zh4 ?zh5 ?zh6 ?zh7 ?zh8); (case zh8 => with_reducible assumption); (case zh7 => with_reducible assumption); (case zh6 => with_reducible assumption); (case zh5 => with_reducible assumption); (case zh4 => with_reducible assumption); (case zh3 => with_reducible assumption); (case zh2 => with_reducible assumption); (case zh1 => with_reducible assumption); (case zh0 => with_reducible assumption)) | ((with_reducible refine' pt_4 ?zh0 ?zh1 ?zh2 ?zh3 ?zh4); (case zh4 => with_reducible assumption); (case zh3 => with_reducible assumption); (case zh2 => with_reducible assumption); (case zh1 => with_reducible assumption); (case zh0 => with_reducible assumption))); skip))
end

section
open PySem PySem.W PyProof.Rows
set_option Elab.async false
set_option maxRecDepth 100000
set_option maxHeartbeats 8000000
theorem u_edit_fixed {w : World} {mean : ExcName → Option Value} {mg mb : Str → Option Value} {dp un : Nat} {gd : Option (List Code)} {cn : Str} {cs : Scope} {a : Addr} {ccd : Value} {cl : List (Str × Addr)} {outer : List Env} {A₀ : Around} {base h₀ : Heap} {L : Addr} {m : Str → Option Value} {news : List (Addr × Obj)} {s : Shared} {Q E : Value → Shared → Prop} {v : Addr} {i : Int} {u1 : Tok} {j : Int} {u2 : Tok} {wd : Int} {t2 : Tok} {pl : Int} {t3 : Tok} {sc : Int} {t4 : Tok} {b : Bool}
  (B : Below A₀ base outer h₀) (F : Fr h₀ L s.heap m) (X : (hd.heap_39 w.params).In h₀) (N : News h₀ L s.heap (news)) (T : Top hd.view_39 (looseW hd.view_39 []) mean mg mb h₀) (hk : cs.kind = .function) (hdp : dp + 5 < recursionLimit) (hun : un + 40 < cLine)
  (hv : (v, ({ cls := .type "tuple", data := .seq #[.int i u1, .int j u2] } : Obj)) ∈ news) (q1 : -(10 ^ 10) < i) (q2 : i < 10 ^ 10) (q3 : -40 ≤ j) (q4 : j ≤ 40) (p5 : 0 ≤ wd) (p6 : wd ≤ 100) (p7 : 0 ≤ pl) (p8 : pl ≤ 20) (p9 : -20 ≤ sc) (p10 : sc ≤ 20)
  (hret : ∀  (t : Tok) (h' : Heap) (tk' : Nat),  Fr h₀ L h' m → News h₀ L h' (news) → ((fixedV i j wd pl sc b).length : Int) = wd → Q (.str (fixedV i j wd pl sc b) t) { s with heap := h', toks := tk' }) :
  wpAny (model Challenge.rw_no0228_01.row.prog w) (ktrTop dp un gd cn cs L a ccd cl outer) (call (.ref 88) [.ref v, .int wd t2, .int pl t3, .int sc t4, .bool b]) Q E s := by
  k_with_none
  k_with_none
  (k_with "storeName" => (k_here; k_dflt (refine' store_let ?zsF ?zsN ?_ ?zsa ?zsb; (case zsF => k_asm); (case zsN => k_asm); (case zsa => first | rfl | assumption); (case zsb => rfl)); k_whole; intro m' h' F' N'; (try k_sweep)))
  (k_with "spliced" => (k_here; first | (with_reducible refine' args_n7 ?zaF ?za1 ?za2 ?za3 ?za4 ?za5 ?za6 ?za7 ?_ ?zak ?zax; (case zaF => k_dflt k_asm); (case za1 => with_unfolding_all rfl); (case za2 => with_unfolding_all rfl); (case za3 => with_unfolding_all rfl); (case za4 => with_unfolding_all rfl); (case za5 => with_unfolding_all rfl); (case za6 => with_unfolding_all rfl); (case za7 => with_unfolding_all rfl); (case zak => first | exact rfl | assumption); (case zax => with_unfolding_all rfl)) | (with_reducible refine' args_n6 ?zaF ?za1 ?za2 ?za3 ?za4 ?za5 ?za6 ?_ ?zak ?zax; (case zaF => k_dflt k_asm); (case za1 => with_unfolding_all rfl); (case za2 => with_unfolding_all rfl); (case za3 => with_unfolding_all rfl); (case za4 => with_unfolding_all rfl); (case za5 => with_unfolding_all rfl); (case za6 => with_unfolding_all rfl); (case zak => first | exact rfl | assumption); (case zax => with_unfolding_all rfl)) | (with_reducible refine' args_n5 ?zaF ?za1 ?za2 ?za3 ?za4 ?za5 ?_ ?zak ?zax; (case zaF => k_dflt k_asm); (case za1 => with_unfolding_all rfl); (case za2 => with_unfolding_all rfl); (case za3 => with_unfolding_all rfl); (case za4 => with_unfolding_all rfl); (case za5 => with_unfolding_all rfl); (case zak => first | exact rfl | assumption); (case zax => with_unfolding_all rfl)) | (with_reducible refine' args_n4 ?zaF ?za1 ?za2 ?za3 ?za4 ?_ ?zak ?zax; (case zaF => k_dflt k_asm); (case za1 => with_unfolding_all rfl); (case za2 => with_unfolding_all rfl); (case za3 => with_unfolding_all rfl); (case za4 => with_unfolding_all rfl); (case zak => first | exact rfl | assumption); (case zax => with_unfolding_all rfl)) | (with_reducible refine' args_n3 ?zaF ?za1 ?za2 ?za3 ?_ ?zak ?zax; (case zaF => k_dflt k_asm); (case za1 => with_unfolding_all rfl); (case za2 => with_unfolding_all rfl); (case za3 => with_unfolding_all rfl); (case zak => first | exact rfl | assumption); (case zax => with_unfolding_all rfl)) | (with_reducible refine' args_n2 ?zaF ?za1 ?za2 ?_ ?zak ?zax; (case zaF => k_dflt k_asm); (case za1 => with_unfolding_all rfl); (case za2 => with_unfolding_all rfl); (case zak => first | exact rfl | assumption); (case zax => with_unfolding_all rfl))))
  (k_with "call ref" => (k_here; (with_reducible show wpAny _ _ (call (Value.ref 67) [Value.bool _, Value.bool _]) _ _ _); k_dflt (refine' u_sign_text ?k1 ?k2 ?k3 ?k4 ?k5 ?kK ?kd ?ku  ?_); (case k1 => k_asm); (case k2 => k_asm); (case k3 => k_asm); (case k4 => k_asm); (case k5 => k_asm); (case kK => first | exact rfl | assumption); (case kd => first | exact room hdp (by decide) | decide | ktr_room); (case ku => first | exact room hun (by decide) | decide | ktr_units); (intro sg' t' h' tk' hg' F' N' l0'); (try dsimp only); (try k_fold); walk_say "CONTRACT sign_text"))
  (k_with "call ref" => (k_here; (with_reducible show wpAny _ _ (call (Value.ref 74) [Value.int _ _, Value.int _ _]) _ _ _); k_dflt (refine' u_scaled ?k1 ?k2 ?k3 ?k4 ?k5 ?kK ?kd ?ku ?p0 ?p1 ?p2 ?p3 ?_); (case k1 => k_asm); (case k2 => k_asm); (case k3 => k_asm); (case k4 => k_asm); (case k5 => k_asm); (case kK => first | exact rfl | assumption); (case kd => first | exact room hdp (by decide) | decide | ktr_room); (case ku => first | exact room hun (by decide) | decide | ktr_units); (case p0 => first | assumption | omega | kt_fact); (case p1 => first | assumption | omega | kt_fact); (case p2 => first | assumption | omega | kt_fact); (case p3 => first | assumption | omega | kt_fact); (intro n' t' h' tk' hn' F' N' l0' l1'); (try have ls' := hsv n' l0' l1'); (try dsimp only); (try k_fold); walk_say "CONTRACT scaled"))
  (k_with "call ref" => (k_here; (with_reducible show wpAny _ _ (call (Value.ref 81) [Value.str _ _, Value.str _ _, Value.str _ _, Value.int _ _]) _ _ _); k_dflt (refine' u_point_field ?k1 ?k2 ?k3 ?k4 ?k5 ?kK ?kd ?ku ?p0 ?p1 ?p2 ?p3 ?p4 ?_); (case k1 => k_asm); (case k2 => k_asm); (case k3 => k_asm); (case k4 => k_asm); (case k5 => k_asm); (case kK => first | exact rfl | assumption); (case kd => first | exact room hdp (by decide) | decide | ktr_room); (case ku => first | exact room hun (by decide) | decide | ktr_units); (case p0 => first | assumption | omega | kt_fact); (case p1 => first | assumption | omega | kt_fact); (case p2 => first | assumption | omega | kt_fact); (case p3 => first | assumption | omega | kt_fact); (case p4 => first | assumption | omega | kt_fact); (intro o' t' h' tk' ho' F' N' l0'); (try dsimp only); (try k_fold); walk_say "CONTRACT point_field"))
  (k_with "call builtin:abs" => (k_here; (with_reducible refine abs_line ?_); intro _ _))
  (k_with "exec If" => (k_here; (fail_if_success (with_reducible show wpAny _ _ _ (JF _ _ _ _ _ _ _) _ _)); (with_reducible show wpAny _ _ (exec (Stmt.If _ [Stmt.Assign [PySem.Expr.Name (Str.ofString "digits") _] _ _] [] _) _) _ _ _); k_dflt (refine' jf_cut (Value.str (digV n')) (Str.ofString "digits") ?jF ?jN ?_ ?_; (case jF => k_asm); (case jN => k_asm)); skip; rotate_left 1; intros; skip; (try dsimp only); (try k_fold); rotate_right 1; walk_say "JOIN digits"))
  (k_with "exec Assign" => (k_here; (fail_if_success (with_reducible show wpAny _ _ _ (JF _ _ _ _ _ _ _) _ _)); (with_reducible show wpAny _ _ (exec (Stmt.Assign [PySem.Expr.Name (Str.ofString "digits") _] (PySem.Expr.BinOp _ _ _ _) _) _) _ _ _); k_dflt (refine' let_str (digsV n' pl) (Str.ofString "digits") ?jF ?jN ?_ ?_; (case jF => k_asm); (case jN => k_asm)); rotate_left; intro d' t' h' tk' hd' m' F' N'; have ld' := digsV_len (n := n') (pl := pl) hd' (by assumption) (by assumption) p7 p8; (try dsimp only); (try k_fold); rotate_right; walk_say "LETTER digits"))
  (k_with "eval BoolOp" => (k_here; (fail_if_success (with_reducible show wpAny _ _ _ (JV _ _ _ _ _ _) _ _)); (with_reducible show wpAny _ _ (eval (PySem.Expr.BoolOp _ _ _) _) _ _ _); k_dflt (refine' jv_bool (sgB i n') ?jF ?jN ?_ ?_; (case jF => k_asm); (case jN => k_asm)); skip; rotate_left 1; intros; skip; (try dsimp only); (try k_fold); rotate_right 1; walk_say "JOIN sign"))
  (k_with "exec If" => (k_here; (with_reducible show wpAny _ _ (exec (Stmt.If _ _ _ _) _) (JF _ _ _ _ _ _ _) _ _); refine wpAny_If ?_))
  (k_with "JF" => (first | (k_dflt (refine' jf_int1 ?jF ?jN ?jv; (case jF => k_asm); (case jN => k_asm); (case jv => first | ((simp (disch := first | with_reducible assumption | (refine not_t ?_; with_reducible assumption) | omega) only [digV, if_pos, if_neg]); done) | ((simp (disch := first | with_reducible assumption | (refine not_t ?_; with_reducible assumption) | omega) only [digV, if_pos, if_neg]); rfl) | rfl | exact digs_eq _ _))) | (k_dflt (refine' jf_str1 ?jF ?jN ?jv; (case jF => k_asm); (case jN => k_asm); (case jv => first | ((simp (disch := first | with_reducible assumption | (refine not_t ?_; with_reducible assumption) | omega) only [digV, if_pos, if_neg]); done) | ((simp (disch := first | with_reducible assumption | (refine not_t ?_; with_reducible assumption) | omega) only [digV, if_pos, if_neg]); rfl) | rfl | exact digs_eq _ _))) | (k_dflt (refine' jf_int0 ?jF ?jN ?jm ?jv; (case jF => k_asm); (case jN => k_asm); (case jm => with_unfolding_all rfl); (case jv => first | ((simp (disch := first | with_reducible assumption | (refine not_t ?_; with_reducible assumption) | omega) only [digV, if_pos, if_neg]); done) | ((simp (disch := first | with_reducible assumption | (refine not_t ?_; with_reducible assumption) | omega) only [digV, if_pos, if_neg]); rfl) | rfl | exact digs_eq _ _))) | (k_dflt (refine' jf_str0 ?jF ?jN ?jm ?jv; (case jF => k_asm); (case jN => k_asm); (case jm => with_unfolding_all rfl); (case jv => first | ((simp (disch := first | with_reducible assumption | (refine not_t ?_; with_reducible assumption) | omega) only [digV, if_pos, if_neg]); done) | ((simp (disch := first | with_reducible assumption | (refine not_t ?_; with_reducible assumption) | omega) only [digV, if_pos, if_neg]); rfl) | rfl | exact digs_eq _ _)))))
  (k_with "JV" => (first | (refine' je_int ?jF ?jN ?jv; (case jF => k_dflt k_asm); (case jN => k_dflt k_asm); (case jv => k_dflt (first | ((simp (disch := first | with_reducible assumption | (refine not_t ?_; with_reducible assumption) | omega) only [sgB, if_pos, if_neg]); done) | ((simp (disch := first | with_reducible assumption | (refine not_t ?_; with_reducible assumption) | omega) only [sgB, if_pos, if_neg]); rfl) | rfl))) | (refine' je_str ?jF ?jN ?jv; (case jF => k_dflt k_asm); (case jN => k_dflt k_asm); (case jv => k_dflt (first | ((simp (disch := first | with_reducible assumption | (refine not_t ?_; with_reducible assumption) | omega) only [sgB, if_pos, if_neg]); done) | ((simp (disch := first | with_reducible assumption | (refine not_t ?_; with_reducible assumption) | omega) only [sgB, if_pos, if_neg]); rfl) | rfl))) | (refine' je_bool ?jF ?jN ?jv; (case jF => k_dflt k_asm); (case jN => k_dflt k_asm); (case jv => k_dflt (first | ((simp (disch := first | with_reducible assumption | (refine not_t ?_; with_reducible assumption) | omega) only [sgB, if_pos, if_neg]); done) | ((simp (disch := first | with_reducible assumption | (refine not_t ?_; with_reducible assumption) | omega) only [sgB, if_pos, if_neg]); rfl) | rfl)))))
  revert X; k_fill; intro X
  obtain ⟨z0, z1, z2, z3, z4, z5⟩ := lens
  have ha0 := absV_nonneg i
  have ha1 := absV_lt q1 q2
  have hr2 := fun t h' tk' F N => hret t h' tk' F N (fixedV_len (v0 := i) (v1 := j) (places := pl) (scale := sc) (plus := b) p5 p6)
  have hsv := fun n (h0 : 0 ≤ n) (h1 : n < 10 ^ 100) => digV_len (n := n) (k := 100) (by decide) h0 h1
  refine wpAny_call ?_
  k_dflt cell_enter
  (rename Fr _ _ _ _ => zF0); (refine fr_let zF0 ?_); clear zF0; intro m' zF1
  (refine env_let ?_); intro env' A'
  k_steps
  all_goals (
    first
    | (refine cb_retS (Q := Q) hr2 ?e0 ?eF ?eN; (case eF => k_asm); (case eN => first | k_asm | exact cb_drop (by assumption) (fun _ hp => .tail _ hp) | exact cb_drop (by assumption) (fun _ hp => .tail _ (.tail _ hp)) | exact cb_drop (by assumption) (fun _ hp => .tail _ (.tail _ (.tail _ hp)))); (case e0 => first | ((with_reducible refine' fixed_end ?zh0 ?zh1 ?zh2 ?zh3); (case zh3 => with_reducible assumption); (case zh2 => with_reducible assumption); (case zh1 => with_reducible assumption); (case zh0 => with_reducible assumption))); skip))
end

section
open PySem PySem.W PyProof.Rows
set_option Elab.async false
set_option maxRecDepth 100000
set_option maxHeartbeats 8000000
theorem u_wef {w : World} {mean : ExcName → Option Value} {mg mb : Str → Option Value} {dp un : Nat} {gd : Option (List Code)} {cn : Str} {cs : Scope} {a : Addr} {ccd : Value} {cl : List (Str × Addr)} {outer : List Env} {A₀ : Around} {base h₀ : Heap} {L : Addr} {m : Str → Option Value} {news : List (Addr × Obj)} {s : Shared} {Q E : Value → Shared → Prop} {v : Addr} {i : Int} {u1 : Tok} {j : Int} {u2 : Tok} {vw : Int} {t2 : Tok} {pl : Int} {t3 : Tok} {vs : Int} {t4 : Tok} {b : Bool}
  (B : Below A₀ base outer h₀) (F : Fr h₀ L s.heap m) (X : (hd.heap_39 w.params).In h₀) (N : News h₀ L s.heap (news)) (T : Top hd.view_39 (looseW hd.view_39 []) mean mg mb h₀) (hk : cs.kind = .function) (hdp : dp + 5 < recursionLimit) (hun : un + 40 < cLine)
  (hv : (v, ({ cls := .type "tuple", data := .seq #[.int i u1, .int j u2] } : Obj)) ∈ news) (e0 : -(10 ^ 10) < i) (e1 : i < 10 ^ 10) (d0 : -14 ≤ j) (d1 : j ≤ 14) (a0 : 0 ≤ vw) (a1 : vw < 24) (b0 : 0 ≤ pl) (b1 : pl < 10) (c0 : 0 ≤ vs) (c1 : vs < 25)
  (hret : ∀  (t : Tok) (h' : Heap) (tk' : Nat),  Fr h₀ L h' m → News h₀ L h' (news) →  Q (.str (fixedV i j (1 + vw) pl (vs - 12) b) t) { s with heap := h', toks := tk' }) :
  wpAny (model Challenge.rw_no0228_01.row.prog w) (ktrTop dp un gd cn cs L a ccd cl outer) (call (.ref 88) [.ref v, .int (1 + vw) t2, .int pl t3, .int (vs - 12) t4, .bool b]) Q E s := by
  k_with_none
  exact u_edit_fixed B F X N T hk hdp hun hv e0 e1 (by omega) (by omega) (by omega) (by omega) b0 (by omega) (by omega) (by omega) (fun t h' tk' F' N' _ => hret t h' tk' F' N')
end

section
open PySem PySem.W PyProof.Rows
set_option Elab.async false
set_option maxRecDepth 100000
set_option maxHeartbeats 8000000
theorem u_spread {w : World} {mean : ExcName → Option Value} {mg mb : Str → Option Value} {dp un : Nat} {gd : Option (List Code)} {cn : Str} {cs : Scope} {a : Addr} {ccd : Value} {cl : List (Str × Addr)} {outer : List Env} {A₀ : Around} {base h₀ : Heap} {L : Addr} {m : Str → Option Value} {news : List (Addr × Obj)} {s : Shared} {Q E : Value → Shared → Prop} {n : Int} {t1 : Tok} {k : Int} {t2 : Tok}
  (B : Below A₀ base outer h₀) (F : Fr h₀ L s.heap m) (X : (hd.heap_39 w.params).In h₀) (N : News h₀ L s.heap (news)) (T : Top hd.view_39 (looseW hd.view_39 []) mean mg mb h₀) (hk : cs.kind = .function) (hdp : dp + 2 < recursionLimit) (hun : un + 16 < cLine)
  (p1 : 0 ≤ n) (p2 : n < 10 ^ 10) (p3 : -50 ≤ k) (p4 : k ≤ 40)
  (hret : ∀ (x y : Str) (t1 t2 : Tok) (D : Addr) (h' : Heap) (tk' : Nat), x = (spreadV n k).1 → y = (spreadV n k).2 → Fr h₀ L h' m → News h₀ L h' ((D, ({ cls := .type "tuple", data := .seq #[.str x t1, .str y t2] } : Obj)) :: news) → (∀ p ∈ news, p.1 < D) → x.length ≤ 60 → y.length ≤ 60 → (x ++ y).length ≤ 110 → DigS (x ++ y) → Q (.ref D) { s with heap := h', toks := tk' }) :
  wpAny (model Challenge.rw_no0228_01.row.prog w) (ktrTop dp un gd cn cs L a ccd cl outer) (call (.ref 144) [.int n t1, .int k t2]) Q E s := by
  k_with_none
  k_with_none
  (k_with "storeName" => (k_here; k_dflt (refine' store_let ?zsF ?zsN ?_ ?zsa ?zsb; (case zsF => k_asm); (case zsN => k_asm); (case zsa => first | rfl | assumption); (case zsb => rfl)); k_whole; intro m' h' F' N'; (try k_sweep)))
  (k_with "spliced" => (k_here; first | (with_reducible refine' args_n7 ?zaF ?za1 ?za2 ?za3 ?za4 ?za5 ?za6 ?za7 ?_ ?zak ?zax; (case zaF => k_dflt k_asm); (case za1 => with_unfolding_all rfl); (case za2 => with_unfolding_all rfl); (case za3 => with_unfolding_all rfl); (case za4 => with_unfolding_all rfl); (case za5 => with_unfolding_all rfl); (case za6 => with_unfolding_all rfl); (case za7 => with_unfolding_all rfl); (case zak => first | exact rfl | assumption); (case zax => with_unfolding_all rfl)) | (with_reducible refine' args_n6 ?zaF ?za1 ?za2 ?za3 ?za4 ?za5 ?za6 ?_ ?zak ?zax; (case zaF => k_dflt k_asm); (case za1 => with_unfolding_all rfl); (case za2 => with_unfolding_all rfl); (case za3 => with_unfolding_all rfl); (case za4 => with_unfolding_all rfl); (case za5 => with_unfolding_all rfl); (case za6 => with_unfolding_all rfl); (case zak => first | exact rfl | assumption); (case zax => with_unfolding_all rfl)) | (with_reducible refine' args_n5 ?zaF ?za1 ?za2 ?za3 ?za4 ?za5 ?_ ?zak ?zax; (case zaF => k_dflt k_asm); (case za1 => with_unfolding_all rfl); (case za2 => with_unfolding_all rfl); (case za3 => with_unfolding_all rfl); (case za4 => with_unfolding_all rfl); (case za5 => with_unfolding_all rfl); (case zak => first | exact rfl | assumption); (case zax => with_unfolding_all rfl)) | (with_reducible refine' args_n4 ?zaF ?za1 ?za2 ?za3 ?za4 ?_ ?zak ?zax; (case zaF => k_dflt k_asm); (case za1 => with_unfolding_all rfl); (case za2 => with_unfolding_all rfl); (case za3 => with_unfolding_all rfl); (case za4 => with_unfolding_all rfl); (case zak => first | exact rfl | assumption); (case zax => with_unfolding_all rfl)) | (with_reducible refine' args_n3 ?zaF ?za1 ?za2 ?za3 ?_ ?zak ?zax; (case zaF => k_dflt k_asm); (case za1 => with_unfolding_all rfl); (case za2 => with_unfolding_all rfl); (case za3 => with_unfolding_all rfl); (case zak => first | exact rfl | assumption); (case zax => with_unfolding_all rfl)) | (with_reducible refine' args_n2 ?zaF ?za1 ?za2 ?_ ?zak ?zax; (case zaF => k_dflt k_asm); (case za1 => with_unfolding_all rfl); (case za2 => with_unfolding_all rfl); (case zak => first | exact rfl | assumption); (case zax => with_unfolding_all rfl))))
  (k_with "exec Assign" => (k_here; (fail_if_success (with_reducible show wpAny _ _ _ (JF _ _ _ _ _ _ _) _ _)); (with_reducible show wpAny _ _ (exec (Stmt.Assign [PySem.Expr.Name (Str.ofString "digits") _] (PySem.Expr.BinOp _ _ _ _) _) _) _ _ _); k_dflt (refine' let_str (padV n k) (Str.ofString "digits") ?jF ?jN ?_ ?_; (case jF => k_asm); (case jN => k_asm)); rotate_left; intro d' t' h' tk' hd' m' F' N'; (obtain ⟨ld0', ld1'⟩ := pad_d hd' p1 p2 p3 (by omega)); (try dsimp only); (try k_fold); rotate_right; walk_say "LETTER digits"))
  (k_with "exec If" => (k_here; (with_reducible show wpAny _ _ (exec (Stmt.If _ _ _ _) _) (JF _ _ _ _ _ _ _) _ _); refine wpAny_If ?_))
  (k_with "JF" => (first | (k_dflt (refine' jf_str1 ?jF ?jN ?jv; (case jF => k_asm); (case jN => k_asm); (case jv => first | exact rfl))) | (k_dflt (refine' jf_str0 ?jF ?jN ?jm ?jv; (case jF => k_asm); (case jN => k_asm); (case jm => with_unfolding_all rfl); (case jv => first | exact rfl)))))
  revert X; k_fill; intro X
  obtain ⟨z0, z1, z2, z3, z4, z5⟩ := lens
  obtain ⟨w1, w2, w3, w4⟩ := spreadV_facts p1 p2 p3 p4
  have hr2 := fun t1 t2 D h' tk' F N hl => hret _ _ t1 t2 D h' tk' rfl rfl F N hl w1 w2 w3 w4
  refine wpAny_call ?_
  k_dflt cell_enter
  (rename Fr _ _ _ _ => zF0); (refine fr_let zF0 ?_); clear zF0; intro m' zF1
  (refine env_let ?_); intro env' A'
  k_steps
  all_goals (
    first
    | (refine' cb_ret3 (Q := Q) hr2 ?e0 ?e1 ?eF ?eN ?eL; (case eF => k_asm); (case eN => first | k_asm | exact cb_drop (by assumption) (fun _ hp => .tail _ hp) | exact cb_drop (by assumption) (fun _ hp => .tail _ (.tail _ hp))); (case eL => k_asm); (case e0 => first | ((with_reducible refine' sp_1a ?zh0); (case zh0 => with_reducible assumption)) | ((with_reducible refine' sp_1b ?zh0); (case zh0 => with_reducible assumption)) | ((with_reducible refine' sp_2a ?zh0 ?zh1); (case zh1 => with_reducible assumption); (case zh0 => with_reducible assumption)) | ((with_reducible refine' sp_2b ?zh0 ?zh1); (case zh1 => with_reducible assumption); (case zh0 => with_reducible assumption))); (case e1 => first | ((with_reducible refine' sp_1a ?zh0); (case zh0 => with_reducible assumption)) | ((with_reducible refine' sp_1b ?zh0); (case zh0 => with_reducible assumption)) | ((with_reducible refine' sp_2a ?zh0 ?zh1); (case zh1 => with_reducible assumption); (case zh0 => with_reducible assumption)) | ((with_reducible refine' sp_2b ?zh0 ?zh1); (case zh1 => with_reducible assumption); (case zh0 => with_reducible assumption))); skip))
end

section
open PySem PySem.W PyProof.Rows
set_option Elab.async false
set_option maxRecDepth 100000
set_option maxHeartbeats 8000000
theorem u_cut {w : World} {mean : ExcName → Option Value} {mg mb : Str → Option Value} {dp un : Nat} {gd : Option (List Code)} {cn : Str} {cs : Scope} {a : Addr} {ccd : Value} {cl : List (Str × Addr)} {outer : List Env} {A₀ : Around} {base h₀ : Heap} {L : Addr} {m : Str → Option Value} {news : List (Addr × Obj)} {s : Shared} {Q E : Value → Shared → Prop} {x : Str} {t1 : Tok} {n : Int} {t2 : Tok}
  (B : Below A₀ base outer h₀) (F : Fr h₀ L s.heap m) (X : (hd.heap_39 w.params).In h₀) (N : News h₀ L s.heap (news)) (T : Top hd.view_39 (looseW hd.view_39 []) mean mg mb h₀) (hk : cs.kind = .function) (hdp : dp + 2 < recursionLimit) (hun : un + 16 < cLine)
  (p1 : DigS x) (p2 : 0 ≤ n) (p3 : n ≤ 110) (p4 : x.length ≤ 110)
  (hret : ∀ (y : Str) (t : Tok) (h' : Heap) (tk' : Nat), y = cutV x n → Fr h₀ L h' m → News h₀ L h' (news) → y.length ≤ 235 → Q (.str y t) { s with heap := h', toks := tk' }) :
  wpAny (model Challenge.rw_no0228_01.row.prog w) (ktrTop dp un gd cn cs L a ccd cl outer) (call (.ref 151) [.str x t1, .int n t2]) Q E s := by
  k_with_none
  k_with_none
  (k_with "storeName" => (k_here; k_dflt (refine' store_let ?zsF ?zsN ?_ ?zsa ?zsb; (case zsF => k_asm); (case zsN => k_asm); (case zsa => first | rfl | assumption); (case zsb => rfl)); k_whole; intro m' h' F' N'; (try k_sweep)))
  (k_with "spliced" => (k_here; first | (with_reducible refine' args_n7 ?zaF ?za1 ?za2 ?za3 ?za4 ?za5 ?za6 ?za7 ?_ ?zak ?zax; (case zaF => k_dflt k_asm); (case za1 => with_unfolding_all rfl); (case za2 => with_unfolding_all rfl); (case za3 => with_unfolding_all rfl); (case za4 => with_unfolding_all rfl); (case za5 => with_unfolding_all rfl); (case za6 => with_unfolding_all rfl); (case za7 => with_unfolding_all rfl); (case zak => first | exact rfl | assumption); (case zax => with_unfolding_all rfl)) | (with_reducible refine' args_n6 ?zaF ?za1 ?za2 ?za3 ?za4 ?za5 ?za6 ?_ ?zak ?zax; (case zaF => k_dflt k_asm); (case za1 => with_unfolding_all rfl); (case za2 => with_unfolding_all rfl); (case za3 => with_unfolding_all rfl); (case za4 => with_unfolding_all rfl); (case za5 => with_unfolding_all rfl); (case za6 => with_unfolding_all rfl); (case zak => first | exact rfl | assumption); (case zax => with_unfolding_all rfl)) | (with_reducible refine' args_n5 ?zaF ?za1 ?za2 ?za3 ?za4 ?za5 ?_ ?zak ?zax; (case zaF => k_dflt k_asm); (case za1 => with_unfolding_all rfl); (case za2 => with_unfolding_all rfl); (case za3 => with_unfolding_all rfl); (case za4 => with_unfolding_all rfl); (case za5 => with_unfolding_all rfl); (case zak => first | exact rfl | assumption); (case zax => with_unfolding_all rfl)) | (with_reducible refine' args_n4 ?zaF ?za1 ?za2 ?za3 ?za4 ?_ ?zak ?zax; (case zaF => k_dflt k_asm); (case za1 => with_unfolding_all rfl); (case za2 => with_unfolding_all rfl); (case za3 => with_unfolding_all rfl); (case za4 => with_unfolding_all rfl); (case zak => first | exact rfl | assumption); (case zax => with_unfolding_all rfl)) | (with_reducible refine' args_n3 ?zaF ?za1 ?za2 ?za3 ?_ ?zak ?zax; (case zaF => k_dflt k_asm); (case za1 => with_unfolding_all rfl); (case za2 => with_unfolding_all rfl); (case za3 => with_unfolding_all rfl); (case zak => first | exact rfl | assumption); (case zax => with_unfolding_all rfl)) | (with_reducible refine' args_n2 ?zaF ?za1 ?za2 ?_ ?zak ?zax; (case zaF => k_dflt k_asm); (case za1 => with_unfolding_all rfl); (case za2 => with_unfolding_all rfl); (case zak => first | exact rfl | assumption); (case zax => with_unfolding_all rfl))))
  (k_with "exec Assign" => (k_here; (fail_if_success (with_reducible show wpAny _ _ _ (JF _ _ _ _ _ _ _) _ _)); (with_reducible show wpAny _ _ (exec (Stmt.Assign [PySem.Expr.Name (Str.ofString "digits") _] (PySem.Expr.BinOp _ _ _ _) _) _) _ _ _); k_dflt (refine' let_str (cutD x n) (Str.ofString "digits") ?jF ?jN ?_ ?_; (case jF => k_asm); (case jN => k_asm)); rotate_left; intro d' t' h' tk' hd' m' F' N'; (obtain ⟨ld0', ld1'⟩ := cutD_d hd' p2 p3 p4); (rw [← hd'] at w1 w2); (try dsimp only); (try k_fold); rotate_right; walk_say "LETTER digits"))
  (k_with "exec If" => (k_here; (with_reducible show wpAny _ _ (exec (Stmt.If _ _ _ _) _) (JF _ _ _ _ _ _ _) _ _); refine wpAny_If ?_))
  (k_with "JF" => (first | (k_dflt (refine' jf_str1 ?jF ?jN ?jv; (case jF => k_asm); (case jN => k_asm); (case jv => first | exact rfl))) | (k_dflt (refine' jf_str0 ?jF ?jN ?jm ?jv; (case jF => k_asm); (case jN => k_asm); (case jm => with_unfolding_all rfl); (case jv => first | exact rfl)))))
  revert X; k_fill; intro X
  obtain ⟨z0, z1, z2, z3, z4, z5⟩ := lens
  have hr2 := fun t h' tk' F N => hret _ t h' tk' rfl F N (cutV_len p1 p2 p3 p4)
  obtain ⟨w1, w2, w3, w4⟩ := cutN_facts p1 p2 p3 p4
  have w5 := txt_len (n := cutN x n + 1) (k := 121) (by decide) (by omega) (by omega)
  refine wpAny_call ?_
  k_dflt cell_enter
  (rename Fr _ _ _ _ => zF0); (refine fr_let zF0 ?_); clear zF0; intro m' zF1
  (refine env_let ?_); intro env' A'
  k_steps
  all_goals (
    first
    | (refine cb_retS (Q := Q) hr2 ?e0 ?eF ?eN; (case eF => k_asm); (case eN => first | k_asm | exact cb_drop (by assumption) (fun _ hp => .tail _ hp) | exact cb_drop (by assumption) (fun _ hp => .tail _ (.tail _ hp)) | exact cb_drop (by assumption) (fun _ hp => .tail _ (.tail _ (.tail _ hp)))); (case e0 => first | ((with_reducible refine' ct_1 ?zh0 ?zh1); (case zh1 => with_reducible assumption); (case zh0 => with_reducible assumption)) | ((with_reducible refine' ct_2 ?zh0 ?zh1); (case zh1 => with_reducible assumption); (case zh0 => with_reducible assumption)) | first | ((simp (disch := first | with_reducible assumption | (refine not_t ?_; with_reducible assumption)) only [cutV, if_pos, if_neg]); done) | ((simp (disch := first | with_reducible assumption | (refine not_t ?_; with_reducible assumption)) only [cutV, if_pos, if_neg]); rfl) | rfl | ((dsimp only [cutV]); (simp (disch := first | with_reducible assumption | (refine not_t ?_; with_reducible assumption)) only [if_pos, if_neg]); done)); skip))
end

section
open PySem PySem.W PyProof.Rows
set_option Elab.async false
set_option maxRecDepth 100000
set_option maxHeartbeats 8000000
theorem u_lfield1 {w : World} {mean : ExcName → Option Value} {mg mb : Str → Option Value} {dp un : Nat} {gd : Option (List Code)} {cn : Str} {cs : Scope} {a : Addr} {ccd : Value} {cl : List (Str × Addr)} {outer : List Env} {A₀ : Around} {base h₀ : Heap} {L : Addr} {m : Str → Option Value} {news : List (Addr × Obj)} {s : Shared} {Q E : Value → Shared → Prop} {q : Addr} {x : Str} {t1 : Tok} {n : Int} {t2 : Tok}
  (B : Below A₀ base outer h₀) (F : Fr h₀ L s.heap m) (X : (hd.heap_39 w.params).In h₀) (N : News h₀ L s.heap ((q, ({ cls := .type "list", data := .seq #[.str x t1] } : Obj)) :: news)) (T : Top hd.view_39 (looseW hd.view_39 []) mean mg mb h₀) (hk : cs.kind = .function) (hdp : dp + 2 < recursionLimit) (hun : un + 16 < cLine)
  (p1 : x.length ≤ 600) (p2 : 0 ≤ n) (p3 : n ≤ 100)
  (hret : ∀ (y : Str) (t : Tok) (h' : Heap) (tk' : Nat), y = lfield1 x n → Fr h₀ L h' m → News h₀ L h' ((q, ({ cls := .type "list", data := .seq #[.str x t1] } : Obj)) :: news) → (y.length : Int) = n → Q (.str y t) { s with heap := h', toks := tk' }) :
  wpAny (model Challenge.rw_no0228_01.row.prog w) (ktrTop dp un gd cn cs L a ccd cl outer) (call (.ref 158) [.ref q, .int n t2]) Q E s := by
  k_with_none
  k_with_none
  (k_with "storeName" => (k_here; k_dflt (refine' store_let ?zsF ?zsN ?_ ?zsa ?zsb; (case zsF => k_asm); (case zsN => k_asm); (case zsa => first | rfl | assumption); (case zsb => rfl)); k_whole; intro m' h' F' N'; (try k_sweep)))
  (k_with "spliced" => (k_here; first | (with_reducible refine' args_n7 ?zaF ?za1 ?za2 ?za3 ?za4 ?za5 ?za6 ?za7 ?_ ?zak ?zax; (case zaF => k_dflt k_asm); (case za1 => with_unfolding_all rfl); (case za2 => with_unfolding_all rfl); (case za3 => with_unfolding_all rfl); (case za4 => with_unfolding_all rfl); (case za5 => with_unfolding_all rfl); (case za6 => with_unfolding_all rfl); (case za7 => with_unfolding_all rfl); (case zak => first | exact rfl | assumption); (case zax => with_unfolding_all rfl)) | (with_reducible refine' args_n6 ?zaF ?za1 ?za2 ?za3 ?za4 ?za5 ?za6 ?_ ?zak ?zax; (case zaF => k_dflt k_asm); (case za1 => with_unfolding_all rfl); (case za2 => with_unfolding_all rfl); (case za3 => with_unfolding_all rfl); (case za4 => with_unfolding_all rfl); (case za5 => with_unfolding_all rfl); (case za6 => with_unfolding_all rfl); (case zak => first | exact rfl | assumption); (case zax => with_unfolding_all rfl)) | (with_reducible refine' args_n5 ?zaF ?za1 ?za2 ?za3 ?za4 ?za5 ?_ ?zak ?zax; (case zaF => k_dflt k_asm); (case za1 => with_unfolding_all rfl); (case za2 => with_unfolding_all rfl); (case za3 => with_unfolding_all rfl); (case za4 => with_unfolding_all rfl); (case za5 => with_unfolding_all rfl); (case zak => first | exact rfl | assumption); (case zax => with_unfolding_all rfl)) | (with_reducible refine' args_n4 ?zaF ?za1 ?za2 ?za3 ?za4 ?_ ?zak ?zax; (case zaF => k_dflt k_asm); (case za1 => with_unfolding_all rfl); (case za2 => with_unfolding_all rfl); (case za3 => with_unfolding_all rfl); (case za4 => with_unfolding_all rfl); (case zak => first | exact rfl | assumption); (case zax => with_unfolding_all rfl)) | (with_reducible refine' args_n3 ?zaF ?za1 ?za2 ?za3 ?_ ?zak ?zax; (case zaF => k_dflt k_asm); (case za1 => with_unfolding_all rfl); (case za2 => with_unfolding_all rfl); (case za3 => with_unfolding_all rfl); (case zak => first | exact rfl | assumption); (case zax => with_unfolding_all rfl)) | (with_reducible refine' args_n2 ?zaF ?za1 ?za2 ?_ ?zak ?zax; (case zaF => k_dflt k_asm); (case za1 => with_unfolding_all rfl); (case za2 => with_unfolding_all rfl); (case zak => first | exact rfl | assumption); (case zax => with_unfolding_all rfl))))
  (k_with "exec For Name Name cons nil" => (k_here; (rename Fr _ _ _ _ => lF'); (with_unfolding_all refine' For_invVF lF' ?k1 ?k2 ?_; (case k1 => exact rfl); (case k2 => exact rfl); k_whole)))
  (k_with "pyIter ref" => (k_here; (with_reducible show wpAny _ _ (pyIter (Value.ref _)) (fun it s₂ => LoopAtV _ _ _ _ _ _ _ _ _ it s₂) _ _); (rename Fr _ _ _ _ => lF'); (rename News _ _ _ _ => lN'); (with_unfolding_all refine iter_listUnr (vs := [Value.str _ _]) (by rfl) lF' lN' (.head _) (by rfl) (by rfl) ?_); clear lF'; intro i' l1'))
  (k_with "UnrEnd" => ((refine UnrEnd.intro (by assumption) (by assumption) _ (fun p hp => hp) ?ne ⟨.head _, ?_⟩); (case ne => (rename ∀ p ∈ _, _ < _ => l1'); exact fun p hp => Nat.ne_of_lt (l1' p hp))))
  revert X; k_fill; intro X
  obtain ⟨z0, z1, z2, z3, z4, z5⟩ := lens
  have hr2 := fun t h' tk' F N => hret _ t h' tk' rfl F N (lfield1_len (x := x) p2 p3)
  refine wpAny_call ?_
  k_dflt cell_enter
  (rename Fr _ _ _ _ => zF0); (refine fr_let zF0 ?_); clear zF0; intro m' zF1
  (refine env_let ?_); intro env' A'
  k_steps
  all_goals (
    first
    | (refine cb_retS (Q := Q) hr2 ?e0 ?eF ?eN; (case eF => k_asm); (case eN => first | k_asm | exact cb_drop (by assumption) (fun _ hp => .tail _ hp) | exact cb_drop (by assumption) (fun _ hp => .tail _ (.tail _ hp)) | exact cb_drop (by assumption) (fun _ hp => .tail _ (.tail _ (.tail _ hp)))); (case e0 => first | ((simp (disch := first | with_reducible assumption | (refine not_t ?_; with_reducible assumption)) only [lfield1, if_pos, if_neg]); done) | ((simp (disch := first | with_reducible assumption | (refine not_t ?_; with_reducible assumption)) only [lfield1, if_pos, if_neg]); rfl) | rfl | ((dsimp only [lfield1]); (simp (disch := first | with_reducible assumption | (refine not_t ?_; with_reducible assumption)) only [if_pos, if_neg]); done)); skip))
end

section
open PySem PySem.W PyProof.Rows
set_option Elab.async false
set_option maxRecDepth 100000
set_option maxHeartbeats 8000000
theorem u_lfield2 {w : World} {mean : ExcName → Option Value} {mg mb : Str → Option Value} {dp un : Nat} {gd : Option (List Code)} {cn : Str} {cs : Scope} {a : Addr} {ccd : Value} {cl : List (Str × Addr)} {outer : List Env} {A₀ : Around} {base h₀ : Heap} {L : Addr} {m : Str → Option Value} {news : List (Addr × Obj)} {s : Shared} {Q E : Value → Shared → Prop} {q : Addr} {x y : Str} {t1 t3 : Tok} {n : Int} {t2 : Tok}
  (B : Below A₀ base outer h₀) (F : Fr h₀ L s.heap m) (X : (hd.heap_39 w.params).In h₀) (N : News h₀ L s.heap ((q, ({ cls := .type "list", data := .seq #[.str x t1, .str y t3] } : Obj)) :: news)) (T : Top hd.view_39 (looseW hd.view_39 []) mean mg mb h₀) (hk : cs.kind = .function) (hdp : dp + 2 < recursionLimit) (hun : un + 16 < cLine)
  (p0 : x.length ≤ 600) (p1 : y.length ≤ 600) (p2 : 0 ≤ n) (p3 : n ≤ 100)
  (hret : ∀ (y' : Str) (t : Tok) (h' : Heap) (tk' : Nat), y' = lfield2 x y n → Fr h₀ L h' m → News h₀ L h' ((q, ({ cls := .type "list", data := .seq #[.str x t1, .str y t3] } : Obj)) :: news) → (y'.length : Int) = n → Q (.str y' t) { s with heap := h', toks := tk' }) :
  wpAny (model Challenge.rw_no0228_01.row.prog w) (ktrTop dp un gd cn cs L a ccd cl outer) (call (.ref 158) [.ref q, .int n t2]) Q E s := by
  k_with_none
  k_with_none
  (k_with "storeName" => (k_here; k_dflt (refine' store_let ?zsF ?zsN ?_ ?zsa ?zsb; (case zsF => k_asm); (case zsN => k_asm); (case zsa => first | rfl | assumption); (case zsb => rfl)); k_whole; intro m' h' F' N'; (try k_sweep)))
  (k_with "spliced" => (k_here; first | (with_reducible refine' args_n7 ?zaF ?za1 ?za2 ?za3 ?za4 ?za5 ?za6 ?za7 ?_ ?zak ?zax; (case zaF => k_dflt k_asm); (case za1 => with_unfolding_all rfl); (case za2 => with_unfolding_all rfl); (case za3 => with_unfolding_all rfl); (case za4 => with_unfolding_all rfl); (case za5 => with_unfolding_all rfl); (case za6 => with_unfolding_all rfl); (case za7 => with_unfolding_all rfl); (case zak => first | exact rfl | assumption); (case zax => with_unfolding_all rfl)) | (with_reducible refine' args_n6 ?zaF ?za1 ?za2 ?za3 ?za4 ?za5 ?za6 ?_ ?zak ?zax; (case zaF => k_dflt k_asm); (case za1 => with_unfolding_all rfl); (case za2 => with_unfolding_all rfl); (case za3 => with_unfolding_all rfl); (case za4 => with_unfolding_all rfl); (case za5 => with_unfolding_all rfl); (case za6 => with_unfolding_all rfl); (case zak => first | exact rfl | assumption); (case zax => with_unfolding_all rfl)) | (with_reducible refine' args_n5 ?zaF ?za1 ?za2 ?za3 ?za4 ?za5 ?_ ?zak ?zax; (case zaF => k_dflt k_asm); (case za1 => with_unfolding_all rfl); (case za2 => with_unfolding_all rfl); (case za3 => with_unfolding_all rfl); (case za4 => with_unfolding_all rfl); (case za5 => with_unfolding_all rfl); (case zak => first | exact rfl | assumption); (case zax => with_unfolding_all rfl)) | (with_reducible refine' args_n4 ?zaF ?za1 ?za2 ?za3 ?za4 ?_ ?zak ?zax; (case zaF => k_dflt k_asm); (case za1 => with_unfolding_all rfl); (case za2 => with_unfolding_all rfl); (case za3 => with_unfolding_all rfl); (case za4 => with_unfolding_all rfl); (case zak => first | exact rfl | assumption); (case zax => with_unfolding_all rfl)) | (with_reducible refine' args_n3 ?zaF ?za1 ?za2 ?za3 ?_ ?zak ?zax; (case zaF => k_dflt k_asm); (case za1 => with_unfolding_all rfl); (case za2 => with_unfolding_all rfl); (case za3 => with_unfolding_all rfl); (case zak => first | exact rfl | assumption); (case zax => with_unfolding_all rfl)) | (with_reducible refine' args_n2 ?zaF ?za1 ?za2 ?_ ?zak ?zax; (case zaF => k_dflt k_asm); (case za1 => with_unfolding_all rfl); (case za2 => with_unfolding_all rfl); (case zak => first | exact rfl | assumption); (case zax => with_unfolding_all rfl))))
  (k_with "exec For Name Name cons nil" => (k_here; (rename Fr _ _ _ _ => lF'); (with_unfolding_all refine' For_invVF lF' ?k1 ?k2 ?_; (case k1 => exact rfl); (case k2 => exact rfl); k_whole)))
  (k_with "pyIter ref" => (k_here; (with_reducible show wpAny _ _ (pyIter (Value.ref _)) (fun it s₂ => LoopAtV _ _ _ _ _ _ _ _ _ it s₂) _ _); (rename Fr _ _ _ _ => lF'); (rename News _ _ _ _ => lN'); (with_unfolding_all refine iter_listUnr (vs := [Value.str _ _, Value.str _ _]) (by rfl) lF' lN' (.head _) (by rfl) (by rfl) ?_); clear lF'; intro i' l1'))
  (k_with "UnrEnd" => ((refine UnrEnd.intro (by assumption) (by assumption) _ (fun p hp => hp) ?ne ⟨.head _, ?_⟩); (case ne => (rename ∀ p ∈ _, _ < _ => l1'); exact fun p hp => Nat.ne_of_lt (l1' p hp))))
  revert X; k_fill; intro X
  obtain ⟨z0, z1, z2, z3, z4, z5⟩ := lens
  have hr2 := fun t h' tk' F N => hret _ t h' tk' rfl F N (lfield2_len (x := x) (y := y) p2 p3)
  refine wpAny_call ?_
  k_dflt cell_enter
  (rename Fr _ _ _ _ => zF0); (refine fr_let zF0 ?_); clear zF0; intro m' zF1
  (refine env_let ?_); intro env' A'
  k_steps
  all_goals (
    first
    | (refine cb_retS (Q := Q) hr2 ?e0 ?eF ?eN; (case eF => k_asm); (case eN => first | k_asm | exact cb_drop (by assumption) (fun _ hp => .tail _ hp) | exact cb_drop (by assumption) (fun _ hp => .tail _ (.tail _ hp)) | exact cb_drop (by assumption) (fun _ hp => .tail _ (.tail _ (.tail _ hp)))); (case e0 => first | ((simp (disch := first | with_reducible assumption | (refine not_t ?_; with_reducible assumption)) only [lfield2, lfield1, if_pos, if_neg]); done) | ((simp (disch := first | with_reducible assumption | (refine not_t ?_; with_reducible assumption)) only [lfield2, lfield1, if_pos, if_neg]); rfl) | rfl | ((dsimp only [lfield2, lfield1]); (simp (disch := first | with_reducible assumption | (refine not_t ?_; with_reducible assumption)) only [if_pos, if_neg]); done)); skip))
end

section
open PySem PySem.W PyProof.Rows
set_option Elab.async false
set_option maxRecDepth 100000
set_option maxHeartbeats 8000000
theorem u_lsign {w : World} {mean : ExcName → Option Value} {mg mb : Str → Option Value} {dp un : Nat} {gd : Option (List Code)} {cn : Str} {cs : Scope} {a : Addr} {ccd : Value} {cl : List (Str × Addr)} {outer : List Env} {A₀ : Around} {base h₀ : Heap} {L : Addr} {m : Str → Option Value} {news : List (Addr × Obj)} {s : Shared} {Q E : Value → Shared → Prop} {p q : Bool}
  (B : Below A₀ base outer h₀) (F : Fr h₀ L s.heap m) (X : (hd.heap_39 w.params).In h₀) (N : News h₀ L s.heap (news)) (T : Top hd.view_39 (looseW hd.view_39 []) mean mg mb h₀) (hk : cs.kind = .function) (hdp : dp + 2 < recursionLimit) (hun : un + 16 < cLine)
  
  (hret : ∀ (y : Str) (t : Tok) (h' : Heap) (tk' : Nat), y = signV p q → Fr h₀ L h' m → News h₀ L h' (news) → y.length ≤ 1 → Q (.str y t) { s with heap := h', toks := tk' }) :
  wpAny (model Challenge.rw_no0228_01.row.prog w) (ktrTop dp un gd cn cs L a ccd cl outer) (call (.ref 165) [.bool p, .bool q]) Q E s := by
  k_with_none
  k_with_none
  (k_with "storeName" => (k_here; k_dflt (refine' store_let ?zsF ?zsN ?_ ?zsa ?zsb; (case zsF => k_asm); (case zsN => k_asm); (case zsa => first | rfl | assumption); (case zsb => rfl)); k_whole; intro m' h' F' N'; (try k_sweep)))
  (k_with "spliced" => (k_here; first | (with_reducible refine' args_n7 ?zaF ?za1 ?za2 ?za3 ?za4 ?za5 ?za6 ?za7 ?_ ?zak ?zax; (case zaF => k_dflt k_asm); (case za1 => with_unfolding_all rfl); (case za2 => with_unfolding_all rfl); (case za3 => with_unfolding_all rfl); (case za4 => with_unfolding_all rfl); (case za5 => with_unfolding_all rfl); (case za6 => with_unfolding_all rfl); (case za7 => with_unfolding_all rfl); (case zak => first | exact rfl | assumption); (case zax => with_unfolding_all rfl)) | (with_reducible refine' args_n6 ?zaF ?za1 ?za2 ?za3 ?za4 ?za5 ?za6 ?_ ?zak ?zax; (case zaF => k_dflt k_asm); (case za1 => with_unfolding_all rfl); (case za2 => with_unfolding_all rfl); (case za3 => with_unfolding_all rfl); (case za4 => with_unfolding_all rfl); (case za5 => with_unfolding_all rfl); (case za6 => with_unfolding_all rfl); (case zak => first | exact rfl | assumption); (case zax => with_unfolding_all rfl)) | (with_reducible refine' args_n5 ?zaF ?za1 ?za2 ?za3 ?za4 ?za5 ?_ ?zak ?zax; (case zaF => k_dflt k_asm); (case za1 => with_unfolding_all rfl); (case za2 => with_unfolding_all rfl); (case za3 => with_unfolding_all rfl); (case za4 => with_unfolding_all rfl); (case za5 => with_unfolding_all rfl); (case zak => first | exact rfl | assumption); (case zax => with_unfolding_all rfl)) | (with_reducible refine' args_n4 ?zaF ?za1 ?za2 ?za3 ?za4 ?_ ?zak ?zax; (case zaF => k_dflt k_asm); (case za1 => with_unfolding_all rfl); (case za2 => with_unfolding_all rfl); (case za3 => with_unfolding_all rfl); (case za4 => with_unfolding_all rfl); (case zak => first | exact rfl | assumption); (case zax => with_unfolding_all rfl)) | (with_reducible refine' args_n3 ?zaF ?za1 ?za2 ?za3 ?_ ?zak ?zax; (case zaF => k_dflt k_asm); (case za1 => with_unfolding_all rfl); (case za2 => with_unfolding_all rfl); (case za3 => with_unfolding_all rfl); (case zak => first | exact rfl | assumption); (case zax => with_unfolding_all rfl)) | (with_reducible refine' args_n2 ?zaF ?za1 ?za2 ?_ ?zak ?zax; (case zaF => k_dflt k_asm); (case za1 => with_unfolding_all rfl); (case za2 => with_unfolding_all rfl); (case zak => first | exact rfl | assumption); (case zax => with_unfolding_all rfl))))
  revert X; k_fill; intro X
  obtain ⟨z0, z1, z2, z3, z4, z5⟩ := lens
  have hr2 := fun t h' tk' F N => hret _ t h' tk' rfl F N (signV_len p q)
  refine wpAny_call ?_
  k_dflt cell_enter
  (rename Fr _ _ _ _ => zF0); (refine fr_let zF0 ?_); clear zF0; intro m' zF1
  (refine env_let ?_); intro env' A'
  k_steps
  all_goals (first
    | (refine cb_retS (Q := Q) hr2 ?e1 ?e2 ?e3; (case e2 => k_asm); (case e3 => k_asm); (case e1 => first | ((simp (disch := first | with_reducible assumption | (refine not_t ?_; with_reducible assumption)) only [signV, if_pos, if_neg]); done) | ((simp (disch := first | with_reducible assumption | (refine not_t ?_; with_reducible assumption)) only [signV, if_pos, if_neg]); rfl))))
end

section
open PySem PySem.W PyProof.Rows
set_option Elab.async false
set_option maxRecDepth 100000
set_option maxHeartbeats 8000000
theorem u_lfixed {w : World} {mean : ExcName → Option Value} {mg mb : Str → Option Value} {dp un : Nat} {gd : Option (List Code)} {cn : Str} {cs : Scope} {a : Addr} {ccd : Value} {cl : List (Str × Addr)} {outer : List Env} {A₀ : Around} {base h₀ : Heap} {L : Addr} {m : Str → Option Value} {news : List (Addr × Obj)} {s : Shared} {Q E : Value → Shared → Prop} {v : Addr} {i : Int} {u1 : Tok} {j : Int} {u2 : Tok} {wd : Int} {t2 : Tok} {pl : Int} {t3 : Tok} {b : Bool}
  (B : Below A₀ base outer h₀) (F : Fr h₀ L s.heap m) (X : (hd.heap_39 w.params).In h₀) (N : News h₀ L s.heap (news)) (T : Top hd.view_39 (looseW hd.view_39 []) mean mg mb h₀) (hk : cs.kind = .function) (hdp : dp + 5 < recursionLimit) (hun : un + 40 < cLine)
  (hv : (v, ({ cls := .type "tuple", data := .seq #[.int i u1, .int j u2] } : Obj)) ∈ news) (q1 : -(10 ^ 10) < i) (q2 : i < 10 ^ 10) (q3 : -40 ≤ j) (q4 : j ≤ 40) (p5 : 0 ≤ wd) (p6 : wd ≤ 100) (p7 : 0 ≤ pl) (p8 : pl ≤ 20)
  (hret : ∀  (t : Tok) (h' : Heap) (tk' : Nat),  Fr h₀ L h' m → News h₀ L h' (news) → ((lfixedV i j wd pl b).length : Int) = wd → Q (.str (lfixedV i j wd pl b) t) { s with heap := h', toks := tk' }) :
  wpAny (model Challenge.rw_no0228_01.row.prog w) (ktrTop dp un gd cn cs L a ccd cl outer) (call (.ref 172) [.ref v, .int wd t2, .int pl t3, .bool b]) Q E s := by
  k_with_none
  k_with_none
  (k_with "storeName" => (k_here; k_dflt (refine' store_let ?zsF ?zsN ?_ ?zsa ?zsb; (case zsF => k_asm); (case zsN => k_asm); (case zsa => first | rfl | assumption); (case zsb => rfl)); k_whole; intro m' h' F' N'; (try k_sweep)))
  (k_with "spliced" => (k_here; first | (with_reducible refine' args_n7 ?zaF ?za1 ?za2 ?za3 ?za4 ?za5 ?za6 ?za7 ?_ ?zak ?zax; (case zaF => k_dflt k_asm); (case za1 => with_unfolding_all rfl); (case za2 => with_unfolding_all rfl); (case za3 => with_unfolding_all rfl); (case za4 => with_unfolding_all rfl); (case za5 => with_unfolding_all rfl); (case za6 => with_unfolding_all rfl); (case za7 => with_unfolding_all rfl); (case zak => first | exact rfl | assumption); (case zax => with_unfolding_all rfl)) | (with_reducible refine' args_n6 ?zaF ?za1 ?za2 ?za3 ?za4 ?za5 ?za6 ?_ ?zak ?zax; (case zaF => k_dflt k_asm); (case za1 => with_unfolding_all rfl); (case za2 => with_unfolding_all rfl); (case za3 => with_unfolding_all rfl); (case za4 => with_unfolding_all rfl); (case za5 => with_unfolding_all rfl); (case za6 => with_unfolding_all rfl); (case zak => first | exact rfl | assumption); (case zax => with_unfolding_all rfl)) | (with_reducible refine' args_n5 ?zaF ?za1 ?za2 ?za3 ?za4 ?za5 ?_ ?zak ?zax; (case zaF => k_dflt k_asm); (case za1 => with_unfolding_all rfl); (case za2 => with_unfolding_all rfl); (case za3 => with_unfolding_all rfl); (case za4 => with_unfolding_all rfl); (case za5 => with_unfolding_all rfl); (case zak => first | exact rfl | assumption); (case zax => with_unfolding_all rfl)) | (with_reducible refine' args_n4 ?zaF ?za1 ?za2 ?za3 ?za4 ?_ ?zak ?zax; (case zaF => k_dflt k_asm); (case za1 => with_unfolding_all rfl); (case za2 => with_unfolding_all rfl); (case za3 => with_unfolding_all rfl); (case za4 => with_unfolding_all rfl); (case zak => first | exact rfl | assumption); (case zax => with_unfolding_all rfl)) | (with_reducible refine' args_n3 ?zaF ?za1 ?za2 ?za3 ?_ ?zak ?zax; (case zaF => k_dflt k_asm); (case za1 => with_unfolding_all rfl); (case za2 => with_unfolding_all rfl); (case za3 => with_unfolding_all rfl); (case zak => first | exact rfl | assumption); (case zax => with_unfolding_all rfl)) | (with_reducible refine' args_n2 ?zaF ?za1 ?za2 ?_ ?zak ?zax; (case zaF => k_dflt k_asm); (case za1 => with_unfolding_all rfl); (case za2 => with_unfolding_all rfl); (case zak => first | exact rfl | assumption); (case zax => with_unfolding_all rfl))))
  (k_with "call ref" => (k_here; (with_reducible show wpAny _ _ (call (Value.ref 144) [Value.int _ _, Value.int _ _]) _ _ _); k_dflt (refine' u_spread ?k1 ?k2 ?k3 ?k4 ?k5 ?kK ?kd ?ku ?p0 ?p1 ?p2 ?p3 ?_); (case k1 => k_asm); (case k2 => k_asm); (case k3 => k_asm); (case k4 => k_asm); (case k5 => k_asm); (case kK => first | exact rfl | assumption); (case kd => first | exact room hdp (by decide) | decide | ktr_room); (case ku => first | exact room hun (by decide) | decide | ktr_units); (case p0 => first | assumption | omega | kt_fact); (case p1 => first | assumption | omega | kt_fact); (case p2 => first | assumption | omega | kt_fact); (case p3 => first | assumption | omega | kt_fact); (intro x' y' t1' t2' D' h' tk' hx' hy' F' N' hl' l0' l1' l2' l3'); (try dsimp only); (try k_fold); walk_say "CONTRACT spread"))
  (k_with "call ref" => (k_here; (with_reducible show wpAny _ _ (call (Value.ref 151) [Value.str _ _, Value.int _ _]) _ _ _); k_dflt (refine' u_cut ?k1 ?k2 ?k3 ?k4 ?k5 ?kK ?kd ?ku ?p0 ?p1 ?p2 ?p3 ?_); (case k1 => k_asm); (case k2 => k_asm); (case k3 => k_asm); (case k4 => k_asm); (case k5 => k_asm); (case kK => first | exact rfl | assumption); (case kd => first | exact room hdp (by decide) | decide | ktr_room); (case ku => first | exact room hun (by decide) | decide | ktr_units); (case p0 => with_reducible assumption); (case p1 => first | assumption | omega | kt_fact); (case p2 => first | assumption | omega | kt_fact); (case p3 => first | assumption | omega | kt_fact); (intro c' t' h' tk' hc' F' N' l0'); (try dsimp only); (try k_fold); walk_say "CONTRACT cut"))
  (k_with "call ref" => (k_here; (with_reducible show wpAny _ _ (call (Value.ref 158) [Value.ref _, Value.int _ _]) _ _ _); k_dflt (refine' u_lfield1 ?k1 ?k2 ?k3 ?k4 ?k5 ?kK ?kd ?ku ?p0 ?p1 ?p2 ?_); (case k1 => k_asm); (case k2 => k_asm); (case k3 => k_asm); (case k4 => k_asm); (case k5 => k_asm); (case kK => first | exact rfl | assumption); (case kd => first | exact room hdp (by decide) | decide | ktr_room); (case ku => first | exact room hun (by decide) | decide | ktr_units); (case p0 => first | assumption | omega | kt_fact); (case p1 => first | assumption | omega | kt_fact); (case p2 => first | assumption | omega | kt_fact); all_goals (intros; (try dsimp only); (try k_fold)); walk_say "CONTRACT lfield1"))
  (k_with "call ref" => (k_here; (with_reducible show wpAny _ _ (call (Value.ref 158) [Value.ref _, Value.int _ _]) _ _ _); k_dflt (refine' u_lfield2 ?k1 ?k2 ?k3 ?k4 ?k5 ?kK ?kd ?ku ?p0 ?p1 ?p2 ?p3 ?_); (case k1 => k_asm); (case k2 => k_asm); (case k3 => k_asm); (case k4 => k_asm); (case k5 => k_asm); (case kK => first | exact rfl | assumption); (case kd => first | exact room hdp (by decide) | decide | ktr_room); (case ku => first | exact room hun (by decide) | decide | ktr_units); (case p0 => first | assumption | omega | kt_fact); (case p1 => first | assumption | omega | kt_fact); (case p2 => first | assumption | omega | kt_fact); (case p3 => first | assumption | omega | kt_fact); all_goals (intros; (try dsimp only); (try k_fold)); walk_say "CONTRACT lfield2"))
  (k_with "call ref" => (k_here; (with_reducible show wpAny _ _ (call (Value.ref 165) [Value.bool _, Value.bool _]) _ _ _); k_dflt (refine' u_lsign ?k1 ?k2 ?k3 ?k4 ?k5 ?kK ?kd ?ku  ?_); (case k1 => k_asm); (case k2 => k_asm); (case k3 => k_asm); (case k4 => k_asm); (case k5 => k_asm); (case kK => first | exact rfl | assumption); (case kd => first | exact room hdp (by decide) | decide | ktr_room); (case ku => first | exact room hun (by decide) | decide | ktr_units); (intro sg' t' h' tk' hg' F' N' l0'); (try dsimp only); (try k_fold); walk_say "CONTRACT lsign"))
  (k_with "call builtin:abs" => (k_here; (with_reducible refine abs_line ?_); intro _ _))
  (k_with "binaryOp Add str str" => (k_here; (fail_if_success (with_reducible show wpAny _ _ (binaryOp Operator.Add (Value.str x' _) (Value.str y' _)) _ _ _)); (with_reducible show wpAny _ _ (binaryOp Operator.Add (Value.str _ _) (Value.str _ _)) _ _ _); (refine' add_let ?zax ?zay ?zas ?_; (case zax => first | ((with_reducible show (PySem.Txt.slice _ _ _).length ≤ _); with_reducible exact Nat.le_trans (PyProof.Txt.length_slice_le _ _ _) (by with_reducible assumption)) | with_reducible assumption | with_reducible exact Nat.le_of_eq (by with_reducible assumption) | exact Nat.le_of_eq (by kln_w) | ((with_reducible show (Txt.mul _ _).length ≤ _); exact mul0_le (by omega))); (case zay => first | ((with_reducible show (PySem.Txt.slice _ _ _).length ≤ _); with_reducible exact Nat.le_trans (PyProof.Txt.length_slice_le _ _ _) (by with_reducible assumption)) | with_reducible assumption | with_reducible exact Nat.le_of_eq (by with_reducible assumption) | exact Nat.le_of_eq (by kln_w) | ((with_reducible show (Txt.mul _ _).length ≤ _); exact mul0_le (by omega))); (case zas => decide)); intro r' t' k' hr' lr'; (try dsimp only)))
  (k_with "eval BoolOp" => (k_here; (fail_if_success (with_reducible show wpAny _ _ _ (JV _ _ _ _ _ _) _ _)); (with_reducible show wpAny _ _ (eval (PySem.Expr.BoolOp _ [_, PySem.Expr.UnaryOp _ _ _] _) _) _ _ _); k_dflt (refine' jv_bool (lsB i c') ?jF ?jN ?_ ?_; (case jF => k_asm); (case jN => k_asm)); skip; rotate_left 1; intros; skip; (try dsimp only); (try k_fold); rotate_right 1; walk_say "JOIN sign"))
  (k_with "JV" => (first | (refine' je_bool ?jF ?jN ?jv; (case jF => k_dflt k_asm); (case jN => k_dflt k_asm); (case jv => k_dflt (first | ((simp (disch := first | with_reducible assumption | (refine not_t ?_; with_reducible assumption) | omega) only [lsB, if_pos, if_neg]); done) | ((simp (disch := first | with_reducible assumption | (refine not_t ?_; with_reducible assumption) | omega) only [lsB, if_pos, if_neg]); rfl) | rfl)))))
  revert X; k_fill; intro X
  obtain ⟨z0, z1, z2, z3, z4, z5⟩ := lens
  have ha0 := absV_nonneg i
  have ha1 := absV_lt q1 q2
  have hr2 := fun t h' tk' F N => hret t h' tk' F N (lfixedV_len (v0 := i) (k := j) (pl := pl) (plus := b) p5 p6)
  refine wpAny_call ?_
  k_dflt cell_enter
  (rename Fr _ _ _ _ => zF0); (refine fr_let zF0 ?_); clear zF0; intro m' zF1
  (refine env_let ?_); intro env' A'
  k_steps
  all_goals (
    first
    | (refine cb_retS (Q := Q) hr2 ?e0 ?eF ?eN; (case eF => k_asm); (case eN => first | k_asm | exact cb_drop (by assumption) (fun _ hp => .tail _ hp) | exact cb_drop (by assumption) (fun _ hp => .tail _ (.tail _ hp)) | exact cb_drop (by assumption) (fun _ hp => .tail _ (.tail _ (.tail _ hp)))); (case e0 => first | (refine' way_no ?a1 ?a2; (case a2 => with_reducible assumption); (case a1 => with_reducible assumption)) | (refine' way_no' ?a1 ?a2; (case a2 => with_reducible assumption); (case a1 => with_reducible assumption)) | ((with_reducible refine' lfy1 ?zh0 ?zh1 ?zh2 ?zh3 ?zh4 ?zh5 ?zh6 ?zh7 ?zh8 ?zh9 ?zh10); (case zh10 => with_reducible assumption); (case zh9 => with_reducible assumption); (case zh8 => with_reducible assumption); (case zh7 => with_reducible assumption); (case zh6 => with_reducible assumption); (case zh5 => with_reducible assumption); (case zh4 => with_reducible assumption); (case zh3 => with_reducible assumption); (case zh2 => with_reducible assumption); (case zh1 => with_reducible assumption); (case zh0 => with_reducible assumption)) | ((with_reducible refine' lfy2 ?zh0 ?zh1 ?zh2 ?zh3 ?zh4 ?zh5 ?zh6 ?zh7 ?zh8 ?zh9); (case zh9 => with_reducible assumption); (case zh8 => with_reducible assumption); (case zh7 => with_reducible assumption); (case zh6 => with_reducible assumption); (case zh5 => with_reducible assumption); (case zh4 => with_reducible assumption); (case zh3 => with_reducible assumption); (case zh2 => with_reducible assumption); (case zh1 => with_reducible assumption); (case zh0 => with_reducible assumption)) | ((with_reducible refine' lfy3 ?zh0 ?zh1 ?zh2 ?zh3 ?zh4 ?zh5 ?zh6 ?zh7 ?zh8); (case zh8 => with_reducible assumption); (case zh7 => with_reducible assumption); (case zh6 => with_reducible assumption); (case zh5 => with_reducible assumption); (case zh4 => with_reducible assumption); (case zh3 => with_reducible assumption); (case zh2 => with_reducible assumption); (case zh1 => with_reducible assumption); (case zh0 => with_reducible assumption))); skip))
end

section
open PySem PySem.W PyProof.Rows
set_option Elab.async false
set_option maxRecDepth 100000
set_option maxHeartbeats 8000000
theorem u_wlf {w : World} {mean : ExcName → Option Value} {mg mb : Str → Option Value} {dp un : Nat} {gd : Option (List Code)} {cn : Str} {cs : Scope} {a : Addr} {ccd : Value} {cl : List (Str × Addr)} {outer : List Env} {A₀ : Around} {base h₀ : Heap} {L : Addr} {m : Str → Option Value} {news : List (Addr × Obj)} {s : Shared} {Q E : Value → Shared → Prop} {v : Addr} {i : Int} {u1 : Tok} {j : Int} {u2 : Tok} {vw : Int} {t2 : Tok} {pl : Int} {t3 : Tok} {vs : Int} {b : Bool}
  (B : Below A₀ base outer h₀) (F : Fr h₀ L s.heap m) (X : (hd.heap_39 w.params).In h₀) (N : News h₀ L s.heap (news)) (T : Top hd.view_39 (looseW hd.view_39 []) mean mg mb h₀) (hk : cs.kind = .function) (hdp : dp + 5 < recursionLimit) (hun : un + 40 < cLine)
  (hv : (v, ({ cls := .type "tuple", data := .seq #[.int i u1, .int (j + (vs - 12)) u2] } : Obj)) ∈ news) (e0 : -(10 ^ 10) < i) (e1 : i < 10 ^ 10) (d0 : -14 ≤ j) (d1 : j ≤ 14) (a0 : 0 ≤ vw) (a1 : vw < 24) (b0 : 0 ≤ pl) (b1 : pl < 10) (c0 : 0 ≤ vs) (c1 : vs < 25)
  (hret : ∀  (t : Tok) (h' : Heap) (tk' : Nat),  Fr h₀ L h' m → News h₀ L h' (news) →  Q (.str (lfixedV i (j + (vs - 12)) (1 + vw) pl b) t) { s with heap := h', toks := tk' }) :
  wpAny (model Challenge.rw_no0228_01.row.prog w) (ktrTop dp un gd cn cs L a ccd cl outer) (call (.ref 172) [.ref v, .int (1 + vw) t2, .int pl t3, .bool b]) Q E s := by
  k_with_none
  exact u_lfixed B F X N T hk hdp hun hv e0 e1 (by omega) (by omega) (by omega) (by omega) b0 (by omega) (fun t h' tk' F' N' _ => hret t h' tk' F' N')
end

section
open PySem PySem.W PyProof.Rows
set_option Elab.async false
set_option maxRecDepth 100000
set_option maxHeartbeats 8000000
theorem u_leading {w : World} {mean : ExcName → Option Value} {mg mb : Str → Option Value} {dp un : Nat} {gd : Option (List Code)} {cn : Str} {cs : Scope} {a : Addr} {ccd : Value} {cl : List (Str × Addr)} {outer : List Env} {A₀ : Around} {base h₀ : Heap} {L : Addr} {m : Str → Option Value} {news : List (Addr × Obj)} {s : Shared} {Q E : Value → Shared → Prop} {v : Addr} {i : Int} {u1 : Tok} {j : Int} {u2 : Tok} {c : Int} {t3 : Tok}
  (B : Below A₀ base outer h₀) (F : Fr h₀ L s.heap m) (X : (hd.heap_39 w.params).In h₀) (N : News h₀ L s.heap (news)) (T : Top hd.view_39 (looseW hd.view_39 []) mean mg mb h₀) (hk : cs.kind = .function) (hdp : dp + 4 < recursionLimit) (hun : un + 32 < cLine)
  (hv : (v, ({ cls := .type "tuple", data := .seq #[.int i u1, .int j u2] } : Obj)) ∈ news) (q1 : -(10 ^ 10) < i) (q2 : i < 10 ^ 10) (q3 : -40 ≤ j) (q4 : j ≤ 40) (p7 : 0 ≤ c) (p8 : c ≤ 50)
  (hret : ∀ (x : Str) (y : Int) (t1 t2 : Tok) (D : Addr) (h' : Heap) (tk' : Nat), x = (leadV i j c).1 → y = (leadV i j c).2 → Fr h₀ L h' m → News h₀ L h' ((D, ({ cls := .type "tuple", data := .seq #[.str x t1, .int y t2] } : Obj)) :: news) → (∀ p ∈ news, p.1 < D) → x.length ≤ 100 → -100 ≤ y → y ≤ 100 → Q (.ref D) { s with heap := h', toks := tk' }) :
  wpAny (model Challenge.rw_no0228_01.row.prog w) (ktrTop dp un gd cn cs L a ccd cl outer) (call (.ref 95) [.ref v, .int c t3]) Q E s := by
  k_with_none
  k_with_none
  (k_with "storeName" => (k_here; k_dflt (refine' store_let ?zsF ?zsN ?_ ?zsa ?zsb; (case zsF => k_asm); (case zsN => k_asm); (case zsa => first | rfl | assumption); (case zsb => rfl)); k_whole; intro m' h' F' N'; (try k_sweep)))
  (k_with "spliced" => (k_here; first | (with_reducible refine' args_n7 ?zaF ?za1 ?za2 ?za3 ?za4 ?za5 ?za6 ?za7 ?_ ?zak ?zax; (case zaF => k_dflt k_asm); (case za1 => with_unfolding_all rfl); (case za2 => with_unfolding_all rfl); (case za3 => with_unfolding_all rfl); (case za4 => with_unfolding_all rfl); (case za5 => with_unfolding_all rfl); (case za6 => with_unfolding_all rfl); (case za7 => with_unfolding_all rfl); (case zak => first | exact rfl | assumption); (case zax => with_unfolding_all rfl)) | (with_reducible refine' args_n6 ?zaF ?za1 ?za2 ?za3 ?za4 ?za5 ?za6 ?_ ?zak ?zax; (case zaF => k_dflt k_asm); (case za1 => with_unfolding_all rfl); (case za2 => with_unfolding_all rfl); (case za3 => with_unfolding_all rfl); (case za4 => with_unfolding_all rfl); (case za5 => with_unfolding_all rfl); (case za6 => with_unfolding_all rfl); (case zak => first | exact rfl | assumption); (case zax => with_unfolding_all rfl)) | (with_reducible refine' args_n5 ?zaF ?za1 ?za2 ?za3 ?za4 ?za5 ?_ ?zak ?zax; (case zaF => k_dflt k_asm); (case za1 => with_unfolding_all rfl); (case za2 => with_unfolding_all rfl); (case za3 => with_unfolding_all rfl); (case za4 => with_unfolding_all rfl); (case za5 => with_unfolding_all rfl); (case zak => first | exact rfl | assumption); (case zax => with_unfolding_all rfl)) | (with_reducible refine' args_n4 ?zaF ?za1 ?za2 ?za3 ?za4 ?_ ?zak ?zax; (case zaF => k_dflt k_asm); (case za1 => with_unfolding_all rfl); (case za2 => with_unfolding_all rfl); (case za3 => with_unfolding_all rfl); (case za4 => with_unfolding_all rfl); (case zak => first | exact rfl | assumption); (case zax => with_unfolding_all rfl)) | (with_reducible refine' args_n3 ?zaF ?za1 ?za2 ?za3 ?_ ?zak ?zax; (case zaF => k_dflt k_asm); (case za1 => with_unfolding_all rfl); (case za2 => with_unfolding_all rfl); (case za3 => with_unfolding_all rfl); (case zak => first | exact rfl | assumption); (case zax => with_unfolding_all rfl)) | (with_reducible refine' args_n2 ?zaF ?za1 ?za2 ?_ ?zak ?zax; (case zaF => k_dflt k_asm); (case za1 => with_unfolding_all rfl); (case za2 => with_unfolding_all rfl); (case zak => first | exact rfl | assumption); (case zax => with_unfolding_all rfl))))
  (k_with "call ref" => (k_here; (with_reducible show wpAny _ _ (call (Value.ref 74) [Value.int _ _, Value.int _ _]) _ _ _); k_dflt (refine' u_scaled ?k1 ?k2 ?k3 ?k4 ?k5 ?kK ?kd ?ku ?p0 ?p1 ?p2 ?p3 ?_); (case k1 => k_asm); (case k2 => k_asm); (case k3 => k_asm); (case k4 => k_asm); (case k5 => k_asm); (case kK => first | exact rfl | assumption); (case kd => first | exact room hdp (by decide) | decide | ktr_room); (case ku => first | exact room hun (by decide) | decide | ktr_units); (case p0 => first | assumption | omega | kt_fact); (case p1 => first | assumption | omega | kt_fact); (case p2 => first | assumption | omega | kt_fact); (case p3 => first | assumption | omega | kt_fact); (intro n' t' h' tk' hn' F' N' l0' l1'); (try have ls' := hsv n' l0' l1'); (try dsimp only); (try k_fold); walk_say "CONTRACT scaled"))
  (k_with "call builtin:abs" => (k_here; (with_reducible refine abs_line ?_); intro _ _))
  revert X; k_fill; intro X
  obtain ⟨z0, z1, z2, z3, z4, z5⟩ := lens
  have ha0 := absV_nonneg i
  have ha1 := absV_lt q1 q2
  have hz := txt_len (k := 10) (by decide) ha0 ha1
  have hz1 := txt_pos ha0
  have hsv := fun n (h0 : 0 ≤ n) (h1 : n < 10 ^ 100) => txt_len (n := n) (k := 100) (by decide) h0 h1
  obtain ⟨w1, w2, w3⟩ := leadV_facts q1 q2 q3 q4 p7 p8
  have hr2 := fun t1 t2 D h' tk' F N hl => hret _ _ t1 t2 D h' tk' rfl rfl F N hl w1 w2 w3
  refine wpAny_call ?_
  k_dflt cell_enter
  (rename Fr _ _ _ _ => zF0); (refine fr_let zF0 ?_); clear zF0; intro m' zF1
  (refine env_let ?_); intro env' A'
  k_steps
  all_goals (
    first
    | (refine' cb_ret2 (Q := Q) hr2 ?e0 ?e1 ?eF ?eN ?eL; (case eF => k_asm); (case eN => first | k_asm | exact cb_drop (by assumption) (fun _ hp => .tail _ hp) | exact cb_drop (by assumption) (fun _ hp => .tail _ (.tail _ hp))); (case eL => k_asm); (case e0 => first | ((with_reducible refine' lead_d ?zh0 ?zh1 ?zh2); (case zh2 => with_reducible assumption); (case zh1 => with_reducible assumption); (case zh0 => with_reducible assumption)) | ((with_reducible refine' lead_d1 ?zh0 ?zh1 ?zh2); (case zh2 => with_reducible assumption); (case zh1 => with_reducible assumption); (case zh0 => with_reducible assumption)) | ((with_reducible refine' lead_p ?zh0 ?zh1 ?zh2); (case zh2 => with_reducible assumption); (case zh1 => with_reducible assumption); (case zh0 => with_reducible assumption)) | ((with_reducible refine' lead_p1 ?zh0 ?zh1 ?zh2); (case zh2 => with_reducible assumption); (case zh1 => with_reducible assumption); (case zh0 => with_reducible assumption)) | first | ((simp (disch := first | with_reducible assumption | (refine not_t ?_; with_reducible assumption)) only [leadV, if_pos, if_neg]); done) | ((simp (disch := first | with_reducible assumption | (refine not_t ?_; with_reducible assumption)) only [leadV, if_pos, if_neg]); rfl) | rfl | ((dsimp only [leadV]); (simp (disch := first | with_reducible assumption | (refine not_t ?_; with_reducible assumption)) only [if_pos, if_neg]); done)); (case e1 => first | ((with_reducible refine' lead_d ?zh0 ?zh1 ?zh2); (case zh2 => with_reducible assumption); (case zh1 => with_reducible assumption); (case zh0 => with_reducible assumption)) | ((with_reducible refine' lead_d1 ?zh0 ?zh1 ?zh2); (case zh2 => with_reducible assumption); (case zh1 => with_reducible assumption); (case zh0 => with_reducible assumption)) | ((with_reducible refine' lead_p ?zh0 ?zh1 ?zh2); (case zh2 => with_reducible assumption); (case zh1 => with_reducible assumption); (case zh0 => with_reducible assumption)) | ((with_reducible refine' lead_p1 ?zh0 ?zh1 ?zh2); (case zh2 => with_reducible assumption); (case zh1 => with_reducible assumption); (case zh0 => with_reducible assumption)) | first | ((simp (disch := first | with_reducible assumption | (refine not_t ?_; with_reducible assumption)) only [leadV, if_pos, if_neg]); done) | ((simp (disch := first | with_reducible assumption | (refine not_t ?_; with_reducible assumption)) only [leadV, if_pos, if_neg]); rfl) | rfl | ((dsimp only [leadV]); (simp (disch := first | with_reducible assumption | (refine not_t ?_; with_reducible assumption)) only [if_pos, if_neg]); done)); skip))
end

section
open PySem PySem.W PyProof.Rows
set_option Elab.async false
set_option maxRecDepth 100000
set_option maxHeartbeats 8000000
theorem u_expo_n {w : World} {mean : ExcName → Option Value} {mg mb : Str → Option Value} {dp un : Nat} {gd : Option (List Code)} {cn : Str} {cs : Scope} {a : Addr} {ccd : Value} {cl : List (Str × Addr)} {outer : List Env} {A₀ : Around} {base h₀ : Heap} {L : Addr} {m : Str → Option Value} {news : List (Addr × Obj)} {s : Shared} {Q E : Value → Shared → Prop} {l : Str} {t1 : Tok} {p : Int} {t2 : Tok}
  (B : Below A₀ base outer h₀) (F : Fr h₀ L s.heap m) (X : (hd.heap_39 w.params).In h₀) (N : News h₀ L s.heap (news)) (T : Top hd.view_39 (looseW hd.view_39 []) mean mg mb h₀) (hk : cs.kind = .function) (hdp : dp + 2 < recursionLimit) (hun : un + 16 < cLine)
  (p1 : l.length = 1) (p2 : -900 < p) (p3 : p < 900)
  (hret : ∀  (t : Tok) (h' : Heap) (tk' : Nat), expoV l p none = none → Fr h₀ L h' m → News h₀ L h' (news) →  Q (.none) { s with heap := h', toks := tk' }) (hret2 : ∀ (x : Str) (t : Tok) (h' : Heap) (tk' : Nat), expoV l p none = some x → Fr h₀ L h' m → News h₀ L h' (news) → x.length ≤ 8 → Q (.str x t) { s with heap := h', toks := tk' }) :
  wpAny (model Challenge.rw_no0228_01.row.prog w) (ktrTop dp un gd cn cs L a ccd cl outer) (call (.ref 102) [.str l t1, .int p t2, .none]) Q E s := by
  k_with_none
  k_with_none
  (k_with "storeName" => (k_here; k_dflt (refine' store_let ?zsF ?zsN ?_ ?zsa ?zsb; (case zsF => k_asm); (case zsN => k_asm); (case zsa => first | rfl | assumption); (case zsb => rfl)); k_whole; intro m' h' F' N'; (try k_sweep)))
  (k_with "spliced" => (k_here; first | (with_reducible refine' args_n7 ?zaF ?za1 ?za2 ?za3 ?za4 ?za5 ?za6 ?za7 ?_ ?zak ?zax; (case zaF => k_dflt k_asm); (case za1 => with_unfolding_all rfl); (case za2 => with_unfolding_all rfl); (case za3 => with_unfolding_all rfl); (case za4 => with_unfolding_all rfl); (case za5 => with_unfolding_all rfl); (case za6 => with_unfolding_all rfl); (case za7 => with_unfolding_all rfl); (case zak => first | exact rfl | assumption); (case zax => with_unfolding_all rfl)) | (with_reducible refine' args_n6 ?zaF ?za1 ?za2 ?za3 ?za4 ?za5 ?za6 ?_ ?zak ?zax; (case zaF => k_dflt k_asm); (case za1 => with_unfolding_all rfl); (case za2 => with_unfolding_all rfl); (case za3 => with_unfolding_all rfl); (case za4 => with_unfolding_all rfl); (case za5 => with_unfolding_all rfl); (case za6 => with_unfolding_all rfl); (case zak => first | exact rfl | assumption); (case zax => with_unfolding_all rfl)) | (with_reducible refine' args_n5 ?zaF ?za1 ?za2 ?za3 ?za4 ?za5 ?_ ?zak ?zax; (case zaF => k_dflt k_asm); (case za1 => with_unfolding_all rfl); (case za2 => with_unfolding_all rfl); (case za3 => with_unfolding_all rfl); (case za4 => with_unfolding_all rfl); (case za5 => with_unfolding_all rfl); (case zak => first | exact rfl | assumption); (case zax => with_unfolding_all rfl)) | (with_reducible refine' args_n4 ?zaF ?za1 ?za2 ?za3 ?za4 ?_ ?zak ?zax; (case zaF => k_dflt k_asm); (case za1 => with_unfolding_all rfl); (case za2 => with_unfolding_all rfl); (case za3 => with_unfolding_all rfl); (case za4 => with_unfolding_all rfl); (case zak => first | exact rfl | assumption); (case zax => with_unfolding_all rfl)) | (with_reducible refine' args_n3 ?zaF ?za1 ?za2 ?za3 ?_ ?zak ?zax; (case zaF => k_dflt k_asm); (case za1 => with_unfolding_all rfl); (case za2 => with_unfolding_all rfl); (case za3 => with_unfolding_all rfl); (case zak => first | exact rfl | assumption); (case zax => with_unfolding_all rfl)) | (with_reducible refine' args_n2 ?zaF ?za1 ?za2 ?_ ?zak ?zax; (case zaF => k_dflt k_asm); (case za1 => with_unfolding_all rfl); (case za2 => with_unfolding_all rfl); (case zak => first | exact rfl | assumption); (case zax => with_unfolding_all rfl))))
  (k_with "binaryOp Add str str" => (k_here; (with_reducible show wpAny _ _ (binaryOp Operator.Add (Value.str _ _) (Value.str _ _)) _ _ _); (refine' add_let ?zax ?zay ?zas ?_; (case zax => first | ((with_reducible show (PySem.Txt.slice _ _ _).length ≤ _); with_reducible exact Nat.le_trans (PyProof.Txt.length_slice_le _ _ _) (by with_reducible assumption)) | with_reducible assumption | with_reducible exact Nat.le_of_eq (by with_reducible assumption) | exact Nat.le_of_eq (by kln_w) | ((with_reducible show (Txt.mul _ _).length ≤ _); exact mul0_le (by omega))); (case zay => first | ((with_reducible show (PySem.Txt.slice _ _ _).length ≤ _); with_reducible exact Nat.le_trans (PyProof.Txt.length_slice_le _ _ _) (by with_reducible assumption)) | with_reducible assumption | with_reducible exact Nat.le_of_eq (by with_reducible assumption) | exact Nat.le_of_eq (by kln_w) | ((with_reducible show (Txt.mul _ _).length ≤ _); exact mul0_le (by omega))); (case zas => decide)); intro r' t' k' hr' lr'; (try dsimp only)))
  (k_with "call builtin:abs" => (k_here; (with_reducible refine abs_line ?_); intro _ _))
  (k_with "exec If" => (k_here; (fail_if_success (with_reducible show wpAny _ _ _ (JF _ _ _ _ _ _ _) _ _)); (with_reducible show wpAny _ _ (exec (Stmt.If _ [Stmt.Assign [PySem.Expr.Name (Str.ofString "sign") _] _ _] [] _) _) _ _ _); k_dflt (refine' jf_cut (Value.str (sgV p)) (Str.ofString "sign") ?jF ?jN ?_ ?_; (case jF => k_asm); (case jN => k_asm)); skip; rotate_left 1; intros; skip; (try dsimp only); (try k_fold); rotate_right 1; walk_say "JOIN sign"))
  (k_with "exec If" => (k_here; (with_reducible show wpAny _ _ (exec (Stmt.If _ _ _ _) _) (JF _ _ _ _ _ _ _) _ _); refine wpAny_If ?_))
  (k_with "JF" => (first | (k_dflt (refine' jf_int1 ?jF ?jN ?jv; (case jF => k_asm); (case jN => k_asm); (case jv => first | ((simp (disch := first | with_reducible assumption | (refine not_t ?_; with_reducible assumption) | omega) only [sgV, if_pos, if_neg]); done) | ((simp (disch := first | with_reducible assumption | (refine not_t ?_; with_reducible assumption) | omega) only [sgV, if_pos, if_neg]); rfl) | rfl))) | (k_dflt (refine' jf_str1 ?jF ?jN ?jv; (case jF => k_asm); (case jN => k_asm); (case jv => first | ((simp (disch := first | with_reducible assumption | (refine not_t ?_; with_reducible assumption) | omega) only [sgV, if_pos, if_neg]); done) | ((simp (disch := first | with_reducible assumption | (refine not_t ?_; with_reducible assumption) | omega) only [sgV, if_pos, if_neg]); rfl) | rfl))) | (k_dflt (refine' jf_int0 ?jF ?jN ?jm ?jv; (case jF => k_asm); (case jN => k_asm); (case jm => with_unfolding_all rfl); (case jv => first | ((simp (disch := first | with_reducible assumption | (refine not_t ?_; with_reducible assumption) | omega) only [sgV, if_pos, if_neg]); done) | ((simp (disch := first | with_reducible assumption | (refine not_t ?_; with_reducible assumption) | omega) only [sgV, if_pos, if_neg]); rfl) | rfl))) | (k_dflt (refine' jf_str0 ?jF ?jN ?jm ?jv; (case jF => k_asm); (case jN => k_asm); (case jm => with_unfolding_all rfl); (case jv => first | ((simp (disch := first | with_reducible assumption | (refine not_t ?_; with_reducible assumption) | omega) only [sgV, if_pos, if_neg]); done) | ((simp (disch := first | with_reducible assumption | (refine not_t ?_; with_reducible assumption) | omega) only [sgV, if_pos, if_neg]); rfl) | rfl)))))
  revert X; k_fill; intro X
  obtain ⟨z0, z1, z2, z3, z4, z5⟩ := lens
  have hr2 := fun x t h' tk' e F N => hret2 x t h' tk' e F N (expoV_len p1 (by omega) (by omega) (fun _ e => by cases e) e)
  have ha0 := absV_nonneg p
  have ha1 := absV_lt (n := p) (Int.lt_trans (by decide) p2) (Int.lt_trans p3 (by decide))
  have hsg1 := sgV_len p
  have hdl := txt_len (k := 10) (by decide) ha0 ha1
  refine wpAny_call ?_
  k_dflt cell_enter
  (rename Fr _ _ _ _ => zF0); (refine fr_let zF0 ?_); clear zF0; intro m' zF1
  (refine env_let ?_); intro env' A'
  k_steps
  all_goals (
    first
    | (refine cb_retN (Q := Q) hret ?e0 ?eF ?eN; (case eF => k_asm); (case eN => first | k_asm | exact cb_drop (by assumption) (fun _ hp => .tail _ hp) | exact cb_drop (by assumption) (fun _ hp => .tail _ (.tail _ hp)) | exact cb_drop (by assumption) (fun _ hp => .tail _ (.tail _ (.tail _ hp)))); (case e0 => first | ((with_reducible refine' xn_1 ?zh0 ?zh1 ?zh2 ?zh3); (case zh3 => with_reducible assumption); (case zh2 => with_reducible assumption); (case zh1 => with_reducible assumption); (case zh0 => first | with_reducible assumption | omega)) | ((with_reducible refine' xn_2 ?zh0 ?zh1); (case zh1 => with_reducible assumption); (case zh0 => first | with_reducible assumption | omega)) | first | ((simp (disch := first | with_reducible assumption | (refine not_t ?_; with_reducible assumption)) only [expoV, if_pos, if_neg]); done) | ((simp (disch := first | with_reducible assumption | (refine not_t ?_; with_reducible assumption)) only [expoV, if_pos, if_neg]); rfl) | rfl | ((dsimp only [expoV]); (simp (disch := first | with_reducible assumption | (refine not_t ?_; with_reducible assumption)) only [if_pos, if_neg]); done)); skip)
    | (refine cb_retO (Q := Q) hr2 ?e0 ?eF ?eN; (case eF => k_asm); (case eN => first | k_asm | exact cb_drop (by assumption) (fun _ hp => .tail _ hp) | exact cb_drop (by assumption) (fun _ hp => .tail _ (.tail _ hp)) | exact cb_drop (by assumption) (fun _ hp => .tail _ (.tail _ (.tail _ hp)))); (case e0 => first | ((with_reducible refine' xn_1 ?zh0 ?zh1 ?zh2 ?zh3); (case zh3 => with_reducible assumption); (case zh2 => with_reducible assumption); (case zh1 => with_reducible assumption); (case zh0 => first | with_reducible assumption | omega)) | ((with_reducible refine' xn_2 ?zh0 ?zh1); (case zh1 => with_reducible assumption); (case zh0 => first | with_reducible assumption | omega)) | first | ((simp (disch := first | with_reducible assumption | (refine not_t ?_; with_reducible assumption)) only [expoV, if_pos, if_neg]); done) | ((simp (disch := first | with_reducible assumption | (refine not_t ?_; with_reducible assumption)) only [expoV, if_pos, if_neg]); rfl) | rfl | ((dsimp only [expoV]); (simp (disch := first | with_reducible assumption | (refine not_t ?_; with_reducible assumption)) only [if_pos, if_neg]); done)); skip))
end

section
open PySem PySem.W PyProof.Rows
set_option Elab.async false
set_option maxRecDepth 100000
set_option maxHeartbeats 8000000
theorem u_expo_z {w : World} {mean : ExcName → Option Value} {mg mb : Str → Option Value} {dp un : Nat} {gd : Option (List Code)} {cn : Str} {cs : Scope} {a : Addr} {ccd : Value} {cl : List (Str × Addr)} {outer : List Env} {A₀ : Around} {base h₀ : Heap} {L : Addr} {m : Str → Option Value} {news : List (Addr × Obj)} {s : Shared} {Q E : Value → Shared → Prop} {l : Str} {t1 : Tok} {p : Int} {t2 : Tok} {z : Int} {t3 : Tok}
  (B : Below A₀ base outer h₀) (F : Fr h₀ L s.heap m) (X : (hd.heap_39 w.params).In h₀) (N : News h₀ L s.heap (news)) (T : Top hd.view_39 (looseW hd.view_39 []) mean mg mb h₀) (hk : cs.kind = .function) (hdp : dp + 2 < recursionLimit) (hun : un + 16 < cLine)
  (p1 : l.length = 1) (p2 : -900 < p) (p3 : p < 900) (p5 : 0 ≤ z) (p6 : z ≤ 3)
  (hret : ∀  (t : Tok) (h' : Heap) (tk' : Nat), expoV l p (some z) = none → Fr h₀ L h' m → News h₀ L h' (news) →  Q (.none) { s with heap := h', toks := tk' }) (hret2 : ∀ (x : Str) (t : Tok) (h' : Heap) (tk' : Nat), expoV l p (some z) = some x → Fr h₀ L h' m → News h₀ L h' (news) → x.length ≤ 8 → Q (.str x t) { s with heap := h', toks := tk' }) :
  wpAny (model Challenge.rw_no0228_01.row.prog w) (ktrTop dp un gd cn cs L a ccd cl outer) (call (.ref 102) [.str l t1, .int p t2, .int z t3]) Q E s := by
  k_with_none
  k_with_none
  (k_with "storeName" => (k_here; k_dflt (refine' store_let ?zsF ?zsN ?_ ?zsa ?zsb; (case zsF => k_asm); (case zsN => k_asm); (case zsa => first | rfl | assumption); (case zsb => rfl)); k_whole; intro m' h' F' N'; (try k_sweep)))
  (k_with "spliced" => (k_here; first | (with_reducible refine' args_n7 ?zaF ?za1 ?za2 ?za3 ?za4 ?za5 ?za6 ?za7 ?_ ?zak ?zax; (case zaF => k_dflt k_asm); (case za1 => with_unfolding_all rfl); (case za2 => with_unfolding_all rfl); (case za3 => with_unfolding_all rfl); (case za4 => with_unfolding_all rfl); (case za5 => with_unfolding_all rfl); (case za6 => with_unfolding_all rfl); (case za7 => with_unfolding_all rfl); (case zak => first | exact rfl | assumption); (case zax => with_unfolding_all rfl)) | (with_reducible refine' args_n6 ?zaF ?za1 ?za2 ?za3 ?za4 ?za5 ?za6 ?_ ?zak ?zax; (case zaF => k_dflt k_asm); (case za1 => with_unfolding_all rfl); (case za2 => with_unfolding_all rfl); (case za3 => with_unfolding_all rfl); (case za4 => with_unfolding_all rfl); (case za5 => with_unfolding_all rfl); (case za6 => with_unfolding_all rfl); (case zak => first | exact rfl | assumption); (case zax => with_unfolding_all rfl)) | (with_reducible refine' args_n5 ?zaF ?za1 ?za2 ?za3 ?za4 ?za5 ?_ ?zak ?zax; (case zaF => k_dflt k_asm); (case za1 => with_unfolding_all rfl); (case za2 => with_unfolding_all rfl); (case za3 => with_unfolding_all rfl); (case za4 => with_unfolding_all rfl); (case za5 => with_unfolding_all rfl); (case zak => first | exact rfl | assumption); (case zax => with_unfolding_all rfl)) | (with_reducible refine' args_n4 ?zaF ?za1 ?za2 ?za3 ?za4 ?_ ?zak ?zax; (case zaF => k_dflt k_asm); (case za1 => with_unfolding_all rfl); (case za2 => with_unfolding_all rfl); (case za3 => with_unfolding_all rfl); (case za4 => with_unfolding_all rfl); (case zak => first | exact rfl | assumption); (case zax => with_unfolding_all rfl)) | (with_reducible refine' args_n3 ?zaF ?za1 ?za2 ?za3 ?_ ?zak ?zax; (case zaF => k_dflt k_asm); (case za1 => with_unfolding_all rfl); (case za2 => with_unfolding_all rfl); (case za3 => with_unfolding_all rfl); (case zak => first | exact rfl | assumption); (case zax => with_unfolding_all rfl)) | (with_reducible refine' args_n2 ?zaF ?za1 ?za2 ?_ ?zak ?zax; (case zaF => k_dflt k_asm); (case za1 => with_unfolding_all rfl); (case za2 => with_unfolding_all rfl); (case zak => first | exact rfl | assumption); (case zax => with_unfolding_all rfl))))
  (k_with "binaryOp Add str str" => (k_here; (with_reducible show wpAny _ _ (binaryOp Operator.Add (Value.str _ _) (Value.str _ _)) _ _ _); (refine' add_let ?zax ?zay ?zas ?_; (case zax => first | ((with_reducible show (PySem.Txt.slice _ _ _).length ≤ _); with_reducible exact Nat.le_trans (PyProof.Txt.length_slice_le _ _ _) (by with_reducible assumption)) | with_reducible assumption | with_reducible exact Nat.le_of_eq (by with_reducible assumption) | exact Nat.le_of_eq (by kln_w) | ((with_reducible show (Txt.mul _ _).length ≤ _); exact mul0_le (by omega))); (case zay => first | ((with_reducible show (PySem.Txt.slice _ _ _).length ≤ _); with_reducible exact Nat.le_trans (PyProof.Txt.length_slice_le _ _ _) (by with_reducible assumption)) | with_reducible assumption | with_reducible exact Nat.le_of_eq (by with_reducible assumption) | exact Nat.le_of_eq (by kln_w) | ((with_reducible show (Txt.mul _ _).length ≤ _); exact mul0_le (by omega))); (case zas => decide)); intro r' t' k' hr' lr'; (try dsimp only)))
  (k_with "call builtin:abs" => (k_here; (with_reducible refine abs_line ?_); intro _ _))
  (k_with "exec If" => (k_here; (fail_if_success (with_reducible show wpAny _ _ _ (JF _ _ _ _ _ _ _) _ _)); (with_reducible show wpAny _ _ (exec (Stmt.If _ [Stmt.Assign [PySem.Expr.Name (Str.ofString "sign") _] _ _] [] _) _) _ _ _); k_dflt (refine' jf_cut (Value.str (sgV p)) (Str.ofString "sign") ?jF ?jN ?_ ?_; (case jF => k_asm); (case jN => k_asm)); skip; rotate_left 1; intros; skip; (try dsimp only); (try k_fold); rotate_right 1; walk_say "JOIN sign"))
  (k_with "exec If" => (k_here; (with_reducible show wpAny _ _ (exec (Stmt.If _ _ _ _) _) (JF _ _ _ _ _ _ _) _ _); refine wpAny_If ?_))
  (k_with "JF" => (first | (k_dflt (refine' jf_int1 ?jF ?jN ?jv; (case jF => k_asm); (case jN => k_asm); (case jv => first | ((simp (disch := first | with_reducible assumption | (refine not_t ?_; with_reducible assumption) | omega) only [sgV, if_pos, if_neg]); done) | ((simp (disch := first | with_reducible assumption | (refine not_t ?_; with_reducible assumption) | omega) only [sgV, if_pos, if_neg]); rfl) | rfl))) | (k_dflt (refine' jf_str1 ?jF ?jN ?jv; (case jF => k_asm); (case jN => k_asm); (case jv => first | ((simp (disch := first | with_reducible assumption | (refine not_t ?_; with_reducible assumption) | omega) only [sgV, if_pos, if_neg]); done) | ((simp (disch := first | with_reducible assumption | (refine not_t ?_; with_reducible assumption) | omega) only [sgV, if_pos, if_neg]); rfl) | rfl))) | (k_dflt (refine' jf_int0 ?jF ?jN ?jm ?jv; (case jF => k_asm); (case jN => k_asm); (case jm => with_unfolding_all rfl); (case jv => first | ((simp (disch := first | with_reducible assumption | (refine not_t ?_; with_reducible assumption) | omega) only [sgV, if_pos, if_neg]); done) | ((simp (disch := first | with_reducible assumption | (refine not_t ?_; with_reducible assumption) | omega) only [sgV, if_pos, if_neg]); rfl) | rfl))) | (k_dflt (refine' jf_str0 ?jF ?jN ?jm ?jv; (case jF => k_asm); (case jN => k_asm); (case jm => with_unfolding_all rfl); (case jv => first | ((simp (disch := first | with_reducible assumption | (refine not_t ?_; with_reducible assumption) | omega) only [sgV, if_pos, if_neg]); done) | ((simp (disch := first | with_reducible assumption | (refine not_t ?_; with_reducible assumption) | omega) only [sgV, if_pos, if_neg]); rfl) | rfl)))))
  revert X; k_fill; intro X
  obtain ⟨z0, z1, z2, z3, z4, z5⟩ := lens
  have hr2 := fun x t h' tk' e F N => hret2 x t h' tk' e F N (expoV_len p1 (by omega) (by omega) (fun k e => by cases e; exact ⟨p5, p6⟩) e)
  have ha0 := absV_nonneg p
  have ha1 := absV_lt (n := p) (Int.lt_trans (by decide) p2) (Int.lt_trans p3 (by decide))
  have hsg1 := sgV_len p
  have hdl := txt_len (k := 10) (by decide) ha0 ha1
  refine wpAny_call ?_
  k_dflt cell_enter
  (rename Fr _ _ _ _ => zF0); (refine fr_let zF0 ?_); clear zF0; intro m' zF1
  (refine env_let ?_); intro env' A'
  k_steps
  all_goals (
    first
    | (refine cb_retN (Q := Q) hret ?e0 ?eF ?eN; (case eF => k_asm); (case eN => first | k_asm | exact cb_drop (by assumption) (fun _ hp => .tail _ hp) | exact cb_drop (by assumption) (fun _ hp => .tail _ (.tail _ hp)) | exact cb_drop (by assumption) (fun _ hp => .tail _ (.tail _ (.tail _ hp)))); (case e0 => first | ((with_reducible refine' xz_1 ?zh0 ?zh1 ?zh2 ?zh3); (case zh3 => with_reducible assumption); (case zh2 => with_reducible assumption); (case zh1 => with_reducible assumption); (case zh0 => first | with_reducible assumption | omega)) | first | ((simp (disch := first | with_reducible assumption | (refine not_t ?_; with_reducible assumption)) only [expoV, if_pos, if_neg]); done) | ((simp (disch := first | with_reducible assumption | (refine not_t ?_; with_reducible assumption)) only [expoV, if_pos, if_neg]); rfl) | rfl | ((dsimp only [expoV]); (simp (disch := first | with_reducible assumption | (refine not_t ?_; with_reducible assumption)) only [if_pos, if_neg]); done)); skip)
    | (refine cb_retO (Q := Q) hr2 ?e0 ?eF ?eN; (case eF => k_asm); (case eN => first | k_asm | exact cb_drop (by assumption) (fun _ hp => .tail _ hp) | exact cb_drop (by assumption) (fun _ hp => .tail _ (.tail _ hp)) | exact cb_drop (by assumption) (fun _ hp => .tail _ (.tail _ (.tail _ hp)))); (case e0 => first | ((with_reducible refine' xz_1 ?zh0 ?zh1 ?zh2 ?zh3); (case zh3 => with_reducible assumption); (case zh2 => with_reducible assumption); (case zh1 => with_reducible assumption); (case zh0 => first | with_reducible assumption | omega)) | first | ((simp (disch := first | with_reducible assumption | (refine not_t ?_; with_reducible assumption)) only [expoV, if_pos, if_neg]); done) | ((simp (disch := first | with_reducible assumption | (refine not_t ?_; with_reducible assumption)) only [expoV, if_pos, if_neg]); rfl) | rfl | ((dsimp only [expoV]); (simp (disch := first | with_reducible assumption | (refine not_t ?_; with_reducible assumption)) only [if_pos, if_neg]); done)); skip))
end

section
open PySem PySem.W PyProof.Rows
set_option Elab.async false
set_option maxRecDepth 100000
set_option maxHeartbeats 8000000
theorem u_expo {w : World} {mean : ExcName → Option Value} {mg mb : Str → Option Value} {dp un : Nat} {gd : Option (List Code)} {cn : Str} {cs : Scope} {a : Addr} {ccd : Value} {cl : List (Str × Addr)} {outer : List Env} {A₀ : Around} {base h₀ : Heap} {L : Addr} {m : Str → Option Value} {news : List (Addr × Obj)} {s : Shared} {Q E : Value → Shared → Prop} {l : Str} {t1 : Tok} {p : Int} {t2 : Tok} {sz : Value} {o : Option Int}
  (B : Below A₀ base outer h₀) (F : Fr h₀ L s.heap m) (X : (hd.heap_39 w.params).In h₀) (N : News h₀ L s.heap (news)) (T : Top hd.view_39 (looseW hd.view_39 []) mean mg mb h₀) (hk : cs.kind = .function) (hdp : dp + 2 < recursionLimit) (hun : un + 16 < cLine)
  (p1 : l.length = 1) (p2 : -900 < p) (p3 : p < 900) (hz : SzIs sz o)
  (hret : ∀  (t : Tok) (h' : Heap) (tk' : Nat), expoV l p o = none → Fr h₀ L h' m → News h₀ L h' (news) →  Q (.none) { s with heap := h', toks := tk' }) (hret2 : ∀ (x : Str) (t : Tok) (h' : Heap) (tk' : Nat), expoV l p o = some x → Fr h₀ L h' m → News h₀ L h' (news) → x.length ≤ 8 → Q (.str x t) { s with heap := h', toks := tk' }) :
  wpAny (model Challenge.rw_no0228_01.row.prog w) (ktrTop dp un gd cn cs L a ccd cl outer) (call (.ref 102) [.str l t1, .int p t2, sz]) Q E s := by
  k_with_none
  rcases hz with ⟨rfl, rfl⟩ | ⟨z, t, rfl, rfl, y1, y2⟩
  · exact u_expo_n B F X N T hk hdp hun p1 p2 p3 hret hret2
  · exact u_expo_z B F X N T hk hdp hun p1 p2 p3 (by omega) y2 hret hret2
end

section
open PySem PySem.W PyProof.Rows
set_option Elab.async false
set_option maxRecDepth 100000
set_option maxHeartbeats 8000000
theorem u_exp {w : World} {mean : ExcName → Option Value} {mg mb : Str → Option Value} {dp un : Nat} {gd : Option (List Code)} {cn : Str} {cs : Scope} {a : Addr} {ccd : Value} {cl : List (Str × Addr)} {outer : List Env} {A₀ : Around} {base h₀ : Heap} {L : Addr} {m : Str → Option Value} {news : List (Addr × Obj)} {s : Shared} {Q E : Value → Shared → Prop} {l : Str} {t1 : Tok} {v : Addr} {i : Int} {u1 : Tok} {j : Int} {u2 : Tok} {wd : Int} {t2 : Tok} {pl : Int} {t3 : Tok} {sz : Value} {o : Option Int} {sc : Int} {t4 : Tok} {b : Bool}
  (B : Below A₀ base outer h₀) (F : Fr h₀ L s.heap m) (X : (hd.heap_39 w.params).In h₀) (N : News h₀ L s.heap (news)) (T : Top hd.view_39 (looseW hd.view_39 []) mean mg mb h₀) (hk : cs.kind = .function) (hdp : dp + 6 < recursionLimit) (hun : un + 48 < cLine)
  (hv : (v, ({ cls := .type "tuple", data := .seq #[.int i u1, .int j u2] } : Obj)) ∈ news) (q1 : -(10 ^ 10) < i) (q2 : i < 10 ^ 10) (q3 : -40 ≤ j) (q4 : j ≤ 40) (p1 : l.length = 1) (p5 : 0 ≤ wd) (p6 : wd ≤ 100) (p7 : 0 ≤ pl) (p8 : pl ≤ 20) (r1 : -pl < sc) (r2 : sc ≤ pl + 1) (hz : SzIs sz o)
  (hret : ∀  (t : Tok) (h' : Heap) (tk' : Nat),  Fr h₀ L h' m → News h₀ L h' (news) →  Q (.str (expV l i j wd pl o sc b) t) { s with heap := h', toks := tk' }) :
  wpAny (model Challenge.rw_no0228_01.row.prog w) (ktrTop dp un gd cn cs L a ccd cl outer) (call (.ref 109) [.str l t1, .ref v, .int wd t2, .int pl t3, sz, .int sc t4, .bool b]) Q E s := by
  k_with_none
  k_with_none
  (k_with "storeName" => (k_here; k_dflt (refine' store_let ?zsF ?zsN ?_ ?zsa ?zsb; (case zsF => k_asm); (case zsN => k_asm); (case zsa => first | rfl | assumption); (case zsb => rfl)); k_whole; intro m' h' F' N'; (try k_sweep)))
  (k_with "spliced" => (k_here; first | (with_reducible refine' args_n7 ?zaF ?za1 ?za2 ?za3 ?za4 ?za5 ?za6 ?za7 ?_ ?zak ?zax; (case zaF => k_dflt k_asm); (case za1 => with_unfolding_all rfl); (case za2 => with_unfolding_all rfl); (case za3 => with_unfolding_all rfl); (case za4 => with_unfolding_all rfl); (case za5 => with_unfolding_all rfl); (case za6 => with_unfolding_all rfl); (case za7 => with_unfolding_all rfl); (case zak => first | exact rfl | assumption); (case zax => with_unfolding_all rfl)) | (with_reducible refine' args_n6 ?zaF ?za1 ?za2 ?za3 ?za4 ?za5 ?za6 ?_ ?zak ?zax; (case zaF => k_dflt k_asm); (case za1 => with_unfolding_all rfl); (case za2 => with_unfolding_all rfl); (case za3 => with_unfolding_all rfl); (case za4 => with_unfolding_all rfl); (case za5 => with_unfolding_all rfl); (case za6 => with_unfolding_all rfl); (case zak => first | exact rfl | assumption); (case zax => with_unfolding_all rfl)) | (with_reducible refine' args_n5 ?zaF ?za1 ?za2 ?za3 ?za4 ?za5 ?_ ?zak ?zax; (case zaF => k_dflt k_asm); (case za1 => with_unfolding_all rfl); (case za2 => with_unfolding_all rfl); (case za3 => with_unfolding_all rfl); (case za4 => with_unfolding_all rfl); (case za5 => with_unfolding_all rfl); (case zak => first | exact rfl | assumption); (case zax => with_unfolding_all rfl)) | (with_reducible refine' args_n4 ?zaF ?za1 ?za2 ?za3 ?za4 ?_ ?zak ?zax; (case zaF => k_dflt k_asm); (case za1 => with_unfolding_all rfl); (case za2 => with_unfolding_all rfl); (case za3 => with_unfolding_all rfl); (case za4 => with_unfolding_all rfl); (case zak => first | exact rfl | assumption); (case zax => with_unfolding_all rfl)) | (with_reducible refine' args_n3 ?zaF ?za1 ?za2 ?za3 ?_ ?zak ?zax; (case zaF => k_dflt k_asm); (case za1 => with_unfolding_all rfl); (case za2 => with_unfolding_all rfl); (case za3 => with_unfolding_all rfl); (case zak => first | exact rfl | assumption); (case zax => with_unfolding_all rfl)) | (with_reducible refine' args_n2 ?zaF ?za1 ?za2 ?_ ?zak ?zax; (case zaF => k_dflt k_asm); (case za1 => with_unfolding_all rfl); (case za2 => with_unfolding_all rfl); (case zak => first | exact rfl | assumption); (case zax => with_unfolding_all rfl))))
  (k_with "call ref" => (k_here; (with_reducible show wpAny _ _ (call (Value.ref 67) [Value.bool _, Value.bool _]) _ _ _); k_dflt (refine' u_sign_text ?k1 ?k2 ?k3 ?k4 ?k5 ?kK ?kd ?ku  ?_); (case k1 => k_asm); (case k2 => k_asm); (case k3 => k_asm); (case k4 => k_asm); (case k5 => k_asm); (case kK => first | exact rfl | assumption); (case kd => first | exact room hdp (by decide) | decide | ktr_room); (case ku => first | exact room hun (by decide) | decide | ktr_units); (intro sg' t' h' tk' hg' F' N' l0'); (try dsimp only); (try k_fold); walk_say "CONTRACT sign_text"))
  (k_with "call ref" => (k_here; (with_reducible show wpAny _ _ (call (Value.ref 81) [Value.str _ _, Value.str _ _, Value.str _ _, Value.int _ _]) _ _ _); k_dflt (refine' u_point_field ?k1 ?k2 ?k3 ?k4 ?k5 ?kK ?kd ?ku ?p0 ?p1 ?p2 ?p3 ?p4 ?_); (case k1 => k_asm); (case k2 => k_asm); (case k3 => k_asm); (case k4 => k_asm); (case k5 => k_asm); (case kK => first | exact rfl | assumption); (case kd => first | exact room hdp (by decide) | decide | ktr_room); (case ku => first | exact room hun (by decide) | decide | ktr_units); (case p0 => first | assumption | omega | kt_fact); (case p1 => first | assumption | omega | kt_fact); (case p2 => first | assumption | omega | kt_fact); (case p3 => first | assumption | omega | kt_fact); (case p4 => first | assumption | omega | kt_fact); (intro o' t' h' tk' ho' F' N' l0'); (try dsimp only); (try k_fold); walk_say "CONTRACT point_field"))
  (k_with "call ref" => (k_here; (with_reducible show wpAny _ _ (call (Value.ref 95) [Value.ref _, Value.int _ _]) _ _ _); k_dflt (refine' u_leading ?k1 ?k2 ?k3 ?k4 ?k5 ?kK ?kd ?ku ?p0 ?p1 ?p2 ?p3 ?p4 ?p5 ?p6 ?_); (case k1 => k_asm); (case k2 => k_asm); (case k3 => k_asm); (case k4 => k_asm); (case k5 => k_asm); (case kK => first | exact rfl | assumption); (case kd => first | exact room hdp (by decide) | decide | ktr_room); (case ku => first | exact room hun (by decide) | decide | ktr_units); (case p0 => k_mem); (case p1 => first | assumption | omega | kt_fact); (case p2 => first | assumption | omega | kt_fact); (case p3 => first | assumption | omega | kt_fact); (case p4 => first | assumption | omega | kt_fact); (case p5 => first | assumption | omega | kt_fact); (case p6 => first | assumption | omega | kt_fact); (intro x' y' t1' t2' D' h' tk' hx' hy' F' N' hl' l0' l1' l2'); (try dsimp only); (try k_fold); walk_say "CONTRACT leading"))
  (k_with "call ref" => (k_here; (with_reducible show wpAny _ _ (call (Value.ref 102) [Value.str _ _, Value.int _ _, _]) _ _ _); k_dflt (refine' u_expo ?k1 ?k2 ?k3 ?k4 ?k5 ?kK ?kd ?ku ?p0 ?p1 ?p2 ?p3 ?_ ?_); (case k1 => k_asm); (case k2 => k_asm); (case k3 => k_asm); (case k4 => k_asm); (case k5 => k_asm); (case kK => first | exact rfl | assumption); (case kd => first | exact room hdp (by decide) | decide | ktr_room); (case ku => first | exact room hun (by decide) | decide | ktr_units); (case p0 => first | assumption | decide); (case p1 => first | assumption | omega | kt_fact); (case p2 => first | assumption | omega | kt_fact); (case p3 => first | exact szNone | with_reducible assumption); all_goals (intros; (try dsimp only); (try k_fold)); walk_say "CONTRACT expo"))
  (k_with "binaryOp Add str str" => (k_here; (with_reducible show wpAny _ _ (binaryOp Operator.Add (Value.str _ _) (Value.str _ _)) _ _ _); (refine' add_let ?zax ?zay ?zas ?_; (case zax => first | ((with_reducible show (PySem.Txt.slice _ _ _).length ≤ _); with_reducible exact Nat.le_trans (PyProof.Txt.length_slice_le _ _ _) (by with_reducible assumption)) | with_reducible assumption | with_reducible exact Nat.le_of_eq (by with_reducible assumption) | exact Nat.le_of_eq (by kln_w) | ((with_reducible show (Txt.mul _ _).length ≤ _); exact mul0_le (by omega))); (case zay => first | ((with_reducible show (PySem.Txt.slice _ _ _).length ≤ _); with_reducible exact Nat.le_trans (PyProof.Txt.length_slice_le _ _ _) (by with_reducible assumption)) | with_reducible assumption | with_reducible exact Nat.le_of_eq (by with_reducible assumption) | exact Nat.le_of_eq (by kln_w) | ((with_reducible show (Txt.mul _ _).length ≤ _); exact mul0_le (by omega))); (case zas => decide)); intro r' t' k' hr' lr'; (try dsimp only)))
  (k_with "exec If" => (k_here; (fail_if_success (with_reducible show wpAny _ _ _ (JF _ _ _ _ _ _ _) _ _)); (with_reducible show wpAny _ _ (exec (Stmt.If _ [Stmt.Assign [PySem.Expr.Name (Str.ofString "count") _] _ _] [] _) _) _ _ _); k_dflt (refine' jf_cut (Value.int (countV pl sc)) (Str.ofString "count") ?jF ?jN ?_ ?_; (case jF => k_asm); (case jN => k_asm)); skip; rotate_left 1; intros; skip; (try dsimp only); (try k_fold); rotate_right 1; walk_say "JOIN count"))
  (k_with "exec If" => (k_here; (fail_if_success (with_reducible show wpAny _ _ _ (JF _ _ _ _ _ _ _) _ _)); (with_reducible show wpAny _ _ (exec (Stmt.If _ [Stmt.AugAssign (PySem.Expr.Name (Str.ofString "power") _) _ _ _] [] _) _) _ _ _); k_dflt (refine' jf_cut (Value.int (powV i j pl sc)) (Str.ofString "power") ?jF ?jN ?_ ?_; (case jF => k_asm); (case jN => k_asm)); skip; rotate_left 1; intros; (have hpw' := hpw _ hy' (by assumption) (by assumption)); (obtain ⟨hpw0, hpw1⟩ := hpw'); (try dsimp only); (try k_fold); rotate_right 1; walk_say "JOIN power"))
  (k_with "exec If" => (k_here; (with_reducible show wpAny _ _ (exec (Stmt.If _ _ _ _) _) (JF _ _ _ _ _ _ _) _ _); refine wpAny_If ?_))
  (k_with "JF" => (first | (k_dflt (refine' jf_int1 ?jF ?jN ?jv; (case jF => k_asm); (case jN => k_asm); (case jv => first | exact pow_n hy' (by with_reducible assumption) | exact pow_y hy' (by with_reducible assumption) | (first | ((simp (disch := first | with_reducible assumption | (refine not_t ?_; with_reducible assumption) | omega) only [countV, if_pos, if_neg]); done) | ((simp (disch := first | with_reducible assumption | (refine not_t ?_; with_reducible assumption) | omega) only [countV, if_pos, if_neg]); rfl) | rfl)))) | (k_dflt (refine' jf_int0 ?jF ?jN ?jm ?jv; (case jF => k_asm); (case jN => k_asm); (case jm => with_unfolding_all rfl); (case jv => first | exact pow_n hy' (by with_reducible assumption) | exact pow_y hy' (by with_reducible assumption) | (first | ((simp (disch := first | with_reducible assumption | (refine not_t ?_; with_reducible assumption) | omega) only [countV, if_pos, if_neg]); done) | ((simp (disch := first | with_reducible assumption | (refine not_t ?_; with_reducible assumption) | omega) only [countV, if_pos, if_neg]); rfl) | rfl))))))
  revert X; k_fill; intro X
  obtain ⟨z0, z1, z2, z3, z4, z5⟩ := lens
  have hr2 := hret
  obtain ⟨hc0, hc1⟩ := countV_facts p7 p8 r1 r2
  have hpw := fun y hy h0 h1 => powV_facts (i := i) (j := j) (y := y) hy h0 h1 r1 r2 p8
  refine wpAny_call ?_
  k_dflt cell_enter
  (rename Fr _ _ _ _ => zF0); (refine fr_let zF0 ?_); clear zF0; intro m' zF1
  (refine env_let ?_); intro env' A'
  k_steps
  all_goals (
    first
    | (refine cb_retS (Q := Q) hr2 ?e0 ?eF ?eN; (case eF => k_asm); (case eN => first | k_asm | exact cb_drop (by assumption) (fun _ hp => .tail _ hp) | exact cb_drop (by assumption) (fun _ hp => .tail _ (.tail _ hp)) | exact cb_drop (by assumption) (fun _ hp => .tail _ (.tail _ (.tail _ hp)))); (case e0 => first | ((with_reducible refine' exp_e0 ?zh0); (case zh0 => with_reducible assumption)) | ((with_reducible refine' exp_e1 ?zh0 ?zh1 ?zh2 ?zh3 ?zh4 ?zh5); (case zh5 => with_reducible assumption); (case zh4 => with_reducible assumption); (case zh3 => first | with_reducible assumption | omega); (case zh2 => with_reducible assumption); (case zh1 => with_reducible assumption); (case zh0 => with_reducible assumption)) | ((with_reducible refine' exp_e2 ?zh0 ?zh1 ?zh2 ?zh3 ?zh4 ?zh5 ?zh6); (case zh6 => with_reducible assumption); (case zh5 => with_reducible assumption); (case zh4 => with_reducible assumption); (case zh3 => first | with_reducible assumption | omega); (case zh2 => with_reducible assumption); (case zh1 => with_reducible assumption); (case zh0 => with_reducible assumption))); skip))
end

section
open PySem PySem.W PyProof.Rows
set_option Elab.async false
set_option maxRecDepth 100000
set_option maxHeartbeats 8000000
theorem u_hx_in {w : World} {mean : ExcName → Option Value} {mg mb : Str → Option Value} {dp un : Nat} {gd : Option (List Code)} {cn : Str} {cs : Scope} {a : Addr} {ccd : Value} {cl : List (Str × Addr)} {outer : List Env} {A₀ : Around} {base h₀ : Heap} {L : Addr} {m : Str → Option Value} {news : List (Addr × Obj)} {s : Shared} {Q E : Value → Shared → Prop} {l : Str} {t1 : Tok} {v : Addr} {i : Int} {u1 : Tok} {j : Int} {u2 : Tok} {wd : Int} {t2 : Tok} {pl : Int} {t3 : Tok} {sz : Value} {o : Option Int} {sc : Int} {t4 : Tok} {b : Bool}
  (B : Below A₀ base outer h₀) (F : Fr h₀ L s.heap m) (X : (hd.heap_39 w.params).In h₀) (N : News h₀ L s.heap (news)) (T : Top hd.view_39 (looseW hd.view_39 []) mean mg mb h₀) (hk : cs.kind = .function) (hdp : dp + 9 < recursionLimit) (hun : un + 72 < cLine)
  (hv : (v, ({ cls := .type "tuple", data := .seq #[.int i u1, .int j u2] } : Obj)) ∈ news) (q1 : -(10 ^ 10) < i) (q2 : i < 10 ^ 10) (q3 : -40 ≤ j) (q4 : j ≤ 40) (p1 : l.length = 1) (hG : l ≠ Str.ofString "G") (p5 : 0 ≤ wd) (p6 : wd ≤ 100) (p7 : 0 ≤ pl) (p8 : pl ≤ 20) (r1 : -pl < sc) (r2 : sc ≤ pl + 1) (hz : SzIs sz o)
  (hret : ∀  (t : Tok) (h' : Heap) (tk' : Nat),  Fr h₀ L h' m → News h₀ L h' (news) →  Q (.str (expV l i j wd pl o sc b) t) { s with heap := h', toks := tk' }) :
  wpAny (model Challenge.rw_no0228_01.row.prog w) (ktrTop dp un gd cn cs L a ccd cl outer) (call (.ref 207) [.str l t1, .ref v, .int wd t2, .int pl t3, sz, .int sc t4, .bool b]) Q E s := by
  k_with_none
  k_with_none
  (k_with "storeName" => (k_here; k_dflt (refine' store_let ?zsF ?zsN ?_ ?zsa ?zsb; (case zsF => k_asm); (case zsN => k_asm); (case zsa => first | rfl | assumption); (case zsb => rfl)); k_whole; intro m' h' F' N'; (try k_sweep)))
  (k_with "spliced" => (k_here; first | (with_reducible refine' args_n7 ?zaF ?za1 ?za2 ?za3 ?za4 ?za5 ?za6 ?za7 ?_ ?zak ?zax; (case zaF => k_dflt k_asm); (case za1 => with_unfolding_all rfl); (case za2 => with_unfolding_all rfl); (case za3 => with_unfolding_all rfl); (case za4 => with_unfolding_all rfl); (case za5 => with_unfolding_all rfl); (case za6 => with_unfolding_all rfl); (case za7 => with_unfolding_all rfl); (case zak => first | exact rfl | assumption); (case zax => with_unfolding_all rfl)) | (with_reducible refine' args_n6 ?zaF ?za1 ?za2 ?za3 ?za4 ?za5 ?za6 ?_ ?zak ?zax; (case zaF => k_dflt k_asm); (case za1 => with_unfolding_all rfl); (case za2 => with_unfolding_all rfl); (case za3 => with_unfolding_all rfl); (case za4 => with_unfolding_all rfl); (case za5 => with_unfolding_all rfl); (case za6 => with_unfolding_all rfl); (case zak => first | exact rfl | assumption); (case zax => with_unfolding_all rfl)) | (with_reducible refine' args_n5 ?zaF ?za1 ?za2 ?za3 ?za4 ?za5 ?_ ?zak ?zax; (case zaF => k_dflt k_asm); (case za1 => with_unfolding_all rfl); (case za2 => with_unfolding_all rfl); (case za3 => with_unfolding_all rfl); (case za4 => with_unfolding_all rfl); (case za5 => with_unfolding_all rfl); (case zak => first | exact rfl | assumption); (case zax => with_unfolding_all rfl)) | (with_reducible refine' args_n4 ?zaF ?za1 ?za2 ?za3 ?za4 ?_ ?zak ?zax; (case zaF => k_dflt k_asm); (case za1 => with_unfolding_all rfl); (case za2 => with_unfolding_all rfl); (case za3 => with_unfolding_all rfl); (case za4 => with_unfolding_all rfl); (case zak => first | exact rfl | assumption); (case zax => with_unfolding_all rfl)) | (with_reducible refine' args_n3 ?zaF ?za1 ?za2 ?za3 ?_ ?zak ?zax; (case zaF => k_dflt k_asm); (case za1 => with_unfolding_all rfl); (case za2 => with_unfolding_all rfl); (case za3 => with_unfolding_all rfl); (case zak => first | exact rfl | assumption); (case zax => with_unfolding_all rfl)) | (with_reducible refine' args_n2 ?zaF ?za1 ?za2 ?_ ?zak ?zax; (case zaF => k_dflt k_asm); (case za1 => with_unfolding_all rfl); (case za2 => with_unfolding_all rfl); (case zak => first | exact rfl | assumption); (case zax => with_unfolding_all rfl))))
  (k_with "call ref" => (k_here; (with_reducible show wpAny _ _ (call (Value.ref 109) [Value.str _ _, Value.ref _, Value.int _ _, Value.int _ _, _, Value.int _ _, Value.bool _]) _ _ _); k_dflt (refine' u_exp ?k1 ?k2 ?k3 ?k4 ?k5 ?kK ?kd ?ku ?p0 ?p1 ?p2 ?p3 ?p4 ?p5 ?p6 ?p7 ?p8 ?p9 ?p10 ?p11 ?p12 ?_); (case k1 => k_asm); (case k2 => k_asm); (case k3 => k_asm); (case k4 => k_asm); (case k5 => k_asm); (case kK => first | exact rfl | assumption); (case kd => first | exact room hdp (by decide) | decide | ktr_room); (case ku => first | exact room hun (by decide) | decide | ktr_units); (case p0 => k_mem); (case p1 => first | assumption | omega | kt_fact); (case p2 => first | assumption | omega | kt_fact); (case p3 => first | assumption | omega | kt_fact); (case p4 => first | assumption | omega | kt_fact); (case p5 => first | assumption | decide); (case p6 => first | assumption | omega | kt_fact); (case p7 => first | assumption | omega | kt_fact); (case p8 => first | assumption | omega | kt_fact); (case p9 => first | assumption | omega | kt_fact); (case p10 => first | assumption | omega | kt_fact); (case p11 => first | assumption | omega | kt_fact); (case p12 => first | exact szNone | with_reducible assumption); all_goals (intros; (try dsimp only); (try k_fold)); walk_say "CONTRACT exp"))
  (k_with "compareOp Eq str str" => (k_here; k_dflt (refine' eq_diff ?k1 ?_; (case k1 => with_reducible assumption)); walk_say "DIFF"))
  revert X; k_fill; intro X
  obtain ⟨z0, z1, z2, z3, z4, z5⟩ := lens
  refine wpAny_call ?_
  k_dflt cell_enter
  (rename Fr _ _ _ _ => zF0); (refine fr_let zF0 ?_); clear zF0; intro m' zF1
  (refine env_let ?_); intro env' A'
  k_steps
  all_goals (
    first
    | (refine cb_retS (Q := Q) hret ?e0 ?eF ?eN; (case eF => k_asm); (case eN => first | k_asm | exact cb_drop (by assumption) (fun _ hp => .tail _ hp) | exact cb_drop (by assumption) (fun _ hp => .tail _ (.tail _ hp)) | exact cb_drop (by assumption) (fun _ hp => .tail _ (.tail _ (.tail _ hp)))); (case e0 => exact rfl); skip))
end

section
open PySem PySem.W PyProof.Rows
set_option Elab.async false
set_option maxRecDepth 100000
set_option maxHeartbeats 4000000
/- an own exception class with an __init__ of its own: the object is made -/
noncomputable abbrev excNew (C t : Addr) : Obj := { cls := .ref C, data := .fields #[.ref t, .none, .none, .none, .bool false, .none] }
noncomputable abbrev tupO (vs : List Value) : Obj := { cls := .type "tuple", data := .seq vs.toArray }
section
variable {prog : Program} {w : World} {A : Around} {R : Result → Shared → Prop} {h : Heap} {g : Array GenState} {d : Drawn} {t : Nat} {os : OsState}
variable {nm q : Str} {C N : Addr} {bs bm : List Value} {hdct : Bool} {sn : List Str} {sub : List Value} {ab : Bool} {col : Option Bool} {dd : Option Addr} {k0 k1 k2 k3 k5 : Option Value}
theorem exc_new {rest : List Value} (hC : h.get? C = some (excClassObj nm q C N bs bm hdct sn sub ab col dd k0 k1 k2 k3 k5 "Exception.__new__"))
    (hE : bm.contains (.type "Exception") = true) (hAt : bm.contains (.type "AttributeError") = false) (hNm : bm.contains (.type "NameError") = false) (hr : rest.length ≤ 1000)
    (hq : R (.ok (.ret (.ref (h.objs.size + 1)))) ⟨(h.push (tupO rest)).push (excNew C h.objs.size), g, d, t, os⟩) :
    codeAny (model prog w) A (.builtin "Exception.__new__" ⟨.ref C :: rest, []⟩) R ⟨h, g, d, t, os⟩ := by
  have FX := PySem.F.excBase_Exception
  have ends := FX.ends
  have hrest : rest.length ≤ sizeLine := by rw [sizeLine_eq]; omega
  have cE : (Value.ref C :: bm).contains (.type "Exception") = true := by rw [List.contains_cons, hE, Bool.or_true]
  have cA : (Value.ref C :: bm).contains (.type "AttributeError") = false := by rw [List.contains_cons, hAt]; rfl
  have cN : (Value.ref C :: bm).contains (.type "NameError") = false := by rw [List.contains_cons, hNm]; rfl
  refine codeAny_builtinAt FX.entry ?_
  unfold Builtin.«BaseException.__new__»
  refine PySem.wpAt_bind ?_
  show PySem.wpAt _ _ _ (stack >>= _) _ _ _
  refine PySem.wpAt_bind (PySem.wpAt_stack fun p below => PySem.wpAt_of_wpAny ?_)
  wp_walk
  refine PySem.wpAt_of_wpAny ?_
  rw [FX.owner]
  repeat (first | with_reducible refine wpAny_madeHere_exc FX.canon hC ?_ | with_reducible refine wpAny_loadPart_at hC ?_ | (with_reducible refine wpAny_isSubtype_exc hC ?_; first | rw [cE] | rw [cA] | rw [cN]) | wp_step)
  show R _ _
  rw [Heap.size_push]
  exact hq
theorem exc_make {rest : List Value} {fI : Addr} (hC : h.get? C = some (excClassObj nm q C N bs bm hdct sn sub ab col dd k0 k1 k2 k3 k5 "Exception.__new__"))
    (hE : bm.contains (.type "Exception") = true) (hAt : bm.contains (.type "AttributeError") = false) (hNm : bm.contains (.type "NameError") = false) (hr : rest.length ≤ 1000)
    (hi : Looks (model prog w) h (typeLookup (.ref C) "__init__") (some (.ref fI))) (hb : ∀ self, Looks (model prog w) h (bindSpecial (.ref fI) self) (.ref fI, [self]))
    (hq : codeAny (model prog w) (A.under (.builtin "type.__call__" ⟨.ref C :: rest, []⟩)) (.call (.ref fI) ⟨.ref (h.objs.size + 1) :: rest, []⟩) (InitBack (h.objs.size + 1) R) ⟨(h.push (tupO rest)).push (excNew C h.objs.size), g, d, t, os⟩) :
    codeAny (model prog w) A (.call (.ref C) ⟨rest, []⟩) R ⟨h, g, d, t, os⟩ := by
  have f1 := tc_lookup
  have f2 := tc_bind (.ref C)
  have hT : (⟨h, g, d, t, os⟩ : Shared).TypeIs (.ref C) "type" := ⟨_, hC, rfl⟩
  have FX := PySem.F.excBase_Exception
  have k : ∀ b o, h.get? b = some o → ((h.push (tupO rest)).push (excNew C h.objs.size)).get? b = some o := fun b o e => Heap.get?_push_of_some _ (Heap.get?_push_of_some _ e)
  have hx : ((h.push (tupO rest)).push (excNew C h.objs.size)).get? (h.objs.size + 1) = some (excNew C h.objs.size) := by heap_get
  refine codeAny_of_tree ?_
  show wpAny _ _ (callAny (.ref C) _) _ _ _
  repeat (any_goals (first | assumption | with_reducible refine wpAny_loadPart_at hC ?_ | wp_step))
  refine ⟨rfl, ?_⟩
  refine codeAny_call_builtin_at (Code.quiet_builtin _ (by decide +kernel)) entry_typeCall (wpAny_check_type_call_sub hC ?_)
  repeat (first | with_reducible refine wpAny_loadPart_at hC ?_ | with_reducible refine wpAny_madeBy_exc hC ?_ | wp_step)
  refine codeAny_call_builtin_code (Code.quiet_builtin _ FX.quiet) (wpAny_check_new_subU FX hE .base hC ?_)
  refine exc_new hC hE hAt hNm hr ?_
  show wpAny _ _ _ _ _ _
  have hC₁ := k _ _ hC
  have hcC : (Value.ref C :: bm).contains (.ref C) = true := by simp
  unfold isInstance
  repeat (first | with_reducible refine wpAny_loadPart_at hx ?_ | (with_reducible refine wpAny_isSubtype_exc hC₁ ?_; rw [hcC]) | wp_step)
  refine wpAny_isSubtype_exc hC₁ ?_
  rw [hcC]
  repeat (first | with_reducible refine wpAny_loadPart_at hx ?_ | wp_step)
  refine (hi.keeps k).here ?_
  refine wpAny_holding (wpAny_bind (((hb (.ref (h.objs.size + 1))).keeps k).here ?_))
  refine wpAny_bind (wpAny_call (codeAny_mono hq fun r s' z => ?_))
  rcases r with e | (v | _ | _ | _) <;> first | exact z | exact z.elim | skip
  obtain ⟨rfl, z⟩ := z
  wp_walk
  exact z
end
end

section
open PySem PySem.W PyProof.Rows
set_option Elab.async false
set_option maxRecDepth 100000
set_option maxHeartbeats 4000000
section
variable {prog : Program} {w : World} {A : Around} {E : Value → Shared → Prop} {s : Shared} {K : Frag} {L : Addr} {h₀ : Heap} {m : Str → Option Value} {news : List (Addr × Obj)}
variable {nm q : Str} {C N' : Addr} {bs bm : List Value} {hdct : Bool} {sn : List Str} {sub : List Value} {ab : Bool} {col : Option Bool} {dd : Option Addr} {k0 k1 k2 k3 k5 : Option Value}
theorem call_exc {Q : Value → Shared → Prop} {rest : List Value} {fI : Addr} (F : Fr h₀ L s.heap m) (X₀ : K.In h₀) (N : News h₀ L s.heap news)
    (hC : K.lookup C = some (excClassObj nm q C N' bs bm hdct sn sub ab col dd k0 k1 k2 k3 k5 "Exception.__new__"))
    (hE : bm.contains (.type "Exception") = true) (hAt : bm.contains (.type "AttributeError") = false) (hNm : bm.contains (.type "NameError") = false) (hr : rest.length ≤ 1000)
    (hi : findIn K (.ref C) "__init__" = some (some (.ref fI))) (hf : isFn K (.ref fI) = true)
    (h : ∀ x t h', Fr h₀ L h' m → News h₀ L h' ((x, excNew C t) :: (t, tupO rest) :: news) → (∀ p ∈ news, p.1 < t) → t < x →
      codeAny (model prog w) (A.under (.builtin "type.__call__" ⟨.ref C :: rest, []⟩)) (.call (.ref fI) ⟨.ref x :: rest, []⟩) (InitBack x fun r s' => match r with | .ok (.ret v) => Q v s' | .ok _ => False | .error e => E e s') { s with heap := h' }) :
    wpAny (model prog w) A (call (.ref C) rest []) Q E s := by
  obtain ⟨hh, g, d, t, os⟩ := s
  have X := X₀.keeps F.keep
  refine wpAny_call (exc_make (X _ _ hC) hE hAt hNm hr (looks_findIn X hi) (fun self => bind_fn X self (beq_iff_eq.mp hf)) (h _ hh.objs.size _ ((F.push _).push _) ?_ (fun p hp => Heap.lt_size (N p hp).1) (Nat.lt_succ_self _)))
  have := (N.push F (tupO rest)).push (F.push _) (excNew C hh.objs.size)
  rwa [Heap.size_push] at this
theorem bexc_init {Q : Value → Shared → Prop} {x t : Addr} {v : Value} {rest : List (Addr × Obj)} (F : Fr h₀ L s.heap m) (X₀ : K.In h₀) (N : News h₀ L s.heap ((x, excNew C t) :: rest)) (hne : ∀ p ∈ rest, p.1 ≠ x)
    (hC : K.lookup C = some (excClassObj nm q C N' bs bm hdct sn sub ab col dd k0 k1 k2 k3 k5 "Exception.__new__")) (hE : bm.contains (.type "Exception") = true)
    (h : ∀ T h', Fr h₀ L h' m → News h₀ L h' ((x, excNew C T) :: rest) → Q .none { s with heap := h' }) :
    wpAny (model prog w) A (call (.builtin "Exception.__init__") [.ref x, v]) Q E s := by
  have FX := PySem.F.excBase_Exception
  have hF := (F.push (tupO [v]))
  have hN := N.push F (tupO [v])
  obtain ⟨U1, U2⟩ := news_upd (pre := [(s.heap.objs.size, tupO [v])]) (post := rest) (o' := excNew C s.heap.objs.size) (f := Obj.mapFields (·.setIfInBounds 0 (.ref s.heap.objs.size))) hF hN
    (fun p hp => by rw [List.mem_singleton.mp hp]; exact Nat.ne_of_gt (Heap.lt_size (N _ (.head _)).1)) hne rfl rfl
  have hx := (N _ (.head _)).1
  have hx₁ := (hN _ (.tail _ (.head _))).1
  have hC₁ := (X₀.keeps F.keep) _ _ hC
  obtain ⟨hh, g, d, tk, os⟩ := s
  have hcE : (Value.ref C :: bm).contains (.type "Exception") = true := by rw [List.contains_cons, hE, Bool.or_true]
  have hcheck : ∀ {Q : Unit → Shared → Prop} {A : Around} {E : Value → Shared → Prop}, Q () ⟨hh, g, d, tk, os⟩ → wpAny (model prog w) A (checkBuiltinCall "Exception.__init__" ⟨[.ref x, v], []⟩) Q E ⟨hh, g, d, tk, os⟩ := by
    intro Q A E hq
    simp only [checkBuiltinCall, FX.initKind, FX.initSplit, FX.initRow]
    repeat (first | with_reducible refine wpAny_loadPart_at hx ?_ | with_reducible refine wpAny_loadPart_at hC₁ ?_ | (with_reducible refine wpAny_isSubtype_exc hC₁ ?_; rw [hcE]) | wp_step)
    exact hq
  refine wpAny_call (codeAny_call_builtin FX.init.plain FX.initEntry (hcheck ?_))
  wp_walk
  exact h _ _ U1 (fun p hp => U2 p (.tail _ hp))
/- a store into an exception object -/
theorem exc_osa {R : Result → Shared → Prop} {x D : Addr} {ox : Obj} {od : Option Obj} {name : Str} {tk : Tok} {v : Value} {cd : ClassData} (X : K.In s.heap) (I : InstAt s.heap x ox C od)
    (hc : clsIn K C = some cd) (hm : cd.mro = [.ref C, .ref D, .type "Exception", .type "BaseException", .type "object"]) (ha : findIn K (.ref C) name = some none)
    (h : wpAny (model prog w) A.in1 (Builtin.ObjectAttr.storeInOwnDict (.ref x) (.ref C) (.str name tk) name v false)
      (fun fin s' => match fin with | .done f => R (.ok f) s' | .again c' => c'.quiet = true ∧ codeAny (model prog w) A c' R s') (fun e s' => R (.error e) s') s) :
    codeAny (model prog w) A (.call (.builtin "object.__setattr__") ⟨[.ref x, .str name tk, v], []⟩) R s := by
  have SF := PySem.F.store_object
  have SX := PySem.F.store_Exception
  have sub : Looks (model prog w) s.heap (isInstance (.ref x) (.type "object")) true := I.type.andThen (looks_mroIn X (by unfold mroIn; rw [hc, Option.bind_some, hm]; rfl))
  refine codeAny_call_builtin SF.slot.plain SF.entry (@check_slot (model prog w) _ _ s "object.__setattr__" "object" "__setattr__" (.ref x) [.str name tk, v] [] _ SF.kind SF.split sub (SF.args (.ref x) (.str name tk) v) ?_)
  have hm' : Looks (model prog w) s.heap (mroOf (.ref C)) cd.mro := (looks_clsIn X hc).andThen .now
  rw [osa_eq, refuse_eq]
  refine wpAny_bind (wpAny_bind (I.type.here (wpAny_bind (hm'.here ?_))))
  rw [hm, refuseLoop_ref, refuseLoop_ref, SX.passes]
  refine wpAny_pure (wpAny_bind (I.type.here (wpAny_bind ((looks_findIn X ha).here (wpAny_bind (wpAny_pure ?_))))))
  exact h
theorem news_upd2 {h₀ h : Heap} {L d : Addr} {m : Str → Option Value} {pre post : List (Addr × Obj)} {o o' : Obj} {f : Obj → Obj} (F : Fr h₀ L h m) (N : News h₀ L h (pre ++ (d, o) :: post))
    (h1 : ∀ p ∈ pre, p.1 ≠ d) (h2 : ∀ p ∈ post, p.1 ≠ d) (e : f o = o') (hf : o'.isFreed = false) : Fr h₀ L (h.update d f) m ∧ News h₀ L (h.update d f) (pre ++ (d, o') :: post) := news_upd F N h1 h2 e hf
theorem exc_set1 {Q : Unit → Shared → Prop} {x T D : Addr} {rest : List (Addr × Obj)} {name : Str} {v : Value} {cd : ClassData} (F : Fr h₀ L s.heap m) (X₀ : K.In h₀) (N : News h₀ L s.heap ((x, excNew C T) :: rest)) (hne : ∀ p ∈ rest, p.1 ≠ x)
    (hs : findIn K (.ref C) "__setattr__" = some (some (.builtin "object.__setattr__"))) (hc : clsIn K C = some cd) (hm : cd.mro = [.ref C, .ref D, .type "Exception", .type "BaseException", .type "object"]) (hd : cd.hasDict = true) (ha : findIn K (.ref C) name = some none)
    (h : ∀ d tk h' tk', Fr h₀ L h' m → News h₀ L h' ((d, dictOf [⟨PyData.keyHash w.params name, .str name tk, v⟩] 1) :: (x, ({ excNew C T with dict := some d } : Obj)) :: rest) → x < d → (∀ p ∈ rest, p.1 < d) → Q () { s with heap := h', toks := tk' }) :
    wpAny (model prog w) A (setAttr (.ref x) name v) Q E s := by
  have X := X₀.keeps F.keep
  have hx := (N _ (.head _)).1
  have I : InstAt s.heap x (excNew C T) C none := ⟨hx, rfl, rfl, trivial⟩
  refine set_plain X I hs (exc_osa (s := { s with toks := s.toks + 1 }) X I hc hm ha ?_)
  refine wpAny_bind (wpAny_pure (wpAny_bind (wpAny_bind (wpAny_loadPart hx (wpAny_bind (looks_clsIn X hc _ _ _ _ (fun _ _ e => e) ?_))))))
  rw [hd]
  have hlt := Heap.lt_size hx
  have hlr : ∀ p ∈ rest, p.1 < s.heap.objs.size := fun p hp => Heap.lt_size (N p (.tail _ hp)).1
  have F1 := F.push emptyDict
  have N1 := N.push F emptyDict
  obtain ⟨F2, N2⟩ := news_upd (pre := [(s.heap.objs.size, emptyDict)]) (post := rest) (o' := ({ excNew C T with dict := some s.heap.objs.size } : Obj)) (f := fun o => { o with dict := some s.heap.objs.size }) F1 N1
    (fun p hp => by rw [List.mem_singleton.mp hp]; exact Nat.ne_of_gt hlt) hne rfl rfl
  have D2 := (N2 (s.heap.objs.size, emptyDict) (.head _)).1
  obtain ⟨F3, N3⟩ := news_upd (pre := []) (post := (x, ({ excNew C T with dict := some s.heap.objs.size } : Obj)) :: rest) (o' := dictOf [⟨PyData.keyHash w.params name, .str name (s.toks + 1), v⟩] 1) (f := Obj.putName name (PyData.keyHash w.params name) (.str name (s.toks + 1)) v) F2 N2
    (fun p hp => nomatch hp) (fun p hp => by rcases List.mem_cons.mp hp with rfl | hp; exact Nat.ne_of_lt hlt; exact Nat.ne_of_lt (hlr p hp)) (by rw [show emptyDict = dictOf [] 0 from rfl, putName_dict]; rfl) rfl
  have D3 := (N3 _ (.head _)).1
  refine wpAny_bind (wpAny_alloc (wpAny_bind (wpAny_update (o := excNew C T) ?_ (wpAny_pure (wpAny_bind (wpAny_pure (wpAny_bind ?_)))))))
  · exact Heap.get?_push_of_some _ hx
  unfold nsSet
  refine wpAny_bind (wpAny_bind (wpAny_askSetting (wpAny_pure (wpAny_bind (wpAny_mkText (wpAny_bind (wpAny_loadPart D2 ?_)))))))
  dsimp only
  rw [aRefKeyMayBeTheName_at, if_neg (by simp)]
  refine wpAny_updatePart D2 ?_
  refine wpAny_bind (wpAny_lookBehind D3 (pastItsLine_dict (by rw [List.size_toArray, sizeLine_eq]; simp)) ?_)
  exact wpAny_pure (h _ _ _ _ F3 N3 hlt hlr)
theorem exc_set2 {Q : Unit → Shared → Prop} {x T D dx : Addr} {rest : List (Addr × Obj)} {name nm' : Str} {hs' : Int} {tk' : Tok} {v v' : Value} {cd : ClassData} (F : Fr h₀ L s.heap m) (X₀ : K.In h₀)
    (N : News h₀ L s.heap ((dx, dictOf [⟨hs', .str nm' tk', v'⟩] 1) :: (x, ({ excNew C T with dict := some dx } : Obj)) :: rest)) (hlt : x < dx) (hne : ∀ p ∈ rest, p.1 < dx) (hnn : (nm' == name) = false)
    (hs : findIn K (.ref C) "__setattr__" = some (some (.builtin "object.__setattr__"))) (hc : clsIn K C = some cd) (hm : cd.mro = [.ref C, .ref D, .type "Exception", .type "BaseException", .type "object"]) (hd : cd.hasDict = true) (ha : findIn K (.ref C) name = some none)
    (h : ∀ h' tk', Fr h₀ L h' m → News h₀ L h' ((x, ({ excNew C T with dict := some dx } : Obj)) :: rest) → Q () { s with heap := h', toks := tk' }) :
    wpAny (model prog w) A (setAttr (.ref x) name v) Q E s := by
  have X := X₀.keeps F.keep
  have hx := (N _ (.tail _ (.head _))).1
  have D2 := (N _ (.head _)).1
  have I : InstAt s.heap x ({ excNew C T with dict := some dx } : Obj) C (some (dictOf [⟨hs', .str nm' tk', v'⟩] 1)) := ⟨hx, rfl, rfl, D2⟩
  refine set_plain X I hs (exc_osa (s := { s with toks := s.toks + 1 }) X I hc hm ha ?_)
  refine wpAny_bind (wpAny_pure (wpAny_bind (wpAny_bind (wpAny_loadPart hx (wpAny_bind (looks_clsIn X hc _ _ _ _ (fun _ _ e => e) ?_))))))
  rw [hd]
  have hk : Value.isStr (.str nm' tk') name = false := hnn
  obtain ⟨F3, N3⟩ := news_upd (pre := []) (post := (x, ({ excNew C T with dict := some dx } : Obj)) :: rest) (o' := dictOf [⟨hs', .str nm' tk', v'⟩, ⟨PyData.keyHash w.params name, .str name (s.toks + 1), v⟩] 2) (f := Obj.putName name (PyData.keyHash w.params name) (.str name (s.toks + 1)) v) F N
    (fun p hp => nomatch hp) (fun p hp => by rcases List.mem_cons.mp hp with rfl | hp; exact Nat.ne_of_lt hlt; exact Nat.ne_of_lt (hne p hp)) (by rw [putName_dict]; simp [putL, putN, hk]) rfl
  have D3 := (N3 _ (.head _)).1
  refine wpAny_pure (a := some dx) (wpAny_bind (wpAny_pure (wpAny_bind ?_)))
  unfold nsSet
  refine wpAny_bind (wpAny_bind (wpAny_askSetting (wpAny_pure (wpAny_bind (wpAny_mkText (wpAny_bind (wpAny_loadPart D2 ?_)))))))
  dsimp only
  rw [aRefKeyMayBeTheName_at, if_neg (by simp [show DictEntry.refKey ⟨hs', .str nm' tk', v'⟩ = false from rfl])]
  refine wpAny_updatePart D2 ?_
  refine wpAny_bind (wpAny_lookBehind D3 (pastItsLine_dict (by rw [List.size_toArray, sizeLine_eq]; simp)) ?_)
  exact wpAny_pure (h _ _ F3 (fun p hp => N3 p (.tail _ hp)))
end
end

section
open PySem PySem.W PyProof.Rows
set_option Elab.async false
set_option maxRecDepth 100000
set_option maxHeartbeats 4000000
theorem meta_exc : typeOf (.type "Exception") = pure (.type "type") := by kernel_rfl
theorem u_f77init {w : World} {mean : ExcName → Option Value} {mg mb : Str → Option Value} {dp un : Nat} {gd : Option (List Code)} {cn : Str} {cs : Scope} {a : Addr} {ccd : Value} {cl : List (Str × Addr)} {outer : List Env} {A₀ : Around} {base h₀ : Heap} {L : Addr} {m : Str → Option Value} {rest : List (Addr × Obj)} {s : Shared} {Q E : Value → Shared → Prop} {x t : Addr} {y : Str} {t2 : Tok}
  (B : Below A₀ base outer h₀) (F : Fr h₀ L s.heap m) (X : (hd.heap_39 w.params).In h₀) (N : News h₀ L s.heap ((x, excNew 51 t) :: rest)) (T : Top hd.view_39 (looseW hd.view_39 []) mean mg mb h₀) (hk : cs.kind = .function) (hdp : dp + 3 < recursionLimit) (hun : un + 24 < cLine)
  (hx : ∀ p ∈ rest, p.1 ≠ x)
  (hret : ∀ T D tk h' tk', Fr h₀ L h' m → News h₀ L h' ((D, dictOf [⟨PyData.keyHash w.params "text", .str "text" tk, .str y t2⟩] 1) :: (x, ({ excNew 51 T with dict := some D } : Obj)) :: rest) → x < D → (∀ p ∈ rest, p.1 < D) → Q .none { s with heap := h', toks := tk' }) :
  wpAny (model Challenge.rw_no0228_01.row.prog w) (ktrTop dp un gd cn cs L a ccd cl outer) (call (.ref 28) [.ref x, .str y t2]) Q E s := by
  k_with_none
  (k_with "call builtin:Exception.__init__" => (k_here; k_dflt (refine' bexc_init ?k1 ?k2 ?k3 ?k4 ?k5 ?k6 ?_; (case k1 => k_asm); (case k2 => k_asm); (case k3 => k_asm); (case k4 => first | assumption | (intro p hp; exact Nat.ne_of_lt (by first | exact hx p hp))); (case k5 => k_is); (case k6 => decide); k_whole; intro T' h' F' N')))
  (k_with "setAttr ref" => (k_here; k_dflt (refine' exc_set1 ?k1 ?k2 ?k3 ?k4 ?k5 ?k6 ?k7 ?k8 ?k9 ?_; (case k1 => k_asm); (case k2 => k_asm); (case k3 => k_asm); (case k4 => assumption); (case k5 => k_is); (case k6 => k_is); (case k7 => rfl); (case k8 => rfl); (case k9 => k_is); k_whole; intro d' t' h' tk' F' N' l1 l2)))
  (k_with "getMethod type:Exception" => (k_here; refine' method_type ?F ?X ?m (by decide +kernel) ?e ?h ?_; (case F => k_asm); (case X => k_asm); (case m => exact meta_exc); (case e => k_dflt k_is); (case h => k_handed)))
  revert X; k_fill; intro X
  refine wpAny_call ?_
  k_dflt cell_enter
  k_steps
  all_goals (refine' hret _ _ _ _ _ ?eF ?eN ?e1 ?e2; (case eF => k_asm); (case eN => k_asm); (case e1 => assumption); (case e2 => assumption))
theorem units_under_tc (A : Around) (x : Args) : (A.under (.builtin "type.__call__" x)).units = A.units + 1 := by
  k_with_none
  (k_with "call builtin:Exception.__init__" => (k_here; k_dflt (refine' bexc_init ?k1 ?k2 ?k3 ?k4 ?k5 ?k6 ?_; (case k1 => k_asm); (case k2 => k_asm); (case k3 => k_asm); (case k4 => first | assumption | (intro p hp; exact Nat.ne_of_lt (by first | exact hx p hp))); (case k5 => k_is); (case k6 => decide); k_whole; intro T' h' F' N')))
  (k_with "setAttr ref" => (k_here; k_dflt (refine' exc_set1 ?k1 ?k2 ?k3 ?k4 ?k5 ?k6 ?k7 ?k8 ?k9 ?_; (case k1 => k_asm); (case k2 => k_asm); (case k3 => k_asm); (case k4 => assumption); (case k5 => k_is); (case k6 => k_is); (case k7 => rfl); (case k8 => rfl); (case k9 => k_is); k_whole; intro d' t' h' tk' F' N' l1 l2)))
  (k_with "getMethod type:Exception" => (k_here; refine' method_type ?F ?X ?m (by decide +kernel) ?e ?h ?_; (case F => k_asm); (case X => k_asm); (case m => exact meta_exc); (case e => k_dflt k_is); (case h => k_handed)))
  have e : (Code.builtin "type.__call__" x).cUnits = 1 := by kernel_rfl
  exact congrArg (A.units + ·) e
theorem u_fault {w : World} {mean : ExcName → Option Value} {mg mb : Str → Option Value} {dp un : Nat} {gd : Option (List Code)} {cn : Str} {cs : Scope} {a : Addr} {ccd : Value} {cl : List (Str × Addr)} {outer : List Env} {A₀ : Around} {base h₀ : Heap} {L : Addr} {m : Str → Option Value} {news : List (Addr × Obj)} {s : Shared} {Q E : Value → Shared → Prop} {i : Int} {t1 : Tok} {y : Str} {t2 : Tok}
  (B : Below A₀ base outer h₀) (F : Fr h₀ L s.heap m) (X : (hd.heap_39 w.params).In h₀) (N : News h₀ L s.heap news) (T : Top hd.view_39 (looseW hd.view_39 []) mean mg mb h₀) (hk : cs.kind = .function) (hdp : dp + 5 < recursionLimit) (hun : un + 40 < cLine)
  (hret : ∀ e T D h' tk', Fr h₀ L h' m → News h₀ L h' ((e, ({ excNew 51 T with dict := some D } : Obj)) :: news) → (∀ p ∈ news, p.1 < e) → Q (.ref e) { s with heap := h', toks := tk' }) :
  wpAny (model Challenge.rw_no0228_01.row.prog w) (ktrTop dp un gd cn cs L a ccd cl outer) (call (.ref 51) [.int i t1, .str y t2]) Q E s := by
  k_with_none
  (k_with "call builtin:Exception.__init__" => (k_here; k_dflt (refine' bexc_init ?k1 ?k2 ?k3 ?k4 ?k5 ?k6 ?_; (case k1 => k_asm); (case k2 => k_asm); (case k3 => k_asm); (case k4 => first | assumption | (intro p hp; exact Nat.ne_of_lt (by first | exact hx p hp))); (case k5 => k_is); (case k6 => decide); k_whole; intro T' h' F' N')))
  (k_with "setAttr ref" => (k_here; k_dflt (refine' exc_set1 ?k1 ?k2 ?k3 ?k4 ?k5 ?k6 ?k7 ?k8 ?k9 ?_; (case k1 => k_asm); (case k2 => k_asm); (case k3 => k_asm); (case k4 => assumption); (case k5 => k_is); (case k6 => k_is); (case k7 => rfl); (case k8 => rfl); (case k9 => k_is); k_whole; intro d' t' h' tk' F' N' l1 l2)))
  (k_with "getMethod type:Exception" => (k_here; refine' method_type ?F ?X ?m (by decide +kernel) ?e ?h ?_; (case F => k_asm); (case X => k_asm); (case m => exact meta_exc); (case e => k_dflt k_is); (case h => k_handed)))
  (k_with "call ref" => (k_here; (with_reducible show wpAny _ _ (call (Value.ref 28) [Value.ref _, Value.str _ _]) _ _ _); k_dflt (refine' u_f77init ?k1 ?k2 ?k3 ?k4 ?k5 ?kK ?kd ?ku ?p0 ?_; (case k1 => k_asm); (case k2 => k_asm); (case k3 => k_asm); (case k4 => k_asm); (case k5 => k_asm); (case kK => exact rfl); (case kd => ktr_room); (case ku => (have hcL9 := cLine_is; (simp only [units_under_tc, units_deeper] at *); (try dsimp only [ktrTop] at *); omega)); (case p0 => assumption); k_whole; intro T' D' tk' h' tk2' F' N' l1 l2)))
  (k_with "setAttr ref" => (k_here; k_dflt (refine' exc_set2 ?k1 ?k2 ?k3 ?j1 ?j2 ?j3 ?k5 ?k6 ?k7 ?k8 ?k9 ?_; (case k1 => k_asm); (case k2 => k_asm); (case k3 => k_asm); (case j1 => assumption); (case j2 => assumption); (case j3 => decide); (case k5 => k_is); (case k6 => k_is); (case k7 => rfl); (case k8 => rfl); (case k9 => k_is); k_whole; intro h' tk' F' N')))
  revert X; k_fill; intro X
  refine call_exc F X N (by k_is) (by decide) (by decide) (by decide) (by simp) (by k_is) (by k_is) ?_
  intro x' t' h' F' N' l1 l2
  have l3 : ∀ p ∈ (t', tupO [.int i t1, .str y t2]) :: news, p.1 ≠ x' := by
    intro p hp; rcases List.mem_cons.mp hp with rfl | hp
    · exact Nat.ne_of_lt l2
    · exact Nat.ne_of_lt (Nat.lt_trans (l1 p hp) l2)
  have l4 : ∀ p ∈ news, p.1 < x' := fun p hp => Nat.lt_trans (l1 p hp) l2
  k_dflt cell_enter
  k_steps
  all_goals (refine' hret _ _ _ _ _ ?eF ?eN ?e1; (case eF => k_asm); (case eN => exact cb_drop (by assumption) (fun _ hp => by rcases List.mem_cons.mp hp with rfl | hp; exact .head _; exact .tail _ (.tail _ hp))); (case e1 => assumption))
/- the raise statement over an exception object that a call has made -/
def RaiseOK (C : Addr) (E : Value → Shared → Prop) (v : Value) (s : Shared) : Prop :=
  ∃ e T D, v = .ref e ∧ s.heap.get? e = some ({ excNew C T with dict := some D } : Obj) ∧
    (∃ nm q N' bs bm hdct sn sub ab col dd k0 k1 k2 k3 k5 newId, s.heap.get? C = some (excClassObj nm q C N' bs bm hdct sn sub ab col dd k0 k1 k2 k3 k5 newId) ∧ bm.contains (.type "BaseException") = true) ∧ E (.ref e) s
theorem raise_exc {M : Model} {A : Around} {E : Value → Shared → Prop} {s : Shared} {env : Env} {C : Addr} {x : Expr} {pos : Pos} {Q : Flow → Shared → Prop} (hh : A.handled = none)
    (h : wpAny M A (eval x env) (RaiseOK C E) E s) : wpAny M A (exec (.Raise (some x) none pos) env) Q E s := by
  k_with_none
  (k_with "call builtin:Exception.__init__" => (k_here; k_dflt (refine' bexc_init ?k1 ?k2 ?k3 ?k4 ?k5 ?k6 ?_; (case k1 => k_asm); (case k2 => k_asm); (case k3 => k_asm); (case k4 => first | assumption | (intro p hp; exact Nat.ne_of_lt (by first | exact hx p hp))); (case k5 => k_is); (case k6 => decide); k_whole; intro T' h' F' N')))
  (k_with "setAttr ref" => (k_here; k_dflt (refine' exc_set1 ?k1 ?k2 ?k3 ?k4 ?k5 ?k6 ?k7 ?k8 ?k9 ?_; (case k1 => k_asm); (case k2 => k_asm); (case k3 => k_asm); (case k4 => assumption); (case k5 => k_is); (case k6 => k_is); (case k7 => rfl); (case k8 => rfl); (case k9 => k_is); k_whole; intro d' t' h' tk' F' N' l1 l2)))
  (k_with "getMethod type:Exception" => (k_here; refine' method_type ?F ?X ?m (by decide +kernel) ?e ?h ?_; (case F => k_asm); (case X => k_asm); (case m => exact meta_exc); (case e => k_dflt k_is); (case h => k_handed)))
  (k_with "call ref" => (k_here; (with_reducible show wpAny _ _ (call (Value.ref 28) [Value.ref _, Value.str _ _]) _ _ _); k_dflt (refine' u_f77init ?k1 ?k2 ?k3 ?k4 ?k5 ?kK ?kd ?ku ?p0 ?_; (case k1 => k_asm); (case k2 => k_asm); (case k3 => k_asm); (case k4 => k_asm); (case k5 => k_asm); (case kK => exact rfl); (case kd => ktr_room); (case ku => (have hcL9 := cLine_is; (simp only [units_under_tc, units_deeper] at *); (try dsimp only [ktrTop] at *); omega)); (case p0 => assumption); k_whole; intro T' D' tk' h' tk2' F' N' l1 l2)))
  (k_with "setAttr ref" => (k_here; k_dflt (refine' exc_set2 ?k1 ?k2 ?k3 ?j1 ?j2 ?j3 ?k5 ?k6 ?k7 ?k8 ?k9 ?_; (case k1 => k_asm); (case k2 => k_asm); (case k3 => k_asm); (case j1 => assumption); (case j2 => assumption); (case j3 => decide); (case k5 => k_is); (case k6 => k_is); (case k7 => rfl); (case k8 => rfl); (case k9 => k_is); k_whole; intro h' tk' F' N')))
  rw [arm_exec_Raise]
  refine wpAny_bind (wpAny_standAt ?_)
  unfold raiseStmt
  refine wpAny_bind (wpAny_bind (wpAny_mono h (fun v s₁ h₁ => ?_) fun _ _ x => x))
  refine wpAny_bind (wpAny_standAt (wpAny_pure ?_))
  obtain ⟨e, T, D, rfl, he, ⟨nm, q, N', bs, bm, hdct, sn, sub, ab, col, dd, k0, k1, k2, k3, k5, newId, hC, hB⟩, hE⟩ := h₁
  have hcB : (Value.ref C :: bm).contains (.type "BaseException") = true := by rw [List.contains_cons, hB, Bool.or_true]
  obtain ⟨hp, g, d, tk, os⟩ := s₁
  repeat (first | with_reducible refine wpAny_loadPart_at he ?_ | with_reducible refine wpAny_loadPart_at hC ?_ | (with_reducible refine wpAny_isSubtype_exc hC ?_; rw [hcB]) | wp_step)
  exact wpAny_raiseNew_none hh hE
end

section
open PySem PySem.W PyProof.Rows
set_option Elab.async false
set_option maxRecDepth 100000
set_option maxHeartbeats 4000000
theorem leave_exc {M : Model} {A : Around} {E : Value → Shared → Prop} {s' : Shared} {base g : Heap} {outer : List Env} {L a e : Addr} {m : Str → Option Value} {name : Str} {scope : Scope} {cd a0 : Value} {Q : Unit → Shared → Prop} {news : List (Addr × Obj)} {oe : Obj} {vs : Array Value}
    (K : Below A base outer g) (F : Fr g L s'.heap m) (N : News g L s'.heap ((e, oe) :: news)) (hne : ∀ p ∈ news, p.1 < e) (hd : oe.data = .fields vs) (h1 : vs[1]? = some .none) (h0 : vs[0]? = some a0)
    (hQ : ∀ h', RaisedSN base g outer e oe.cls news h' → g.UpToSlots h' → Q () { s' with heap := h' }) (hk : scope.kind = .function) :
    wpAny M (A.deeper (envOf name scope L a cd)) (leaving (envOf name scope L a cd) (.ref e)) Q E s' := by
  have K' := K.push (name := name) (a := a) (cd := cd) F hk
  have hin : ∀ env ∈ (envOf name scope L a cd :: outer), ∀ b, env.frame = some b → b ∈ e :: (envOf name scope L a cd :: outer).filterMap (·.frame) := fun env he b hb => .tail _ (List.mem_filterMap.mpr ⟨env, he, hb⟩)
  have ge : g.get? e = none := (N _ (.head _)).2.2
  have be : base.get? e = none := fresh_of_stays K.stays ge
  have st : base.StaysIn (hideAll s'.heap (e :: (envOf name scope L a cd :: outer).filterMap (·.frame))) := fun b o q => hideAll_get _ (K'.stays b o q) fun hm => by
    rcases List.mem_cons.mp hm with rfl | hm
    · rw [be] at q; cases q
    · rw [(K'.frames.mem hm).1] at q; cases q
  have sg : ∀ b o, g.get? b = some o → b ∉ outer.filterMap (·.frame) → (hideAll s'.heap (e :: (envOf name scope L a cd :: outer).filterMap (·.frame))).get? b = some o := fun b o q nm => hideAll_get _ (F.keep b o q) fun hm => by
    rcases List.mem_cons.mp hm with rfl | hm
    · rw [ge] at q; cases q
    · rcases kts_mem hm with z | z
      · rw [z, kts_self F] at q
        cases q
      · exact nm z
  have hl : ∀ q ∈ news, (hideAll s'.heap (e :: (envOf name scope L a cd :: outer).filterMap (·.frame))).get? q.1 = some q.2 ∧ g.get? q.1 = none ∧ base.get? q.1 = none := fun q hq => by
    have Nq := N q (.tail _ hq)
    refine ⟨hideAll_get _ Nq.1 fun hm => ?_, Nq.2.2, fresh_of_stays K.stays Nq.2.2⟩
    rcases List.mem_cons.mp hm with z | hm
    · exact absurd z (Nat.ne_of_lt (hne q hq))
    · obtain ⟨env, he, hf⟩ := List.mem_filterMap.mp hm
      rcases List.mem_cons.mp he with rfl | he
      · exact Nq.2.1 (Option.some.inj hf).symm
      · obtain ⟨o, ho, _⟩ := (K.frames.mem (List.mem_filterMap.mpr ⟨env, he, hf⟩)).2
        rw [Nq.2.2] at ho; cases ho
  have hen : (hideAll s'.heap (e :: (envOf name scope L a cd :: outer).filterMap (·.frame))).get? e = none := hideAll_none _ (.head _)
  refine wpAny_leaving_firstW (a0 := a0) K'.stack (funFrames_hide K'.frames hin) rfl (N _ (.head _)).1 (fun b o hb => of_hideAll _ hb) hen hd h1 h0 fun h' hL => ?_
  obtain ⟨k1, ⟨_, _, k2⟩, k3, k4⟩ := hL
  exact hQ h' ⟨_, a0, st, sg, hl, k1, hen, k2, k3⟩ ((Heap.UpToSlots.of_keeps F.keep).trans k4)
theorem raise_ok {K : Frag} {C e T D L : Addr} {E : Value → Shared → Prop} {s : Shared} {g : Heap} {m : Str → Option Value} {news : List (Addr × Obj)} {nm q : Str} {N' : Addr} {bs bm : List Value} {hdct : Bool} {sn : List Str} {sub : List Value} {ab : Bool} {col : Option Bool} {dd : Option Addr} {k0 k1 k2 k3 k5 : Option Value} {newId : String}
    (X : K.In g) (F : Fr g L s.heap m) (N : News g L s.heap ((e, ({ excNew C T with dict := some D } : Obj)) :: news)) (hC : K.lookup C = some (excClassObj nm q C N' bs bm hdct sn sub ab col dd k0 k1 k2 k3 k5 newId)) (hB : bm.contains (.type "BaseException") = true)
    (hE : E (.ref e) s) : RaiseOK C E (.ref e) s :=
  ⟨e, T, D, rfl, (N _ (.head _)).1, ⟨nm, q, N', bs, bm, hdct, sn, sub, ab, col, dd, k0, k1, k2, k3, k5, newId, (X.keeps F.keep) _ _ hC, hB⟩, hE⟩
end

section
open PySem PySem.W PyProof.Rows
set_option Elab.async false
set_option maxRecDepth 100000
set_option maxHeartbeats 8000000
theorem u_exp_raise {w : World} {mean : ExcName → Option Value} {mg mb : Str → Option Value} {dp un : Nat} {gd : Option (List Code)} {cn : Str} {cs : Scope} {a : Addr} {ccd : Value} {cl : List (Str × Addr)} {outer : List Env} {A₀ : Around} {base h₀ : Heap} {L : Addr} {m : Str → Option Value} {news : List (Addr × Obj)} {s : Shared} {Q E : Value → Shared → Prop}
  {l : Str} {t1 : Tok} {v : Addr} {wd : Int} {t2 : Tok} {pl : Int} {t3 : Tok} {sz : Value} {sc : Int} {t4 : Tok} {b : Bool}
  (B : Below A₀ base outer h₀) (F : Fr h₀ L s.heap m) (X : (hd.heap_39 w.params).In h₀) (N : News h₀ L s.heap news) (T : Top hd.view_39 (looseW hd.view_39 []) mean mg mb h₀) (hk : cs.kind = .function) (hdp : dp + 7 < recursionLimit) (hun : un + 56 < cLine)
  (p7 : 0 ≤ pl) (p8 : pl ≤ 20) (r1 : -20 ≤ sc) (r2 : sc ≤ 20) (hb : sc ≤ -pl ∨ pl + 1 < sc)
  (hraise : ∀ e G h' tk', Fr h₀ L G m → RaisedSN base G (envX cn cs L a ccd cl :: outer) e (.ref 51) news h' → G.UpToSlots h' → E (.ref e) { s with heap := h', toks := tk' }) :
  wpAny (model Challenge.rw_no0228_01.row.prog w) (ktrTop dp un gd cn cs L a ccd cl outer) (call (.ref 109) [.str l t1, .ref v, .int wd t2, .int pl t3, sz, .int sc t4, .bool b]) Q E s := by
  k_with_none
  (k_with "exec Raise some none" => (k_here; k_dflt (refine' raise_exc (C := 51) ?k1 ?_; (case k1 => exact rfl); k_whole)))
  (k_with "call ref" => (k_here; (with_reducible show wpAny _ _ (call (Value.ref 51) [Value.int _ _, Value.str _ _]) _ _ _); k_dflt (refine' u_fault ?k1 ?k2 ?k3 ?k4 ?k5 ?kK ?kd ?ku ?_; (case k1 => k_asm); (case k2 => k_asm); (case k3 => k_asm); (case k4 => k_asm); (case k5 => k_asm); (case kK => exact rfl); (case kd => ktr_room); (case ku => ktr_units); k_whole; intro e' T' D' h' tk' F' N' l1)))
  revert X; k_fill; intro X
  refine wpAny_call ?_
  k_dflt cell_enter
  k_steps
  all_goals (
    refine' raise_ok ?x ?f ?n ?c ?b ?e
    (case x => k_asm)
    (case f => k_asm)
    (case n => k_asm)
    (case c => k_is)
    (case b => decide)
    (case e =>
      (show wpAny _ _ (leaving _ _) _ _ _)
      refine' leave_exc ?B ?F ?N ?l ?d ?h1 ?h0 ?hQ ?hk
      (case B => k_asm)
      (case F => k_asm)
      (case N => k_asm)
      (case l => assumption)
      (case d => exact rfl)
      (case h1 => exact rfl)
      (case h0 => exact rfl)
      (case hk => exact rfl)
      (case hQ =>
        intro h'' R U
        refine' hraise _ _ _ _ ?G R U
        (case G => k_asm))))
end

section
open PySem PySem.W PyProof.Rows
set_option Elab.async false
set_option maxRecDepth 100000
set_option maxHeartbeats 8000000
theorem u_hx_no {w : World} {mean : ExcName → Option Value} {mg mb : Str → Option Value} {dp un : Nat} {gd : Option (List Code)} {cn : Str} {cs : Scope} {a : Addr} {ccd : Value} {A₀ : Around} {h₀ : Heap} {L : Addr} {m : Str → Option Value} {news : List (Addr × Obj)} {s : Shared} {Q E : Value → Shared → Prop} {l : Str} {t1 : Tok} {v : Addr} {i : Int} {u1 : Tok} {j : Int} {u2 : Tok} {wd : Int} {t2 : Tok} {pl : Int} {t3 : Tok} {sz : Value} {sc : Int} {t4 : Tok} {b : Bool}
  (B : Below A₀ h₀ [] h₀) (F : Fr h₀ L s.heap m) (X : (hd.heap_39 w.params).In h₀) (N : News h₀ L s.heap (news)) (T : Top hd.view_39 (looseW hd.view_39 []) mean mg mb h₀) (hk : cs.kind = .function) (hdp : dp + 11 < recursionLimit) (hun : un + 88 < cLine)
  (hv : (v, ({ cls := .type "tuple", data := .seq #[.int i u1, .int j u2] } : Obj)) ∈ news) (q1 : -(10 ^ 10) < i) (q2 : i < 10 ^ 10) (q3 : -40 ≤ j) (q4 : j ≤ 40) (p1 : l.length = 1) (hG : l ≠ Str.ofString "G") (p5 : 0 ≤ wd) (p6 : wd ≤ 100) (p7 : 0 ≤ pl) (p8 : pl ≤ 20) (s1 : -20 ≤ sc) (s2 : sc ≤ 20) (hb : sc ≤ -pl ∨ pl + 1 < sc)
  (hret : ∀  (t : Tok) (h' : Heap) (tk' : Nat),  Fr h₀ L h' m → News h₀ L h' (news) →  Q (.none) { s with heap := h', toks := tk' }) :
  wpAny (model Challenge.rw_no0228_01.row.prog w) (ktrTop dp un gd cn cs L a ccd [] []) (call (.ref 207) [.str l t1, .ref v, .int wd t2, .int pl t3, sz, .int sc t4, .bool b]) Q E s := by
  k_with_none
  k_with_none
  (k_with "storeName" => (k_here; k_dflt (refine' store_let ?zsF ?zsN ?_ ?zsa ?zsb; (case zsF => k_asm); (case zsN => k_asm); (case zsa => first | rfl | assumption); (case zsb => rfl)); k_whole; intro m' h' F' N'; (try k_sweep)))
  (k_with "spliced" => (k_here; first | (with_reducible refine' args_n7 ?zaF ?za1 ?za2 ?za3 ?za4 ?za5 ?za6 ?za7 ?_ ?zak ?zax; (case zaF => k_dflt k_asm); (case za1 => with_unfolding_all rfl); (case za2 => with_unfolding_all rfl); (case za3 => with_unfolding_all rfl); (case za4 => with_unfolding_all rfl); (case za5 => with_unfolding_all rfl); (case za6 => with_unfolding_all rfl); (case za7 => with_unfolding_all rfl); (case zak => first | exact rfl | assumption); (case zax => with_unfolding_all rfl)) | (with_reducible refine' args_n6 ?zaF ?za1 ?za2 ?za3 ?za4 ?za5 ?za6 ?_ ?zak ?zax; (case zaF => k_dflt k_asm); (case za1 => with_unfolding_all rfl); (case za2 => with_unfolding_all rfl); (case za3 => with_unfolding_all rfl); (case za4 => with_unfolding_all rfl); (case za5 => with_unfolding_all rfl); (case za6 => with_unfolding_all rfl); (case zak => first | exact rfl | assumption); (case zax => with_unfolding_all rfl)) | (with_reducible refine' args_n5 ?zaF ?za1 ?za2 ?za3 ?za4 ?za5 ?_ ?zak ?zax; (case zaF => k_dflt k_asm); (case za1 => with_unfolding_all rfl); (case za2 => with_unfolding_all rfl); (case za3 => with_unfolding_all rfl); (case za4 => with_unfolding_all rfl); (case za5 => with_unfolding_all rfl); (case zak => first | exact rfl | assumption); (case zax => with_unfolding_all rfl)) | (with_reducible refine' args_n4 ?zaF ?za1 ?za2 ?za3 ?za4 ?_ ?zak ?zax; (case zaF => k_dflt k_asm); (case za1 => with_unfolding_all rfl); (case za2 => with_unfolding_all rfl); (case za3 => with_unfolding_all rfl); (case za4 => with_unfolding_all rfl); (case zak => first | exact rfl | assumption); (case zax => with_unfolding_all rfl)) | (with_reducible refine' args_n3 ?zaF ?za1 ?za2 ?za3 ?_ ?zak ?zax; (case zaF => k_dflt k_asm); (case za1 => with_unfolding_all rfl); (case za2 => with_unfolding_all rfl); (case za3 => with_unfolding_all rfl); (case zak => first | exact rfl | assumption); (case zax => with_unfolding_all rfl)) | (with_reducible refine' args_n2 ?zaF ?za1 ?za2 ?_ ?zak ?zax; (case zaF => k_dflt k_asm); (case za1 => with_unfolding_all rfl); (case za2 => with_unfolding_all rfl); (case zak => first | exact rfl | assumption); (case zax => with_unfolding_all rfl))))
  (k_with "compareOp Eq str str" => (k_here; k_dflt (refine' eq_diff ?k1 ?_; (case k1 => with_reducible assumption)); walk_say "DIFF"))
  (k_with "call ref" => (k_here; (with_reducible show wpAny _ _ (call (Value.ref 109) [Value.str _ _, Value.ref _, Value.int _ _, Value.int _ _, _, Value.int _ _, Value.bool _]) _ _ _); k_dflt (refine' u_exp_raise ?k1 ?k2 ?k3 ?k4 ?k5 ?kK ?kd ?ku ?p0 ?p1 ?p2 ?p3 ?p4 ?_); (case k1 => k_asm); (case k2 => k_asm); (case k3 => k_asm); (case k4 => k_asm); (case k5 => k_asm); (case kK => first | exact rfl | assumption); (case kd => ktr_room); (case ku => ktr_units); (case p0 => omega); (case p1 => omega); (case p2 => omega); (case p3 => omega); (case p4 => omega); k_whole; intro e' G' h' tk' FG' S' U'; (have R' := RaisedSN.toN S'); (try dsimp only at S' R' U' ⊢); walk_say "RAISED"))
  revert X; k_fill; intro X
  obtain ⟨z0, z1, z2, z3, z4, z5⟩ := lens
  refine wpAny_call ?_
  k_dflt (refine' code_defS0 ?k1 ?k2 ?k3 ?k4 ?k5 ?kA ?k6 ?k7 ?k8 ?k9 ?kB ?_ ?cK ?c2 ?c3 ?c4 ?c5; (case kA => exact rfl); (case k2 => k_asm); (case k1 => k_asm); (case k3 => k_asm); (case k4 => k_asm); (case k5 => k_asm); (case k6 => k_is); (case k7 => k_is); (case k8 => ktr_room); (case k9 => first | exact binds_K (by k_in) rfl (by k_is) rfl rfl rfl | exact BindsTo.of_eq rfl); (case kB => exact locs rfl); (case cK => assumption); (case c2 => exact rfl); (case c3 => exact rfl); (case c4 => exact rfl); (case c5 => decide); k_whole; intro g' L' h' FG' F' N' B' X' T' D'; (try dsimp only); (try k_lift B'); (try k_fold))
  (rename Fr _ _ _ _ => zF0); (refine fr_let zF0 ?_); clear zF0; intro m' zF1
  (refine env_let ?_); intro env' A'
  k_steps
  all_goals (refine cb_retN (P := True) (Q := Q) (fun t h' tk' _ F N => hret t h' tk' F N) trivial ?eF ?eN; (case eF => k_asm); (case eN => k_asm))
end

section
open PySem PySem.W PyProof.Rows
set_option Elab.async false
set_option maxRecDepth 100000
set_option maxHeartbeats 8000000
theorem u_hx {w : World} {mean : ExcName → Option Value} {mg mb : Str → Option Value} {dp un : Nat} {gd : Option (List Code)} {cn : Str} {cs : Scope} {a : Addr} {ccd : Value} {A₀ : Around} {h₀ : Heap} {L : Addr} {m : Str → Option Value} {news : List (Addr × Obj)} {s : Shared} {Q E : Value → Shared → Prop} {l : Str} {t1 : Tok} {v : Addr} {i : Int} {u1 : Tok} {j : Int} {u2 : Tok} {wd : Int} {t2 : Tok} {pl : Int} {t3 : Tok} {sz : Value} {o : Option Int} {sc : Int} {t4 : Tok} {b : Bool}
  (B : Below A₀ h₀ [] h₀) (F : Fr h₀ L s.heap m) (X : (hd.heap_39 w.params).In h₀) (N : News h₀ L s.heap (news)) (T : Top hd.view_39 (looseW hd.view_39 []) mean mg mb h₀) (hk : cs.kind = .function) (hdp : dp + 11 < recursionLimit) (hun : un + 88 < cLine)
  (hv : (v, ({ cls := .type "tuple", data := .seq #[.int i u1, .int j u2] } : Obj)) ∈ news) (q1 : -(10 ^ 10) < i) (q2 : i < 10 ^ 10) (q3 : -40 ≤ j) (q4 : j ≤ 40) (p1 : l.length = 1) (hG : l ≠ Str.ofString "G") (p5 : 0 ≤ wd) (p6 : wd ≤ 100) (p7 : 0 ≤ pl) (p8 : pl ≤ 20) (s1 : -20 ≤ sc) (s2 : sc ≤ 20) (hz : SzIs sz o)
  (hret : ∀ (x : Value) (h' : Heap) (tk' : Nat), ExpIs l i j wd pl o sc b x → Fr h₀ L h' m → News h₀ L h' (news) → Q x { s with heap := h', toks := tk' }) :
  wpAny (model Challenge.rw_no0228_01.row.prog w) (ktrTop dp un gd cn cs L a ccd [] []) (call (.ref 207) [.str l t1, .ref v, .int wd t2, .int pl t3, sz, .int sc t4, .bool b]) Q E s := by
  k_with_none
  by_cases hr : -pl < sc ∧ sc ≤ pl + 1
  · exact u_hx_in B F X N T hk (Nat.lt_of_le_of_lt (by omega) hdp) (Nat.lt_of_le_of_lt (by omega) hun) hv q1 q2 q3 q4 p1 hG p5 p6 p7 p8 hr.1 hr.2 hz (fun t h' tk' F' N' => hret _ h' tk' (.inl ⟨hr.1, hr.2, t, rfl⟩) F' N')
  · have hb : sc ≤ -pl ∨ pl + 1 < sc := by omega
    exact u_hx_no B F X N T hk (Nat.lt_of_le_of_lt (by omega) hdp) (Nat.lt_of_le_of_lt (by omega) hun) hv q1 q2 q3 q4 p1 hG p5 p6 p7 p8 s1 s2 hb (fun t h' tk' F' N' => hret _ h' tk' (.inr ⟨hb, rfl⟩) F' N')
end

section
open PySem PySem.W PyProof.Rows
set_option Elab.async false
set_option maxRecDepth 100000
set_option maxHeartbeats 8000000
theorem u_whx {w : World} {mean : ExcName → Option Value} {mg mb : Str → Option Value} {dp un : Nat} {gd : Option (List Code)} {cn : Str} {cs : Scope} {a : Addr} {ccd : Value} {A₀ : Around} {h₀ : Heap} {L : Addr} {m : Str → Option Value} {news : List (Addr × Obj)} {s : Shared} {Q E : Value → Shared → Prop} {l : Str} {t1 : Tok} {v : Addr} {i : Int} {u1 : Tok} {j : Int} {u2 : Tok} {vw : Int} {t2 : Tok} {pl : Int} {t3 : Tok} {sz : Value} {o : Option Int} {vs : Int} {t4 : Tok} {b : Bool}
  (B : Below A₀ h₀ [] h₀) (F : Fr h₀ L s.heap m) (X : (hd.heap_39 w.params).In h₀) (N : News h₀ L s.heap (news)) (T : Top hd.view_39 (looseW hd.view_39 []) mean mg mb h₀) (hk : cs.kind = .function) (hdp : dp + 11 < recursionLimit) (hun : un + 88 < cLine)
  (hv : (v, ({ cls := .type "tuple", data := .seq #[.int i u1, .int j u2] } : Obj)) ∈ news) (e0 : -(10 ^ 10) < i) (e1 : i < 10 ^ 10) (d0 : -14 ≤ j) (d1 : j ≤ 14) (a0 : 0 ≤ vw) (a1 : vw < 24) (b0 : 0 ≤ pl) (b1 : pl < 10) (c0 : 0 ≤ vs) (c1 : vs < 25) (p1 : l.length = 1) (hG : l ≠ Str.ofString "G") (hz : SzIs sz o)
  (hret : ∀ (x : Value) (h' : Heap) (tk' : Nat), ExpIs l i j (1 + vw) pl o (vs - 12) b x → Fr h₀ L h' m → News h₀ L h' (news) → Q x { s with heap := h', toks := tk' }) :
  wpAny (model Challenge.rw_no0228_01.row.prog w) (ktrTop dp un gd cn cs L a ccd [] []) (call (.ref 207) [.str l t1, .ref v, .int (1 + vw) t2, .int pl t3, sz, .int (vs - 12) t4, .bool b]) Q E s := by
  k_with_none
  exact u_hx B F X N T hk hdp hun hv e0 e1 (by omega) (by omega) p1 hG (by omega) (by omega) b0 (by omega) (by omega) (by omega) hz hret
end

section
open PySem PySem.W PyProof.Rows
set_option Elab.async false
set_option maxRecDepth 100000
set_option maxHeartbeats 8000000
theorem u_is_general_fixed {w : World} {mean : ExcName → Option Value} {mg mb : Str → Option Value} {dp un : Nat} {gd : Option (List Code)} {cn : Str} {cs : Scope} {a : Addr} {ccd : Value} {cl : List (Str × Addr)} {outer : List Env} {A₀ : Around} {base h₀ : Heap} {L : Addr} {m : Str → Option Value} {news : List (Addr × Obj)} {s : Shared} {Q E : Value → Shared → Prop} {v : Addr} {i : Int} {u1 : Tok} {j : Int} {u2 : Tok} {pl : Int} {t3 : Tok}
  (B : Below A₀ base outer h₀) (F : Fr h₀ L s.heap m) (X : (hd.heap_39 w.params).In h₀) (N : News h₀ L s.heap (news)) (T : Top hd.view_39 (looseW hd.view_39 []) mean mg mb h₀) (hk : cs.kind = .function) (hdp : dp + 2 < recursionLimit) (hun : un + 16 < cLine)
  (hv : (v, ({ cls := .type "tuple", data := .seq #[.int i u1, .int j u2] } : Obj)) ∈ news) (q1 : -(10 ^ 10) < i) (q2 : i < 10 ^ 10) (q3 : -40 ≤ j) (q4 : j ≤ 40) (p7 : 0 ≤ pl) (p8 : pl ≤ 20)
  (hret : ∀  (t : Tok) (h' : Heap) (tk' : Nat),  Fr h₀ L h' m → News h₀ L h' (news) →  Q (.bool (genfixV i j pl)) { s with heap := h', toks := tk' }) :
  wpAny (model Challenge.rw_no0228_01.row.prog w) (ktrTop dp un gd cn cs L a ccd cl outer) (call (.ref 116) [.ref v, .int pl t3]) Q E s := by
  k_with_none
  k_with_none
  (k_with "storeName" => (k_here; k_dflt (refine' store_let ?zsF ?zsN ?_ ?zsa ?zsb; (case zsF => k_asm); (case zsN => k_asm); (case zsa => first | rfl | assumption); (case zsb => rfl)); k_whole; intro m' h' F' N'; (try k_sweep)))
  (k_with "spliced" => (k_here; first | (with_reducible refine' args_n7 ?zaF ?za1 ?za2 ?za3 ?za4 ?za5 ?za6 ?za7 ?_ ?zak ?zax; (case zaF => k_dflt k_asm); (case za1 => with_unfolding_all rfl); (case za2 => with_unfolding_all rfl); (case za3 => with_unfolding_all rfl); (case za4 => with_unfolding_all rfl); (case za5 => with_unfolding_all rfl); (case za6 => with_unfolding_all rfl); (case za7 => with_unfolding_all rfl); (case zak => first | exact rfl | assumption); (case zax => with_unfolding_all rfl)) | (with_reducible refine' args_n6 ?zaF ?za1 ?za2 ?za3 ?za4 ?za5 ?za6 ?_ ?zak ?zax; (case zaF => k_dflt k_asm); (case za1 => with_unfolding_all rfl); (case za2 => with_unfolding_all rfl); (case za3 => with_unfolding_all rfl); (case za4 => with_unfolding_all rfl); (case za5 => with_unfolding_all rfl); (case za6 => with_unfolding_all rfl); (case zak => first | exact rfl | assumption); (case zax => with_unfolding_all rfl)) | (with_reducible refine' args_n5 ?zaF ?za1 ?za2 ?za3 ?za4 ?za5 ?_ ?zak ?zax; (case zaF => k_dflt k_asm); (case za1 => with_unfolding_all rfl); (case za2 => with_unfolding_all rfl); (case za3 => with_unfolding_all rfl); (case za4 => with_unfolding_all rfl); (case za5 => with_unfolding_all rfl); (case zak => first | exact rfl | assumption); (case zax => with_unfolding_all rfl)) | (with_reducible refine' args_n4 ?zaF ?za1 ?za2 ?za3 ?za4 ?_ ?zak ?zax; (case zaF => k_dflt k_asm); (case za1 => with_unfolding_all rfl); (case za2 => with_unfolding_all rfl); (case za3 => with_unfolding_all rfl); (case za4 => with_unfolding_all rfl); (case zak => first | exact rfl | assumption); (case zax => with_unfolding_all rfl)) | (with_reducible refine' args_n3 ?zaF ?za1 ?za2 ?za3 ?_ ?zak ?zax; (case zaF => k_dflt k_asm); (case za1 => with_unfolding_all rfl); (case za2 => with_unfolding_all rfl); (case za3 => with_unfolding_all rfl); (case zak => first | exact rfl | assumption); (case zax => with_unfolding_all rfl)) | (with_reducible refine' args_n2 ?zaF ?za1 ?za2 ?_ ?zak ?zax; (case zaF => k_dflt k_asm); (case za1 => with_unfolding_all rfl); (case za2 => with_unfolding_all rfl); (case zak => first | exact rfl | assumption); (case zax => with_unfolding_all rfl))))
  (k_with "call builtin:abs" => (k_here; (with_reducible refine abs_line ?_); intro _ _))
  revert X; k_fill; intro X
  obtain ⟨z0, z1, z2, z3, z4, z5⟩ := lens
  have ha0 := absV_nonneg i
  have ha1 := absV_lt q1 q2
  have hz := txt_len (k := 10) (by decide) ha0 ha1
  have hz1 := txt_pos ha0
  refine wpAny_call ?_
  k_dflt cell_enter
  (rename Fr _ _ _ _ => zF0); (refine fr_let zF0 ?_); clear zF0; intro m' zF1
  (refine env_let ?_); intro env' A'
  k_steps
  all_goals (
    first
    | (refine cb_retB (Q := Q) hret ?e0 ?eF ?eN; (case eF => k_asm); (case eN => first | k_asm | exact cb_drop (by assumption) (fun _ hp => .tail _ hp) | exact cb_drop (by assumption) (fun _ hp => .tail _ (.tail _ hp)) | exact cb_drop (by assumption) (fun _ hp => .tail _ (.tail _ (.tail _ hp)))); (case e0 => first | ((simp (disch := first | with_reducible assumption | (refine not_t ?_; with_reducible assumption)) only [genfixV, decide_eq_false_iff_not, if_pos, if_neg]); done) | ((simp (disch := first | with_reducible assumption | (refine not_t ?_; with_reducible assumption)) only [genfixV, decide_eq_false_iff_not, if_pos, if_neg]); rfl) | rfl | ((dsimp only [genfixV, decide_eq_false_iff_not]); (simp (disch := first | with_reducible assumption | (refine not_t ?_; with_reducible assumption)) only [if_pos, if_neg]); done)); skip))
end

section
open PySem PySem.W PyProof.Rows
set_option Elab.async false
set_option maxRecDepth 100000
set_option maxHeartbeats 8000000
theorem u_gen_t {w : World} {mean : ExcName → Option Value} {mg mb : Str → Option Value} {dp un : Nat} {gd : Option (List Code)} {cn : Str} {cs : Scope} {a : Addr} {ccd : Value} {cl : List (Str × Addr)} {outer : List Env} {A₀ : Around} {base h₀ : Heap} {L : Addr} {m : Str → Option Value} {news : List (Addr × Obj)} {s : Shared} {Q E : Value → Shared → Prop} {v : Addr} {i : Int} {u1 : Tok} {j : Int} {u2 : Tok} {pl : Int} {t3 : Tok}
  (B : Below A₀ base outer h₀) (F : Fr h₀ L s.heap m) (X : (hd.heap_39 w.params).In h₀) (N : News h₀ L s.heap (news)) (T : Top hd.view_39 (looseW hd.view_39 []) mean mg mb h₀) (hk : cs.kind = .function) (hdp : dp + 2 < recursionLimit) (hun : un + 16 < cLine)
  (hv : (v, ({ cls := .type "tuple", data := .seq #[.int i u1, .int j u2] } : Obj)) ∈ news) (q1 : -(10 ^ 10) < i) (q2 : i < 10 ^ 10) (q3 : -40 ≤ j) (q4 : j ≤ 40) (p7 : 0 ≤ pl) (p8 : pl ≤ 20) (hg : genfixV i j pl = true)
  (hret : ∀  (t : Tok) (h' : Heap) (tk' : Nat),  Fr h₀ L h' m → News h₀ L h' (news) →  Q (.bool true) { s with heap := h', toks := tk' }) :
  wpAny (model Challenge.rw_no0228_01.row.prog w) (ktrTop dp un gd cn cs L a ccd cl outer) (call (.ref 116) [.ref v, .int pl t3]) Q E s := by
  k_with_none
  exact u_is_general_fixed B F X N T hk hdp hun hv q1 q2 q3 q4 p7 p8 (fun t h' tk' F' N' => by rw [hg]; exact hret t h' tk' F' N')
end

section
open PySem PySem.W PyProof.Rows
set_option Elab.async false
set_option maxRecDepth 100000
set_option maxHeartbeats 8000000
theorem u_gfix {w : World} {mean : ExcName → Option Value} {mg mb : Str → Option Value} {dp un : Nat} {gd : Option (List Code)} {cn : Str} {cs : Scope} {a : Addr} {ccd : Value} {cl : List (Str × Addr)} {outer : List Env} {A₀ : Around} {base h₀ : Heap} {L : Addr} {m : Str → Option Value} {news : List (Addr × Obj)} {s : Shared} {Q E : Value → Shared → Prop} {v : Addr} {i : Int} {u1 : Tok} {j : Int} {u2 : Tok} {wd : Int} {t2 : Tok} {pl : Int} {t3 : Tok} {sz : Value} {o : Option Int} {sc : Int} {t4 : Tok} {b : Bool}
  (B : Below A₀ base outer h₀) (F : Fr h₀ L s.heap m) (X : (hd.heap_39 w.params).In h₀) (N : News h₀ L s.heap (news)) (T : Top hd.view_39 (looseW hd.view_39 []) mean mg mb h₀) (hk : cs.kind = .function) (hdp : dp + 8 < recursionLimit) (hun : un + 64 < cLine)
  (hv : (v, ({ cls := .type "tuple", data := .seq #[.int i u1, .int j u2] } : Obj)) ∈ news) (q1 : -(10 ^ 10) < i) (q2 : i < 10 ^ 10) (q3 : -40 ≤ j) (q4 : j ≤ 40) (p5 : 0 ≤ wd) (p6 : wd ≤ 100) (p7 : 0 ≤ pl) (p8 : pl ≤ 20) (hz : SzIs sz o) (hg : genfixV i j pl = true)
  (hret : ∀  (t : Tok) (h' : Heap) (tk' : Nat),  Fr h₀ L h' m → News h₀ L h' (news) →  Q (.str (gfixB (blanks o) i j wd pl b) t) { s with heap := h', toks := tk' }) :
  wpAny (model Challenge.rw_no0228_01.row.prog w) (ktrTop dp un gd cn cs L a ccd cl outer) (call (.ref 123) [.ref v, .int wd t2, .int pl t3, sz, .int sc t4, .bool b]) Q E s := by
  k_with_none
  k_with_none
  (k_with "storeName" => (k_here; k_dflt (refine' store_let ?zsF ?zsN ?_ ?zsa ?zsb; (case zsF => k_asm); (case zsN => k_asm); (case zsa => first | rfl | assumption); (case zsb => rfl)); k_whole; intro m' h' F' N'; (try k_sweep)))
  (k_with "spliced" => (k_here; first | (with_reducible refine' args_n7 ?zaF ?za1 ?za2 ?za3 ?za4 ?za5 ?za6 ?za7 ?_ ?zak ?zax; (case zaF => k_dflt k_asm); (case za1 => with_unfolding_all rfl); (case za2 => with_unfolding_all rfl); (case za3 => with_unfolding_all rfl); (case za4 => with_unfolding_all rfl); (case za5 => with_unfolding_all rfl); (case za6 => with_unfolding_all rfl); (case za7 => with_unfolding_all rfl); (case zak => first | exact rfl | assumption); (case zax => with_unfolding_all rfl)) | (with_reducible refine' args_n6 ?zaF ?za1 ?za2 ?za3 ?za4 ?za5 ?za6 ?_ ?zak ?zax; (case zaF => k_dflt k_asm); (case za1 => with_unfolding_all rfl); (case za2 => with_unfolding_all rfl); (case za3 => with_unfolding_all rfl); (case za4 => with_unfolding_all rfl); (case za5 => with_unfolding_all rfl); (case za6 => with_unfolding_all rfl); (case zak => first | exact rfl | assumption); (case zax => with_unfolding_all rfl)) | (with_reducible refine' args_n5 ?zaF ?za1 ?za2 ?za3 ?za4 ?za5 ?_ ?zak ?zax; (case zaF => k_dflt k_asm); (case za1 => with_unfolding_all rfl); (case za2 => with_unfolding_all rfl); (case za3 => with_unfolding_all rfl); (case za4 => with_unfolding_all rfl); (case za5 => with_unfolding_all rfl); (case zak => first | exact rfl | assumption); (case zax => with_unfolding_all rfl)) | (with_reducible refine' args_n4 ?zaF ?za1 ?za2 ?za3 ?za4 ?_ ?zak ?zax; (case zaF => k_dflt k_asm); (case za1 => with_unfolding_all rfl); (case za2 => with_unfolding_all rfl); (case za3 => with_unfolding_all rfl); (case za4 => with_unfolding_all rfl); (case zak => first | exact rfl | assumption); (case zax => with_unfolding_all rfl)) | (with_reducible refine' args_n3 ?zaF ?za1 ?za2 ?za3 ?_ ?zak ?zax; (case zaF => k_dflt k_asm); (case za1 => with_unfolding_all rfl); (case za2 => with_unfolding_all rfl); (case za3 => with_unfolding_all rfl); (case zak => first | exact rfl | assumption); (case zax => with_unfolding_all rfl)) | (with_reducible refine' args_n2 ?zaF ?za1 ?za2 ?_ ?zak ?zax; (case zaF => k_dflt k_asm); (case za1 => with_unfolding_all rfl); (case za2 => with_unfolding_all rfl); (case zak => first | exact rfl | assumption); (case zax => with_unfolding_all rfl))))
  (k_with "call ref" => (k_here; (with_reducible show wpAny _ _ (call (Value.ref 116) [Value.ref _, Value.int _ _]) _ _ _); k_dflt (refine' u_gen_t ?k1 ?k2 ?k3 ?k4 ?k5 ?kK ?kd ?ku ?p0 ?p1 ?p2 ?p3 ?p4 ?p5 ?p6 ?p7 ?_); (case k1 => k_asm); (case k2 => k_asm); (case k3 => k_asm); (case k4 => k_asm); (case k5 => k_asm); (case kK => first | exact rfl | assumption); (case kd => first | exact room hdp (by decide) | decide | ktr_room); (case ku => first | exact room hun (by decide) | decide | ktr_units); (case p0 => k_mem); (case p1 => first | assumption | omega | kt_fact); (case p2 => first | assumption | omega | kt_fact); (case p3 => first | assumption | omega | kt_fact); (case p4 => first | assumption | omega | kt_fact); (case p5 => first | assumption | omega | kt_fact); (case p6 => first | assumption | omega | kt_fact); (case p7 => with_reducible assumption); all_goals (intros; (try dsimp only); (try k_fold)); walk_say "CONTRACT gen_t"))
  (k_with "call ref" => (k_here; (with_reducible show wpAny _ _ (call (Value.ref 88) [Value.ref _, Value.int _ _, Value.int _ _, Value.int _ _, Value.bool _]) _ _ _); k_dflt (refine' u_edit_fixed ?k1 ?k2 ?k3 ?k4 ?k5 ?kK ?kd ?ku ?p0 ?p1 ?p2 ?p3 ?p4 ?p5 ?p6 ?p7 ?p8 ?p9 ?p10 ?_); (case k1 => k_asm); (case k2 => k_asm); (case k3 => k_asm); (case k4 => k_asm); (case k5 => k_asm); (case kK => first | exact rfl | assumption); (case kd => first | exact room hdp (by decide) | decide | ktr_room); (case ku => first | exact room hun (by decide) | decide | ktr_units); (case p0 => k_mem); (case p1 => first | assumption | omega | kt_fact); (case p2 => first | assumption | omega | kt_fact); (case p3 => first | assumption | omega | kt_fact); (case p4 => first | assumption | omega | kt_fact); (case p5 => first | assumption | omega | kt_fact); (case p6 => first | assumption | omega | kt_fact); (case p7 => first | assumption | omega | kt_fact); (case p8 => first | assumption | omega | kt_fact); (case p9 => first | assumption | omega | kt_fact); (case p10 => first | assumption | omega | kt_fact); all_goals (intros; (try dsimp only); (try k_fold)); walk_say "CONTRACT edit_fixed"))
  (k_with "call builtin:abs" => (k_here; (with_reducible refine abs_line ?_); intro _ _))
  (k_with "exec If" => (k_here; (fail_if_success (with_reducible show wpAny _ _ _ (JF _ _ _ _ _ _ _) _ _)); (with_reducible show wpAny _ _ (exec (Stmt.If _ [Stmt.Assign [PySem.Expr.Name (Str.ofString "blanks") _] _ _] [] _) _) _ _ _); k_dflt (refine' jf_cut (Value.int (blanks o)) (Str.ofString "blanks") ?jF ?jN ?_ ?_; (case jF => k_asm); (case jN => k_asm)); k_dflt (rcases hz with ⟨rfl, rfl⟩ | ⟨z, t, rfl, rfl, y1, y2⟩); rotate_left 2; intros; skip; (try dsimp only); (try k_fold); rotate_right 2; walk_say "JOIN blanks"))
  (k_with "exec If" => (k_here; (with_reducible show wpAny _ _ (exec (Stmt.If _ _ _ _) _) (JF _ _ _ _ _ _ _) _ _); refine wpAny_If ?_))
  (k_with "JF" => (first | (k_dflt (refine' jf_int1 ?jF ?jN ?jv; (case jF => k_asm); (case jN => k_asm); (case jv => first | exact rfl))) | (k_dflt (refine' jf_int0 ?jF ?jN ?jm ?jv; (case jF => k_asm); (case jN => k_asm); (case jm => with_unfolding_all rfl); (case jv => first | exact rfl)))))
  revert X; k_fill; intro X
  obtain ⟨z0, z1, z2, z3, z4, z5⟩ := lens
  obtain ⟨hb0, hb1⟩ := blanks_facts hz
  have hr2 := hret
  have ha0 := absV_nonneg i
  have ha1 := absV_lt q1 q2
  have hz2 := txt_len (k := 10) (by decide) ha0 ha1
  have hz1 := txt_pos ha0
  obtain ⟨g1, g2, g3⟩ := genfix_facts hg
  refine wpAny_call ?_
  k_dflt cell_enter
  (rename Fr _ _ _ _ => zF0); (refine fr_let zF0 ?_); clear zF0; intro m' zF1
  (refine env_let ?_); intro env' A'
  k_steps
  all_goals (
    first
    | (refine cb_retS (Q := Q) hr2 ?e0 ?eF ?eN; (case eF => k_asm); (case eN => first | k_asm | exact cb_drop (by assumption) (fun _ hp => .tail _ hp) | exact cb_drop (by assumption) (fun _ hp => .tail _ (.tail _ hp)) | exact cb_drop (by assumption) (fun _ hp => .tail _ (.tail _ (.tail _ hp)))); (case e0 => first | ((simp (disch := first | with_reducible assumption | (refine not_t ?_; with_reducible assumption)) only [gfixB, if_pos, if_neg]); done) | ((simp (disch := first | with_reducible assumption | (refine not_t ?_; with_reducible assumption)) only [gfixB, if_pos, if_neg]); rfl) | rfl | ((dsimp only [gfixB]); (simp (disch := first | with_reducible assumption | (refine not_t ?_; with_reducible assumption)) only [if_pos, if_neg]); done)); skip))
end

section
open PySem PySem.W PyProof.Rows
set_option Elab.async false
set_option maxRecDepth 100000
set_option maxHeartbeats 8000000
theorem u_hgf {w : World} {mean : ExcName → Option Value} {mg mb : Str → Option Value} {dp un : Nat} {gd : Option (List Code)} {cn : Str} {cs : Scope} {a : Addr} {ccd : Value} {cl : List (Str × Addr)} {outer : List Env} {A₀ : Around} {base h₀ : Heap} {L : Addr} {m : Str → Option Value} {news : List (Addr × Obj)} {s : Shared} {Q E : Value → Shared → Prop} {t1 : Tok} {v : Addr} {i : Int} {u1 : Tok} {j : Int} {u2 : Tok} {wd : Int} {t2 : Tok} {pl : Int} {t3 : Tok} {sz : Value} {o : Option Int} {sc : Int} {t4 : Tok} {b : Bool}
  (B : Below A₀ base outer h₀) (F : Fr h₀ L s.heap m) (X : (hd.heap_39 w.params).In h₀) (N : News h₀ L s.heap (news)) (T : Top hd.view_39 (looseW hd.view_39 []) mean mg mb h₀) (hk : cs.kind = .function) (hdp : dp + 9 < recursionLimit) (hun : un + 72 < cLine)
  (hv : (v, ({ cls := .type "tuple", data := .seq #[.int i u1, .int j u2] } : Obj)) ∈ news) (q1 : -(10 ^ 10) < i) (q2 : i < 10 ^ 10) (q3 : -40 ≤ j) (q4 : j ≤ 40) (p5 : 0 ≤ wd) (p6 : wd ≤ 100) (p7 : 0 ≤ pl) (p8 : pl ≤ 20) (hz : SzIs sz o) (hg : genfixV i j pl = true)
  (hret : ∀  (t : Tok) (h' : Heap) (tk' : Nat),  Fr h₀ L h' m → News h₀ L h' (news) →  Q (.str (gfixB (blanks o) i j wd pl b) t) { s with heap := h', toks := tk' }) :
  wpAny (model Challenge.rw_no0228_01.row.prog w) (ktrTop dp un gd cn cs L a ccd cl outer) (call (.ref 207) [.str (Str.ofString "G") t1, .ref v, .int wd t2, .int pl t3, sz, .int sc t4, .bool b]) Q E s := by
  k_with_none
  k_with_none
  (k_with "storeName" => (k_here; k_dflt (refine' store_let ?zsF ?zsN ?_ ?zsa ?zsb; (case zsF => k_asm); (case zsN => k_asm); (case zsa => first | rfl | assumption); (case zsb => rfl)); k_whole; intro m' h' F' N'; (try k_sweep)))
  (k_with "spliced" => (k_here; first | (with_reducible refine' args_n7 ?zaF ?za1 ?za2 ?za3 ?za4 ?za5 ?za6 ?za7 ?_ ?zak ?zax; (case zaF => k_dflt k_asm); (case za1 => with_unfolding_all rfl); (case za2 => with_unfolding_all rfl); (case za3 => with_unfolding_all rfl); (case za4 => with_unfolding_all rfl); (case za5 => with_unfolding_all rfl); (case za6 => with_unfolding_all rfl); (case za7 => with_unfolding_all rfl); (case zak => first | exact rfl | assumption); (case zax => with_unfolding_all rfl)) | (with_reducible refine' args_n6 ?zaF ?za1 ?za2 ?za3 ?za4 ?za5 ?za6 ?_ ?zak ?zax; (case zaF => k_dflt k_asm); (case za1 => with_unfolding_all rfl); (case za2 => with_unfolding_all rfl); (case za3 => with_unfolding_all rfl); (case za4 => with_unfolding_all rfl); (case za5 => with_unfolding_all rfl); (case za6 => with_unfolding_all rfl); (case zak => first | exact rfl | assumption); (case zax => with_unfolding_all rfl)) | (with_reducible refine' args_n5 ?zaF ?za1 ?za2 ?za3 ?za4 ?za5 ?_ ?zak ?zax; (case zaF => k_dflt k_asm); (case za1 => with_unfolding_all rfl); (case za2 => with_unfolding_all rfl); (case za3 => with_unfolding_all rfl); (case za4 => with_unfolding_all rfl); (case za5 => with_unfolding_all rfl); (case zak => first | exact rfl | assumption); (case zax => with_unfolding_all rfl)) | (with_reducible refine' args_n4 ?zaF ?za1 ?za2 ?za3 ?za4 ?_ ?zak ?zax; (case zaF => k_dflt k_asm); (case za1 => with_unfolding_all rfl); (case za2 => with_unfolding_all rfl); (case za3 => with_unfolding_all rfl); (case za4 => with_unfolding_all rfl); (case zak => first | exact rfl | assumption); (case zax => with_unfolding_all rfl)) | (with_reducible refine' args_n3 ?zaF ?za1 ?za2 ?za3 ?_ ?zak ?zax; (case zaF => k_dflt k_asm); (case za1 => with_unfolding_all rfl); (case za2 => with_unfolding_all rfl); (case za3 => with_unfolding_all rfl); (case zak => first | exact rfl | assumption); (case zax => with_unfolding_all rfl)) | (with_reducible refine' args_n2 ?zaF ?za1 ?za2 ?_ ?zak ?zax; (case zaF => k_dflt k_asm); (case za1 => with_unfolding_all rfl); (case za2 => with_unfolding_all rfl); (case zak => first | exact rfl | assumption); (case zax => with_unfolding_all rfl))))
  (k_with "call ref" => (k_here; (with_reducible show wpAny _ _ (call (Value.ref 123) [Value.ref _, Value.int _ _, Value.int _ _, _, Value.int _ _, Value.bool _]) _ _ _); k_dflt (refine' u_gfix ?k1 ?k2 ?k3 ?k4 ?k5 ?kK ?kd ?ku ?p0 ?p1 ?p2 ?p3 ?p4 ?p5 ?p6 ?p7 ?p8 ?p9 ?p10 ?_); (case k1 => k_asm); (case k2 => k_asm); (case k3 => k_asm); (case k4 => k_asm); (case k5 => k_asm); (case kK => first | exact rfl | assumption); (case kd => first | exact room hdp (by decide) | decide | ktr_room); (case ku => first | exact room hun (by decide) | decide | ktr_units); (case p0 => k_mem); (case p1 => first | assumption | omega | kt_fact); (case p2 => first | assumption | omega | kt_fact); (case p3 => first | assumption | omega | kt_fact); (case p4 => first | assumption | omega | kt_fact); (case p5 => first | assumption | omega | kt_fact); (case p6 => first | assumption | omega | kt_fact); (case p7 => first | assumption | omega | kt_fact); (case p8 => first | assumption | omega | kt_fact); (case p9 => first | exact szNone | with_reducible assumption); (case p10 => with_reducible assumption); all_goals (intros; (try dsimp only); (try k_fold)); walk_say "CONTRACT gfix"))
  revert X; k_fill; intro X
  obtain ⟨z0, z1, z2, z3, z4, z5⟩ := lens
  refine wpAny_call ?_
  k_dflt cell_enter
  (rename Fr _ _ _ _ => zF0); (refine fr_let zF0 ?_); clear zF0; intro m' zF1
  (refine env_let ?_); intro env' A'
  k_steps
  all_goals (
    first
    | (refine cb_retS (Q := Q) hret ?e0 ?eF ?eN; (case eF => k_asm); (case eN => first | k_asm | exact cb_drop (by assumption) (fun _ hp => .tail _ hp) | exact cb_drop (by assumption) (fun _ hp => .tail _ (.tail _ hp)) | exact cb_drop (by assumption) (fun _ hp => .tail _ (.tail _ (.tail _ hp)))); (case e0 => exact rfl); skip))
end

section
open PySem PySem.W PyProof.Rows
set_option Elab.async false
set_option maxRecDepth 100000
set_option maxHeartbeats 8000000
theorem u_gen_f {w : World} {mean : ExcName → Option Value} {mg mb : Str → Option Value} {dp un : Nat} {gd : Option (List Code)} {cn : Str} {cs : Scope} {a : Addr} {ccd : Value} {cl : List (Str × Addr)} {outer : List Env} {A₀ : Around} {base h₀ : Heap} {L : Addr} {m : Str → Option Value} {news : List (Addr × Obj)} {s : Shared} {Q E : Value → Shared → Prop} {v : Addr} {i : Int} {u1 : Tok} {j : Int} {u2 : Tok} {pl : Int} {t3 : Tok}
  (B : Below A₀ base outer h₀) (F : Fr h₀ L s.heap m) (X : (hd.heap_39 w.params).In h₀) (N : News h₀ L s.heap (news)) (T : Top hd.view_39 (looseW hd.view_39 []) mean mg mb h₀) (hk : cs.kind = .function) (hdp : dp + 2 < recursionLimit) (hun : un + 16 < cLine)
  (hv : (v, ({ cls := .type "tuple", data := .seq #[.int i u1, .int j u2] } : Obj)) ∈ news) (q1 : -(10 ^ 10) < i) (q2 : i < 10 ^ 10) (q3 : -40 ≤ j) (q4 : j ≤ 40) (p7 : 0 ≤ pl) (p8 : pl ≤ 20) (hg : genfixV i j pl = false)
  (hret : ∀  (t : Tok) (h' : Heap) (tk' : Nat),  Fr h₀ L h' m → News h₀ L h' (news) →  Q (.bool false) { s with heap := h', toks := tk' }) :
  wpAny (model Challenge.rw_no0228_01.row.prog w) (ktrTop dp un gd cn cs L a ccd cl outer) (call (.ref 116) [.ref v, .int pl t3]) Q E s := by
  k_with_none
  exact u_is_general_fixed B F X N T hk hdp hun hv q1 q2 q3 q4 p7 p8 (fun t h' tk' F' N' => by rw [hg]; exact hret t h' tk' F' N')
end

section
open PySem PySem.W PyProof.Rows
set_option Elab.async false
set_option maxRecDepth 100000
set_option maxHeartbeats 8000000
theorem u_gexp {w : World} {mean : ExcName → Option Value} {mg mb : Str → Option Value} {dp un : Nat} {gd : Option (List Code)} {cn : Str} {cs : Scope} {a : Addr} {ccd : Value} {cl : List (Str × Addr)} {outer : List Env} {A₀ : Around} {base h₀ : Heap} {L : Addr} {m : Str → Option Value} {news : List (Addr × Obj)} {s : Shared} {Q E : Value → Shared → Prop} {v : Addr} {i : Int} {u1 : Tok} {j : Int} {u2 : Tok} {wd : Int} {t2 : Tok} {pl : Int} {t3 : Tok} {sz : Value} {o : Option Int} {sc : Int} {t4 : Tok} {b : Bool}
  (B : Below A₀ base outer h₀) (F : Fr h₀ L s.heap m) (X : (hd.heap_39 w.params).In h₀) (N : News h₀ L s.heap (news)) (T : Top hd.view_39 (looseW hd.view_39 []) mean mg mb h₀) (hk : cs.kind = .function) (hdp : dp + 8 < recursionLimit) (hun : un + 64 < cLine)
  (hv : (v, ({ cls := .type "tuple", data := .seq #[.int i u1, .int j u2] } : Obj)) ∈ news) (q1 : -(10 ^ 10) < i) (q2 : i < 10 ^ 10) (q3 : -40 ≤ j) (q4 : j ≤ 40) (p5 : 0 ≤ wd) (p6 : wd ≤ 100) (p7 : 0 ≤ pl) (p8 : pl ≤ 20) (r1 : -pl < sc) (r2 : sc ≤ pl + 1) (hz : SzIs sz o) (hg : genfixV i j pl = false)
  (hret : ∀  (t : Tok) (h' : Heap) (tk' : Nat),  Fr h₀ L h' m → News h₀ L h' (news) →  Q (.str (expV (Str.ofString "E") i j wd pl o sc b) t) { s with heap := h', toks := tk' }) :
  wpAny (model Challenge.rw_no0228_01.row.prog w) (ktrTop dp un gd cn cs L a ccd cl outer) (call (.ref 123) [.ref v, .int wd t2, .int pl t3, sz, .int sc t4, .bool b]) Q E s := by
  k_with_none
  k_with_none
  (k_with "storeName" => (k_here; k_dflt (refine' store_let ?zsF ?zsN ?_ ?zsa ?zsb; (case zsF => k_asm); (case zsN => k_asm); (case zsa => first | rfl | assumption); (case zsb => rfl)); k_whole; intro m' h' F' N'; (try k_sweep)))
  (k_with "spliced" => (k_here; first | (with_reducible refine' args_n7 ?zaF ?za1 ?za2 ?za3 ?za4 ?za5 ?za6 ?za7 ?_ ?zak ?zax; (case zaF => k_dflt k_asm); (case za1 => with_unfolding_all rfl); (case za2 => with_unfolding_all rfl); (case za3 => with_unfolding_all rfl); (case za4 => with_unfolding_all rfl); (case za5 => with_unfolding_all rfl); (case za6 => with_unfolding_all rfl); (case za7 => with_unfolding_all rfl); (case zak => first | exact rfl | assumption); (case zax => with_unfolding_all rfl)) | (with_reducible refine' args_n6 ?zaF ?za1 ?za2 ?za3 ?za4 ?za5 ?za6 ?_ ?zak ?zax; (case zaF => k_dflt k_asm); (case za1 => with_unfolding_all rfl); (case za2 => with_unfolding_all rfl); (case za3 => with_unfolding_all rfl); (case za4 => with_unfolding_all rfl); (case za5 => with_unfolding_all rfl); (case za6 => with_unfolding_all rfl); (case zak => first | exact rfl | assumption); (case zax => with_unfolding_all rfl)) | (with_reducible refine' args_n5 ?zaF ?za1 ?za2 ?za3 ?za4 ?za5 ?_ ?zak ?zax; (case zaF => k_dflt k_asm); (case za1 => with_unfolding_all rfl); (case za2 => with_unfolding_all rfl); (case za3 => with_unfolding_all rfl); (case za4 => with_unfolding_all rfl); (case za5 => with_unfolding_all rfl); (case zak => first | exact rfl | assumption); (case zax => with_unfolding_all rfl)) | (with_reducible refine' args_n4 ?zaF ?za1 ?za2 ?za3 ?za4 ?_ ?zak ?zax; (case zaF => k_dflt k_asm); (case za1 => with_unfolding_all rfl); (case za2 => with_unfolding_all rfl); (case za3 => with_unfolding_all rfl); (case za4 => with_unfolding_all rfl); (case zak => first | exact rfl | assumption); (case zax => with_unfolding_all rfl)) | (with_reducible refine' args_n3 ?zaF ?za1 ?za2 ?za3 ?_ ?zak ?zax; (case zaF => k_dflt k_asm); (case za1 => with_unfolding_all rfl); (case za2 => with_unfolding_all rfl); (case za3 => with_unfolding_all rfl); (case zak => first | exact rfl | assumption); (case zax => with_unfolding_all rfl)) | (with_reducible refine' args_n2 ?zaF ?za1 ?za2 ?_ ?zak ?zax; (case zaF => k_dflt k_asm); (case za1 => with_unfolding_all rfl); (case za2 => with_unfolding_all rfl); (case zak => first | exact rfl | assumption); (case zax => with_unfolding_all rfl))))
  (k_with "call ref" => (k_here; (with_reducible show wpAny _ _ (call (Value.ref 116) [Value.ref _, Value.int _ _]) _ _ _); k_dflt (refine' u_gen_f ?k1 ?k2 ?k3 ?k4 ?k5 ?kK ?kd ?ku ?p0 ?p1 ?p2 ?p3 ?p4 ?p5 ?p6 ?p7 ?_); (case k1 => k_asm); (case k2 => k_asm); (case k3 => k_asm); (case k4 => k_asm); (case k5 => k_asm); (case kK => first | exact rfl | assumption); (case kd => first | exact room hdp (by decide) | decide | ktr_room); (case ku => first | exact room hun (by decide) | decide | ktr_units); (case p0 => k_mem); (case p1 => first | assumption | omega | kt_fact); (case p2 => first | assumption | omega | kt_fact); (case p3 => first | assumption | omega | kt_fact); (case p4 => first | assumption | omega | kt_fact); (case p5 => first | assumption | omega | kt_fact); (case p6 => first | assumption | omega | kt_fact); (case p7 => with_reducible assumption); all_goals (intros; (try dsimp only); (try k_fold)); walk_say "CONTRACT gen_f"))
  (k_with "call ref" => (k_here; (with_reducible show wpAny _ _ (call (Value.ref 109) [Value.str _ _, Value.ref _, Value.int _ _, Value.int _ _, _, Value.int _ _, Value.bool _]) _ _ _); k_dflt (refine' u_exp ?k1 ?k2 ?k3 ?k4 ?k5 ?kK ?kd ?ku ?p0 ?p1 ?p2 ?p3 ?p4 ?p5 ?p6 ?p7 ?p8 ?p9 ?p10 ?p11 ?p12 ?_); (case k1 => k_asm); (case k2 => k_asm); (case k3 => k_asm); (case k4 => k_asm); (case k5 => k_asm); (case kK => first | exact rfl | assumption); (case kd => first | exact room hdp (by decide) | decide | ktr_room); (case ku => first | exact room hun (by decide) | decide | ktr_units); (case p0 => k_mem); (case p1 => first | assumption | omega | kt_fact); (case p2 => first | assumption | omega | kt_fact); (case p3 => first | assumption | omega | kt_fact); (case p4 => first | assumption | omega | kt_fact); (case p5 => first | assumption | decide); (case p6 => first | assumption | omega | kt_fact); (case p7 => first | assumption | omega | kt_fact); (case p8 => first | assumption | omega | kt_fact); (case p9 => first | assumption | omega | kt_fact); (case p10 => first | assumption | omega | kt_fact); (case p11 => first | assumption | omega | kt_fact); (case p12 => first | exact szNone | with_reducible assumption); all_goals (intros; (try dsimp only); (try k_fold)); walk_say "CONTRACT exp"))
  revert X; k_fill; intro X
  obtain ⟨z0, z1, z2, z3, z4, z5⟩ := lens
  have hr2 := hret
  refine wpAny_call ?_
  k_dflt cell_enter
  (rename Fr _ _ _ _ => zF0); (refine fr_let zF0 ?_); clear zF0; intro m' zF1
  (refine env_let ?_); intro env' A'
  k_steps
  all_goals (
    first
    | (refine cb_retS (Q := Q) hr2 ?e0 ?eF ?eN; (case eF => k_asm); (case eN => first | k_asm | exact cb_drop (by assumption) (fun _ hp => .tail _ hp) | exact cb_drop (by assumption) (fun _ hp => .tail _ (.tail _ hp)) | exact cb_drop (by assumption) (fun _ hp => .tail _ (.tail _ (.tail _ hp)))); (case e0 => exact rfl); skip))
end

section
open PySem PySem.W PyProof.Rows
set_option Elab.async false
set_option maxRecDepth 100000
set_option maxHeartbeats 8000000
theorem u_hge {w : World} {mean : ExcName → Option Value} {mg mb : Str → Option Value} {dp un : Nat} {gd : Option (List Code)} {cn : Str} {cs : Scope} {a : Addr} {ccd : Value} {cl : List (Str × Addr)} {outer : List Env} {A₀ : Around} {base h₀ : Heap} {L : Addr} {m : Str → Option Value} {news : List (Addr × Obj)} {s : Shared} {Q E : Value → Shared → Prop} {t1 : Tok} {v : Addr} {i : Int} {u1 : Tok} {j : Int} {u2 : Tok} {wd : Int} {t2 : Tok} {pl : Int} {t3 : Tok} {sz : Value} {o : Option Int} {sc : Int} {t4 : Tok} {b : Bool}
  (B : Below A₀ base outer h₀) (F : Fr h₀ L s.heap m) (X : (hd.heap_39 w.params).In h₀) (N : News h₀ L s.heap (news)) (T : Top hd.view_39 (looseW hd.view_39 []) mean mg mb h₀) (hk : cs.kind = .function) (hdp : dp + 9 < recursionLimit) (hun : un + 72 < cLine)
  (hv : (v, ({ cls := .type "tuple", data := .seq #[.int i u1, .int j u2] } : Obj)) ∈ news) (q1 : -(10 ^ 10) < i) (q2 : i < 10 ^ 10) (q3 : -40 ≤ j) (q4 : j ≤ 40) (p5 : 0 ≤ wd) (p6 : wd ≤ 100) (p7 : 0 ≤ pl) (p8 : pl ≤ 20) (hz : SzIs sz o) (r1 : -pl < sc) (r2 : sc ≤ pl + 1) (hg : genfixV i j pl = false)
  (hret : ∀  (t : Tok) (h' : Heap) (tk' : Nat),  Fr h₀ L h' m → News h₀ L h' (news) →  Q (.str (expV (Str.ofString "E") i j wd pl o sc b) t) { s with heap := h', toks := tk' }) :
  wpAny (model Challenge.rw_no0228_01.row.prog w) (ktrTop dp un gd cn cs L a ccd cl outer) (call (.ref 207) [.str (Str.ofString "G") t1, .ref v, .int wd t2, .int pl t3, sz, .int sc t4, .bool b]) Q E s := by
  k_with_none
  k_with_none
  (k_with "storeName" => (k_here; k_dflt (refine' store_let ?zsF ?zsN ?_ ?zsa ?zsb; (case zsF => k_asm); (case zsN => k_asm); (case zsa => first | rfl | assumption); (case zsb => rfl)); k_whole; intro m' h' F' N'; (try k_sweep)))
  (k_with "spliced" => (k_here; first | (with_reducible refine' args_n7 ?zaF ?za1 ?za2 ?za3 ?za4 ?za5 ?za6 ?za7 ?_ ?zak ?zax; (case zaF => k_dflt k_asm); (case za1 => with_unfolding_all rfl); (case za2 => with_unfolding_all rfl); (case za3 => with_unfolding_all rfl); (case za4 => with_unfolding_all rfl); (case za5 => with_unfolding_all rfl); (case za6 => with_unfolding_all rfl); (case za7 => with_unfolding_all rfl); (case zak => first | exact rfl | assumption); (case zax => with_unfolding_all rfl)) | (with_reducible refine' args_n6 ?zaF ?za1 ?za2 ?za3 ?za4 ?za5 ?za6 ?_ ?zak ?zax; (case zaF => k_dflt k_asm); (case za1 => with_unfolding_all rfl); (case za2 => with_unfolding_all rfl); (case za3 => with_unfolding_all rfl); (case za4 => with_unfolding_all rfl); (case za5 => with_unfolding_all rfl); (case za6 => with_unfolding_all rfl); (case zak => first | exact rfl | assumption); (case zax => with_unfolding_all rfl)) | (with_reducible refine' args_n5 ?zaF ?za1 ?za2 ?za3 ?za4 ?za5 ?_ ?zak ?zax; (case zaF => k_dflt k_asm); (case za1 => with_unfolding_all rfl); (case za2 => with_unfolding_all rfl); (case za3 => with_unfolding_all rfl); (case za4 => with_unfolding_all rfl); (case za5 => with_unfolding_all rfl); (case zak => first | exact rfl | assumption); (case zax => with_unfolding_all rfl)) | (with_reducible refine' args_n4 ?zaF ?za1 ?za2 ?za3 ?za4 ?_ ?zak ?zax; (case zaF => k_dflt k_asm); (case za1 => with_unfolding_all rfl); (case za2 => with_unfolding_all rfl); (case za3 => with_unfolding_all rfl); (case za4 => with_unfolding_all rfl); (case zak => first | exact rfl | assumption); (case zax => with_unfolding_all rfl)) | (with_reducible refine' args_n3 ?zaF ?za1 ?za2 ?za3 ?_ ?zak ?zax; (case zaF => k_dflt k_asm); (case za1 => with_unfolding_all rfl); (case za2 => with_unfolding_all rfl); (case za3 => with_unfolding_all rfl); (case zak => first | exact rfl | assumption); (case zax => with_unfolding_all rfl)) | (with_reducible refine' args_n2 ?zaF ?za1 ?za2 ?_ ?zak ?zax; (case zaF => k_dflt k_asm); (case za1 => with_unfolding_all rfl); (case za2 => with_unfolding_all rfl); (case zak => first | exact rfl | assumption); (case zax => with_unfolding_all rfl))))
  (k_with "call ref" => (k_here; (with_reducible show wpAny _ _ (call (Value.ref 123) [Value.ref _, Value.int _ _, Value.int _ _, _, Value.int _ _, Value.bool _]) _ _ _); k_dflt (refine' u_gexp ?k1 ?k2 ?k3 ?k4 ?k5 ?kK ?kd ?ku ?p0 ?p1 ?p2 ?p3 ?p4 ?p5 ?p6 ?p7 ?p8 ?p9 ?p10 ?p11 ?p12 ?_); (case k1 => k_asm); (case k2 => k_asm); (case k3 => k_asm); (case k4 => k_asm); (case k5 => k_asm); (case kK => first | exact rfl | assumption); (case kd => first | exact room hdp (by decide) | decide | ktr_room); (case ku => first | exact room hun (by decide) | decide | ktr_units); (case p0 => k_mem); (case p1 => first | assumption | omega | kt_fact); (case p2 => first | assumption | omega | kt_fact); (case p3 => first | assumption | omega | kt_fact); (case p4 => first | assumption | omega | kt_fact); (case p5 => first | assumption | omega | kt_fact); (case p6 => first | assumption | omega | kt_fact); (case p7 => first | assumption | omega | kt_fact); (case p8 => first | assumption | omega | kt_fact); (case p9 => first | assumption | omega | kt_fact); (case p10 => first | assumption | omega | kt_fact); (case p11 => first | exact szNone | with_reducible assumption); (case p12 => with_reducible assumption); all_goals (intros; (try dsimp only); (try k_fold)); walk_say "CONTRACT gexp"))
  revert X; k_fill; intro X
  obtain ⟨z0, z1, z2, z3, z4, z5⟩ := lens
  refine wpAny_call ?_
  k_dflt cell_enter
  (rename Fr _ _ _ _ => zF0); (refine fr_let zF0 ?_); clear zF0; intro m' zF1
  (refine env_let ?_); intro env' A'
  k_steps
  all_goals (
    first
    | (refine cb_retS (Q := Q) hret ?e0 ?eF ?eN; (case eF => k_asm); (case eN => first | k_asm | exact cb_drop (by assumption) (fun _ hp => .tail _ hp) | exact cb_drop (by assumption) (fun _ hp => .tail _ (.tail _ hp)) | exact cb_drop (by assumption) (fun _ hp => .tail _ (.tail _ (.tail _ hp)))); (case e0 => exact rfl); skip))
end

section
open PySem PySem.W PyProof.Rows
set_option Elab.async false
set_option maxRecDepth 100000
set_option maxHeartbeats 8000000
theorem u_gen_raise {w : World} {mean : ExcName → Option Value} {mg mb : Str → Option Value} {dp un : Nat} {gd : Option (List Code)} {cn : Str} {cs : Scope} {a : Addr} {ccd : Value} {cl : List (Str × Addr)} {outer : List Env} {A₀ : Around} {base h₀ : Heap} {L : Addr} {m : Str → Option Value} {news : List (Addr × Obj)} {s : Shared} {Q E : Value → Shared → Prop}
  {v : Addr} {i : Int} {u1 : Tok} {j : Int} {u2 : Tok} {wd : Int} {t2 : Tok} {pl : Int} {t3 : Tok} {sz : Value} {sc : Int} {t4 : Tok} {b : Bool}
  (B : Below A₀ base outer h₀) (F : Fr h₀ L s.heap m) (X : (hd.heap_39 w.params).In h₀) (N : News h₀ L s.heap news) (T : Top hd.view_39 (looseW hd.view_39 []) mean mg mb h₀) (hk : cs.kind = .function) (hdp : dp + 9 < recursionLimit) (hun : un + 72 < cLine)
  (hv : (v, ({ cls := .type "tuple", data := .seq #[.int i u1, .int j u2] } : Obj)) ∈ news) (q1 : -(10 ^ 10) < i) (q2 : i < 10 ^ 10) (q3 : -40 ≤ j) (q4 : j ≤ 40)
  (p7 : 0 ≤ pl) (p8 : pl ≤ 20) (r1 : -20 ≤ sc) (r2 : sc ≤ 20) (hb : sc ≤ -pl ∨ pl + 1 < sc) (hg : genfixV i j pl = false)
  (hraise : ∀ e G h' tk', Fr h₀ L G m → RaisedSN base G (envX cn cs L a ccd cl :: outer) e (.ref 51) news h' → G.UpToSlots h' → E (.ref e) { s with heap := h', toks := tk' }) :
  wpAny (model Challenge.rw_no0228_01.row.prog w) (ktrTop dp un gd cn cs L a ccd cl outer) (call (.ref 123) [.ref v, .int wd t2, .int pl t3, sz, .int sc t4, .bool b]) Q E s := by
  k_with_none
  (k_with "call ref" => (k_here; (with_reducible show wpAny _ _ (call (Value.ref 116) [Value.ref _, Value.int _ _]) _ _ _); k_dflt (refine' u_gen_f ?k1 ?k2 ?k3 ?k4 ?k5 ?kK ?kd ?ku ?p0 ?p1 ?p2 ?p3 ?p4 ?p5 ?p6 ?p7 ?_); (case k1 => k_asm); (case k2 => k_asm); (case k3 => k_asm); (case k4 => k_asm); (case k5 => k_asm); (case kK => first | exact rfl | assumption); (case kd => ktr_room); (case ku => ktr_units); (case p0 => k_mem); (case p1 => first | assumption | omega | kt_fact); (case p2 => first | assumption | omega | kt_fact); (case p3 => first | assumption | omega | kt_fact); (case p4 => first | assumption | omega | kt_fact); (case p5 => first | assumption | omega | kt_fact); (case p6 => first | assumption | omega | kt_fact); (case p7 => with_reducible assumption); all_goals (intros; (try dsimp only); (try k_fold)); walk_say "CONTRACT gen_f"))
  (k_with "call ref" => (k_here; (with_reducible show wpAny _ _ (call (Value.ref 109) [Value.str _ _, Value.ref _, Value.int _ _, Value.int _ _, _, Value.int _ _, Value.bool _]) _ _ _); k_dflt (refine' u_exp_raise ?k1 ?k2 ?k3 ?k4 ?k5 ?kK ?kd ?ku ?p0 ?p1 ?p2 ?p3 ?p4 ?_); (case k1 => k_asm); (case k2 => k_asm); (case k3 => k_asm); (case k4 => k_asm); (case k5 => k_asm); (case kK => first | exact rfl | assumption); (case kd => ktr_room); (case ku => ktr_units); (case p0 => omega); (case p1 => omega); (case p2 => omega); (case p3 => omega); (case p4 => omega); k_whole; intro e' G' h' tk' FG' S' U'; (have R' := RaisedSN.toN S'); (try dsimp only at S' R' U' ⊢); walk_say "RAISED"))
  (k_with "leaving ref" => (k_here; (refine' leave_onSN ?k1 ?k2 ?k3 ?k4 ?_; (case k3 => assumption); (case k2 => assumption); (case k1 => assumption); (case k4 => assumption); k_whole; intro h' S' R' U'; (try dsimp only at S' R' U' ⊢))))
  revert X; k_fill; intro X
  refine wpAny_call ?_
  k_dflt cell_enter
  k_steps
  all_goals (refine' hraise _ _ _ _ ?G ?R ?U; (case R => assumption); (case G => k_asm); (case U => assumption))
end

section
open PySem PySem.W PyProof.Rows
set_option Elab.async false
set_option maxRecDepth 100000
set_option maxHeartbeats 8000000
theorem u_hg_no {w : World} {mean : ExcName → Option Value} {mg mb : Str → Option Value} {dp un : Nat} {gd : Option (List Code)} {cn : Str} {cs : Scope} {a : Addr} {ccd : Value} {A₀ : Around} {h₀ : Heap} {L : Addr} {m : Str → Option Value} {news : List (Addr × Obj)} {s : Shared} {Q E : Value → Shared → Prop} {t1 : Tok} {v : Addr} {i : Int} {u1 : Tok} {j : Int} {u2 : Tok} {wd : Int} {t2 : Tok} {pl : Int} {t3 : Tok} {sz : Value} {sc : Int} {t4 : Tok} {b : Bool}
  (B : Below A₀ h₀ [] h₀) (F : Fr h₀ L s.heap m) (X : (hd.heap_39 w.params).In h₀) (N : News h₀ L s.heap (news)) (T : Top hd.view_39 (looseW hd.view_39 []) mean mg mb h₀) (hk : cs.kind = .function) (hdp : dp + 11 < recursionLimit) (hun : un + 88 < cLine)
  (hv : (v, ({ cls := .type "tuple", data := .seq #[.int i u1, .int j u2] } : Obj)) ∈ news) (q1 : -(10 ^ 10) < i) (q2 : i < 10 ^ 10) (q3 : -40 ≤ j) (q4 : j ≤ 40) (p5 : 0 ≤ wd) (p6 : wd ≤ 100) (p7 : 0 ≤ pl) (p8 : pl ≤ 20) (s1 : -20 ≤ sc) (s2 : sc ≤ 20) (hb : sc ≤ -pl ∨ pl + 1 < sc) (hg : genfixV i j pl = false)
  (hret : ∀  (t : Tok) (h' : Heap) (tk' : Nat),  Fr h₀ L h' m → News h₀ L h' (news) →  Q (.none) { s with heap := h', toks := tk' }) :
  wpAny (model Challenge.rw_no0228_01.row.prog w) (ktrTop dp un gd cn cs L a ccd [] []) (call (.ref 207) [.str (Str.ofString "G") t1, .ref v, .int wd t2, .int pl t3, sz, .int sc t4, .bool b]) Q E s := by
  k_with_none
  k_with_none
  (k_with "storeName" => (k_here; k_dflt (refine' store_let ?zsF ?zsN ?_ ?zsa ?zsb; (case zsF => k_asm); (case zsN => k_asm); (case zsa => first | rfl | assumption); (case zsb => rfl)); k_whole; intro m' h' F' N'; (try k_sweep)))
  (k_with "spliced" => (k_here; first | (with_reducible refine' args_n7 ?zaF ?za1 ?za2 ?za3 ?za4 ?za5 ?za6 ?za7 ?_ ?zak ?zax; (case zaF => k_dflt k_asm); (case za1 => with_unfolding_all rfl); (case za2 => with_unfolding_all rfl); (case za3 => with_unfolding_all rfl); (case za4 => with_unfolding_all rfl); (case za5 => with_unfolding_all rfl); (case za6 => with_unfolding_all rfl); (case za7 => with_unfolding_all rfl); (case zak => first | exact rfl | assumption); (case zax => with_unfolding_all rfl)) | (with_reducible refine' args_n6 ?zaF ?za1 ?za2 ?za3 ?za4 ?za5 ?za6 ?_ ?zak ?zax; (case zaF => k_dflt k_asm); (case za1 => with_unfolding_all rfl); (case za2 => with_unfolding_all rfl); (case za3 => with_unfolding_all rfl); (case za4 => with_unfolding_all rfl); (case za5 => with_unfolding_all rfl); (case za6 => with_unfolding_all rfl); (case zak => first | exact rfl | assumption); (case zax => with_unfolding_all rfl)) | (with_reducible refine' args_n5 ?zaF ?za1 ?za2 ?za3 ?za4 ?za5 ?_ ?zak ?zax; (case zaF => k_dflt k_asm); (case za1 => with_unfolding_all rfl); (case za2 => with_unfolding_all rfl); (case za3 => with_unfolding_all rfl); (case za4 => with_unfolding_all rfl); (case za5 => with_unfolding_all rfl); (case zak => first | exact rfl | assumption); (case zax => with_unfolding_all rfl)) | (with_reducible refine' args_n4 ?zaF ?za1 ?za2 ?za3 ?za4 ?_ ?zak ?zax; (case zaF => k_dflt k_asm); (case za1 => with_unfolding_all rfl); (case za2 => with_unfolding_all rfl); (case za3 => with_unfolding_all rfl); (case za4 => with_unfolding_all rfl); (case zak => first | exact rfl | assumption); (case zax => with_unfolding_all rfl)) | (with_reducible refine' args_n3 ?zaF ?za1 ?za2 ?za3 ?_ ?zak ?zax; (case zaF => k_dflt k_asm); (case za1 => with_unfolding_all rfl); (case za2 => with_unfolding_all rfl); (case za3 => with_unfolding_all rfl); (case zak => first | exact rfl | assumption); (case zax => with_unfolding_all rfl)) | (with_reducible refine' args_n2 ?zaF ?za1 ?za2 ?_ ?zak ?zax; (case zaF => k_dflt k_asm); (case za1 => with_unfolding_all rfl); (case za2 => with_unfolding_all rfl); (case zak => first | exact rfl | assumption); (case zax => with_unfolding_all rfl))))
  (k_with "call ref" => (k_here; (with_reducible show wpAny _ _ (call (Value.ref 123) [Value.ref _, Value.int _ _, Value.int _ _, _, Value.int _ _, Value.bool _]) _ _ _); k_dflt (refine' u_gen_raise ?k1 ?k2 ?k3 ?k4 ?k5 ?kK ?kd ?ku ?p0 ?p1 ?p2 ?p3 ?p4 ?p5 ?p6 ?p7 ?p8 ?p9 ?p10 ?_); (case k1 => k_asm); (case k2 => k_asm); (case k3 => k_asm); (case k4 => k_asm); (case k5 => k_asm); (case kK => first | exact rfl | assumption); (case kd => ktr_room); (case ku => ktr_units); (case p0 => k_mem); (case p1 => omega); (case p2 => omega); (case p3 => omega); (case p4 => omega); (case p5 => omega); (case p6 => omega); (case p7 => omega); (case p8 => omega); (case p9 => omega); (case p10 => with_reducible assumption); k_whole; intro e' G' h' tk' FG' S' U'; (have R' := RaisedSN.toN S'); (try dsimp only at S' R' U' ⊢); walk_say "RAISED"))
  revert X; k_fill; intro X
  obtain ⟨z0, z1, z2, z3, z4, z5⟩ := lens
  refine wpAny_call ?_
  k_dflt (refine' code_defS0 ?k1 ?k2 ?k3 ?k4 ?k5 ?kA ?k6 ?k7 ?k8 ?k9 ?kB ?_ ?cK ?c2 ?c3 ?c4 ?c5; (case kA => exact rfl); (case k2 => k_asm); (case k1 => k_asm); (case k3 => k_asm); (case k4 => k_asm); (case k5 => k_asm); (case k6 => k_is); (case k7 => k_is); (case k8 => ktr_room); (case k9 => first | exact binds_K (by k_in) rfl (by k_is) rfl rfl rfl | exact BindsTo.of_eq rfl); (case kB => exact locs rfl); (case cK => assumption); (case c2 => exact rfl); (case c3 => exact rfl); (case c4 => exact rfl); (case c5 => decide); k_whole; intro g' L' h' FG' F' N' B' X' T' D'; (try dsimp only); (try k_lift B'); (try k_fold))
  (rename Fr _ _ _ _ => zF0); (refine fr_let zF0 ?_); clear zF0; intro m' zF1
  (refine env_let ?_); intro env' A'
  k_steps
  all_goals (refine cb_retN (P := True) (Q := Q) (fun t h' tk' _ F N => hret t h' tk' F N) trivial ?eF ?eN; (case eF => k_asm); (case eN => k_asm))
end

section
open PySem PySem.W PyProof.Rows
set_option Elab.async false
set_option maxRecDepth 100000
set_option maxHeartbeats 8000000
theorem u_hg {w : World} {mean : ExcName → Option Value} {mg mb : Str → Option Value} {dp un : Nat} {gd : Option (List Code)} {cn : Str} {cs : Scope} {a : Addr} {ccd : Value} {A₀ : Around} {h₀ : Heap} {L : Addr} {m : Str → Option Value} {news : List (Addr × Obj)} {s : Shared} {Q E : Value → Shared → Prop} {t1 : Tok} {v : Addr} {i : Int} {u1 : Tok} {j : Int} {u2 : Tok} {wd : Int} {t2 : Tok} {pl : Int} {t3 : Tok} {sz : Value} {o : Option Int} {sc : Int} {t4 : Tok} {b : Bool}
  (B : Below A₀ h₀ [] h₀) (F : Fr h₀ L s.heap m) (X : (hd.heap_39 w.params).In h₀) (N : News h₀ L s.heap (news)) (T : Top hd.view_39 (looseW hd.view_39 []) mean mg mb h₀) (hk : cs.kind = .function) (hdp : dp + 11 < recursionLimit) (hun : un + 88 < cLine)
  (hv : (v, ({ cls := .type "tuple", data := .seq #[.int i u1, .int j u2] } : Obj)) ∈ news) (q1 : -(10 ^ 10) < i) (q2 : i < 10 ^ 10) (q3 : -40 ≤ j) (q4 : j ≤ 40) (p5 : 0 ≤ wd) (p6 : wd ≤ 100) (p7 : 0 ≤ pl) (p8 : pl ≤ 20) (s1 : -20 ≤ sc) (s2 : sc ≤ 20) (hz : SzIs sz o)
  (hret : ∀ (x : Value) (h' : Heap) (tk' : Nat), GenIs i j wd pl o sc b x → Fr h₀ L h' m → News h₀ L h' (news) → Q x { s with heap := h', toks := tk' }) :
  wpAny (model Challenge.rw_no0228_01.row.prog w) (ktrTop dp un gd cn cs L a ccd [] []) (call (.ref 207) [.str (Str.ofString "G") t1, .ref v, .int wd t2, .int pl t3, sz, .int sc t4, .bool b]) Q E s := by
  k_with_none
  cases hg : genfixV i j pl with
  | true => exact u_hgf B F X N T hk (Nat.lt_of_le_of_lt (by omega) hdp) (Nat.lt_of_le_of_lt (by omega) hun) hv q1 q2 q3 q4 p5 p6 p7 p8 hz hg (fun t h' tk' F' N' => hret _ h' tk' (.inl ⟨hg, t, rfl⟩) F' N')
  | false =>
    by_cases hr : -pl < sc ∧ sc ≤ pl + 1
    · exact u_hge B F X N T hk (Nat.lt_of_le_of_lt (by omega) hdp) (Nat.lt_of_le_of_lt (by omega) hun) hv q1 q2 q3 q4 p5 p6 p7 p8 hz hr.1 hr.2 hg (fun t h' tk' F' N' => hret _ h' tk' (.inr ⟨hg, .inl ⟨hr.1, hr.2, t, rfl⟩⟩) F' N')
    · have hb : sc ≤ -pl ∨ pl + 1 < sc := by omega
      exact u_hg_no B F X N T hk (Nat.lt_of_le_of_lt (by omega) hdp) (Nat.lt_of_le_of_lt (by omega) hun) hv q1 q2 q3 q4 p5 p6 p7 p8 s1 s2 hb hg (fun t h' tk' F' N' => hret _ h' tk' (.inr ⟨hg, .inr ⟨hb, rfl⟩⟩) F' N')
end

section
open PySem PySem.W PyProof.Rows
set_option Elab.async false
set_option maxRecDepth 100000
set_option maxHeartbeats 8000000
theorem u_whg {w : World} {mean : ExcName → Option Value} {mg mb : Str → Option Value} {dp un : Nat} {gd : Option (List Code)} {cn : Str} {cs : Scope} {a : Addr} {ccd : Value} {A₀ : Around} {h₀ : Heap} {L : Addr} {m : Str → Option Value} {news : List (Addr × Obj)} {s : Shared} {Q E : Value → Shared → Prop} {t1 : Tok} {v : Addr} {i : Int} {u1 : Tok} {j : Int} {u2 : Tok} {vw : Int} {t2 : Tok} {pl : Int} {t3 : Tok} {sz : Value} {o : Option Int} {vs : Int} {t4 : Tok} {b : Bool}
  (B : Below A₀ h₀ [] h₀) (F : Fr h₀ L s.heap m) (X : (hd.heap_39 w.params).In h₀) (N : News h₀ L s.heap (news)) (T : Top hd.view_39 (looseW hd.view_39 []) mean mg mb h₀) (hk : cs.kind = .function) (hdp : dp + 11 < recursionLimit) (hun : un + 88 < cLine)
  (hv : (v, ({ cls := .type "tuple", data := .seq #[.int i u1, .int j u2] } : Obj)) ∈ news) (e0 : -(10 ^ 10) < i) (e1 : i < 10 ^ 10) (d0 : -14 ≤ j) (d1 : j ≤ 14) (a0 : 0 ≤ vw) (a1 : vw < 24) (b0 : 0 ≤ pl) (b1 : pl < 10) (c0 : 0 ≤ vs) (c1 : vs < 25) (hz : SzIs sz o)
  (hret : ∀ (x : Value) (h' : Heap) (tk' : Nat), GenIs i j (1 + vw) pl o (vs - 12) b x → Fr h₀ L h' m → News h₀ L h' (news) → Q x { s with heap := h', toks := tk' }) :
  wpAny (model Challenge.rw_no0228_01.row.prog w) (ktrTop dp un gd cn cs L a ccd [] []) (call (.ref 207) [.str (Str.ofString "G") t1, .ref v, .int (1 + vw) t2, .int pl t3, sz, .int (vs - 12) t4, .bool b]) Q E s := by
  k_with_none
  exact u_hg B F X N T hk hdp hun hv e0 e1 (by omega) (by omega) (by omega) (by omega) b0 (by omega) (by omega) (by omega) hz hret
end

section
open PySem PySem.W PyProof.Rows
set_option Elab.async false
set_option maxRecDepth 100000
set_option maxHeartbeats 8000000
theorem u_lleading {w : World} {mean : ExcName → Option Value} {mg mb : Str → Option Value} {dp un : Nat} {gd : Option (List Code)} {cn : Str} {cs : Scope} {a : Addr} {ccd : Value} {cl : List (Str × Addr)} {outer : List Env} {A₀ : Around} {base h₀ : Heap} {L : Addr} {m : Str → Option Value} {news : List (Addr × Obj)} {s : Shared} {Q E : Value → Shared → Prop} {v : Addr} {i : Int} {u1 : Tok} {j : Int} {u2 : Tok} {c : Int} {t3 : Tok}
  (B : Below A₀ base outer h₀) (F : Fr h₀ L s.heap m) (X : (hd.heap_39 w.params).In h₀) (N : News h₀ L s.heap (news)) (T : Top hd.view_39 (looseW hd.view_39 []) mean mg mb h₀) (hk : cs.kind = .function) (hdp : dp + 4 < recursionLimit) (hun : un + 32 < cLine)
  (hv : (v, ({ cls := .type "tuple", data := .seq #[.int i u1, .int j u2] } : Obj)) ∈ news) (q1 : -(10 ^ 10) < i) (q2 : i < 10 ^ 10) (q3 : -40 ≤ j) (q4 : j ≤ 40) (p7 : 0 ≤ c) (p8 : c ≤ 50)
  (hret : ∀ (x : Str) (y : Int) (t1 t2 : Tok) (D : Addr) (h' : Heap) (tk' : Nat), x = (lleadV i j c).1 → y = (lleadV i j c).2 → Fr h₀ L h' m → News h₀ L h' ((D, ({ cls := .type "tuple", data := .seq #[.str x t1, .int y t2] } : Obj)) :: news) → (∀ p ∈ news, p.1 < D) → x.length ≤ 235 → -300 ≤ y → y ≤ 300 → Q (.ref D) { s with heap := h', toks := tk' }) :
  wpAny (model Challenge.rw_no0228_01.row.prog w) (ktrTop dp un gd cn cs L a ccd cl outer) (call (.ref 186) [.ref v, .int c t3]) Q E s := by
  k_with_none
  k_with_none
  (k_with "storeName" => (k_here; k_dflt (refine' store_let ?zsF ?zsN ?_ ?zsa ?zsb; (case zsF => k_asm); (case zsN => k_asm); (case zsa => first | rfl | assumption); (case zsb => rfl)); k_whole; intro m' h' F' N'; (try k_sweep)))
  (k_with "spliced" => (k_here; first | (with_reducible refine' args_n7 ?zaF ?za1 ?za2 ?za3 ?za4 ?za5 ?za6 ?za7 ?_ ?zak ?zax; (case zaF => k_dflt k_asm); (case za1 => with_unfolding_all rfl); (case za2 => with_unfolding_all rfl); (case za3 => with_unfolding_all rfl); (case za4 => with_unfolding_all rfl); (case za5 => with_unfolding_all rfl); (case za6 => with_unfolding_all rfl); (case za7 => with_unfolding_all rfl); (case zak => first | exact rfl | assumption); (case zax => with_unfolding_all rfl)) | (with_reducible refine' args_n6 ?zaF ?za1 ?za2 ?za3 ?za4 ?za5 ?za6 ?_ ?zak ?zax; (case zaF => k_dflt k_asm); (case za1 => with_unfolding_all rfl); (case za2 => with_unfolding_all rfl); (case za3 => with_unfolding_all rfl); (case za4 => with_unfolding_all rfl); (case za5 => with_unfolding_all rfl); (case za6 => with_unfolding_all rfl); (case zak => first | exact rfl | assumption); (case zax => with_unfolding_all rfl)) | (with_reducible refine' args_n5 ?zaF ?za1 ?za2 ?za3 ?za4 ?za5 ?_ ?zak ?zax; (case zaF => k_dflt k_asm); (case za1 => with_unfolding_all rfl); (case za2 => with_unfolding_all rfl); (case za3 => with_unfolding_all rfl); (case za4 => with_unfolding_all rfl); (case za5 => with_unfolding_all rfl); (case zak => first | exact rfl | assumption); (case zax => with_unfolding_all rfl)) | (with_reducible refine' args_n4 ?zaF ?za1 ?za2 ?za3 ?za4 ?_ ?zak ?zax; (case zaF => k_dflt k_asm); (case za1 => with_unfolding_all rfl); (case za2 => with_unfolding_all rfl); (case za3 => with_unfolding_all rfl); (case za4 => with_unfolding_all rfl); (case zak => first | exact rfl | assumption); (case zax => with_unfolding_all rfl)) | (with_reducible refine' args_n3 ?zaF ?za1 ?za2 ?za3 ?_ ?zak ?zax; (case zaF => k_dflt k_asm); (case za1 => with_unfolding_all rfl); (case za2 => with_unfolding_all rfl); (case za3 => with_unfolding_all rfl); (case zak => first | exact rfl | assumption); (case zax => with_unfolding_all rfl)) | (with_reducible refine' args_n2 ?zaF ?za1 ?za2 ?_ ?zak ?zax; (case zaF => k_dflt k_asm); (case za1 => with_unfolding_all rfl); (case za2 => with_unfolding_all rfl); (case zak => first | exact rfl | assumption); (case zax => with_unfolding_all rfl))))
  (k_with "call ref" => (k_here; (with_reducible show wpAny _ _ (call (Value.ref 151) [Value.str _ _, Value.int _ _]) _ _ _); k_dflt (refine' u_cut ?k1 ?k2 ?k3 ?k4 ?k5 ?kK ?kd ?ku ?p0 ?p1 ?p2 ?p3 ?_); (case k1 => k_asm); (case k2 => k_asm); (case k3 => k_asm); (case k4 => k_asm); (case k5 => k_asm); (case kK => first | exact rfl | assumption); (case kd => first | exact room hdp (by decide) | decide | ktr_room); (case ku => first | exact room hun (by decide) | decide | ktr_units); (case p0 => with_reducible assumption); (case p1 => first | assumption | omega | kt_fact); (case p2 => first | assumption | omega | kt_fact); (case p3 => first | assumption | omega | kt_fact); (intro c' t' h' tk' hc' F' N' l0'); (try dsimp only); (try k_fold); walk_say "CONTRACT cut"))
  (k_with "call builtin:abs" => (k_here; (with_reducible refine abs_line ?_); intro _ _))
  revert X; k_fill; intro X
  obtain ⟨z0, z1, z2, z3, z4, z5⟩ := lens
  have ha0 := absV_nonneg i
  have ha1 := absV_lt q1 q2
  have hz := txt_len (k := 10) (by decide) ha0 ha1
  have hz1 := txt_pos ha0
  have hdg := digS_num _ ha0
  obtain ⟨w1, w2, w3⟩ := lleadV_facts q1 q2 q3 q4 p7 p8
  have hr2 := fun t1 t2 D h' tk' F N hl => hret _ _ t1 t2 D h' tk' rfl rfl F N hl w1 w2 w3
  refine wpAny_call ?_
  k_dflt cell_enter
  (rename Fr _ _ _ _ => zF0); (refine fr_let zF0 ?_); clear zF0; intro m' zF1
  (refine env_let ?_); intro env' A'
  k_steps
  all_goals (
    (try subst hc')
    first
    | (refine' cb_ret2 (Q := Q) hr2 ?e0 ?e1 ?eF ?eN ?eL; (case eF => k_asm); (case eN => first | k_asm | exact cb_drop (by assumption) (fun _ hp => .tail _ hp) | exact cb_drop (by assumption) (fun _ hp => .tail _ (.tail _ hp))); (case eL => k_asm); (case e0 => first | ((simp (disch := first | with_reducible assumption | (refine not_t ?_; with_reducible assumption)) only [lleadV, if_pos, if_neg]); done) | ((simp (disch := first | with_reducible assumption | (refine not_t ?_; with_reducible assumption)) only [lleadV, if_pos, if_neg]); rfl) | rfl | ((dsimp only [lleadV]); (simp (disch := first | with_reducible assumption | (refine not_t ?_; with_reducible assumption)) only [if_pos, if_neg]); done)); (case e1 => first | ((simp (disch := first | with_reducible assumption | (refine not_t ?_; with_reducible assumption)) only [lleadV, if_pos, if_neg]); done) | ((simp (disch := first | with_reducible assumption | (refine not_t ?_; with_reducible assumption)) only [lleadV, if_pos, if_neg]); rfl) | rfl | ((dsimp only [lleadV]); (simp (disch := first | with_reducible assumption | (refine not_t ?_; with_reducible assumption)) only [if_pos, if_neg]); done)); skip))
end

section
open PySem PySem.W PyProof.Rows
set_option Elab.async false
set_option maxRecDepth 100000
set_option maxHeartbeats 8000000
theorem u_lpower_n {w : World} {mean : ExcName → Option Value} {mg mb : Str → Option Value} {dp un : Nat} {gd : Option (List Code)} {cn : Str} {cs : Scope} {a : Addr} {ccd : Value} {cl : List (Str × Addr)} {outer : List Env} {A₀ : Around} {base h₀ : Heap} {L : Addr} {m : Str → Option Value} {news : List (Addr × Obj)} {s : Shared} {Q E : Value → Shared → Prop} {l : Str} {t1 : Tok} {p : Int} {t2 : Tok}
  (B : Below A₀ base outer h₀) (F : Fr h₀ L s.heap m) (X : (hd.heap_39 w.params).In h₀) (N : News h₀ L s.heap (news)) (T : Top hd.view_39 (looseW hd.view_39 []) mean mg mb h₀) (hk : cs.kind = .function) (hdp : dp + 2 < recursionLimit) (hun : un + 16 < cLine)
  (p1 : l.length = 1) (p2 : -900 < p) (p3 : p < 900)
  (hret : ∀  (t : Tok) (h' : Heap) (tk' : Nat), expoV l p none = none → Fr h₀ L h' m → News h₀ L h' (news) →  Q (.none) { s with heap := h', toks := tk' }) (hret2 : ∀ (x : Str) (t : Tok) (h' : Heap) (tk' : Nat), expoV l p none = some x → Fr h₀ L h' m → News h₀ L h' (news) → x.length ≤ 8 → Q (.str x t) { s with heap := h', toks := tk' }) :
  wpAny (model Challenge.rw_no0228_01.row.prog w) (ktrTop dp un gd cn cs L a ccd cl outer) (call (.ref 179) [.str l t1, .int p t2, .none]) Q E s := by
  k_with_none
  k_with_none
  (k_with "storeName" => (k_here; k_dflt (refine' store_let ?zsF ?zsN ?_ ?zsa ?zsb; (case zsF => k_asm); (case zsN => k_asm); (case zsa => first | rfl | assumption); (case zsb => rfl)); k_whole; intro m' h' F' N'; (try k_sweep)))
  (k_with "spliced" => (k_here; first | (with_reducible refine' args_n7 ?zaF ?za1 ?za2 ?za3 ?za4 ?za5 ?za6 ?za7 ?_ ?zak ?zax; (case zaF => k_dflt k_asm); (case za1 => with_unfolding_all rfl); (case za2 => with_unfolding_all rfl); (case za3 => with_unfolding_all rfl); (case za4 => with_unfolding_all rfl); (case za5 => with_unfolding_all rfl); (case za6 => with_unfolding_all rfl); (case za7 => with_unfolding_all rfl); (case zak => first | exact rfl | assumption); (case zax => with_unfolding_all rfl)) | (with_reducible refine' args_n6 ?zaF ?za1 ?za2 ?za3 ?za4 ?za5 ?za6 ?_ ?zak ?zax; (case zaF => k_dflt k_asm); (case za1 => with_unfolding_all rfl); (case za2 => with_unfolding_all rfl); (case za3 => with_unfolding_all rfl); (case za4 => with_unfolding_all rfl); (case za5 => with_unfolding_all rfl); (case za6 => with_unfolding_all rfl); (case zak => first | exact rfl | assumption); (case zax => with_unfolding_all rfl)) | (with_reducible refine' args_n5 ?zaF ?za1 ?za2 ?za3 ?za4 ?za5 ?_ ?zak ?zax; (case zaF => k_dflt k_asm); (case za1 => with_unfolding_all rfl); (case za2 => with_unfolding_all rfl); (case za3 => with_unfolding_all rfl); (case za4 => with_unfolding_all rfl); (case za5 => with_unfolding_all rfl); (case zak => first | exact rfl | assumption); (case zax => with_unfolding_all rfl)) | (with_reducible refine' args_n4 ?zaF ?za1 ?za2 ?za3 ?za4 ?_ ?zak ?zax; (case zaF => k_dflt k_asm); (case za1 => with_unfolding_all rfl); (case za2 => with_unfolding_all rfl); (case za3 => with_unfolding_all rfl); (case za4 => with_unfolding_all rfl); (case zak => first | exact rfl | assumption); (case zax => with_unfolding_all rfl)) | (with_reducible refine' args_n3 ?zaF ?za1 ?za2 ?za3 ?_ ?zak ?zax; (case zaF => k_dflt k_asm); (case za1 => with_unfolding_all rfl); (case za2 => with_unfolding_all rfl); (case za3 => with_unfolding_all rfl); (case zak => first | exact rfl | assumption); (case zax => with_unfolding_all rfl)) | (with_reducible refine' args_n2 ?zaF ?za1 ?za2 ?_ ?zak ?zax; (case zaF => k_dflt k_asm); (case za1 => with_unfolding_all rfl); (case za2 => with_unfolding_all rfl); (case zak => first | exact rfl | assumption); (case zax => with_unfolding_all rfl))))
  (k_with "binaryOp Add str str" => (k_here; (with_reducible show wpAny _ _ (binaryOp Operator.Add (Value.str _ _) (Value.str _ _)) _ _ _); (refine' add_let ?zax ?zay ?zas ?_; (case zax => first | ((with_reducible show (PySem.Txt.slice _ _ _).length ≤ _); with_reducible exact Nat.le_trans (PyProof.Txt.length_slice_le _ _ _) (by with_reducible assumption)) | with_reducible assumption | with_reducible exact Nat.le_of_eq (by with_reducible assumption) | exact Nat.le_of_eq (by kln_w) | ((with_reducible show (Txt.mul _ _).length ≤ _); exact mul0_le (by omega))); (case zay => first | ((with_reducible show (PySem.Txt.slice _ _ _).length ≤ _); with_reducible exact Nat.le_trans (PyProof.Txt.length_slice_le _ _ _) (by with_reducible assumption)) | with_reducible assumption | with_reducible exact Nat.le_of_eq (by with_reducible assumption) | exact Nat.le_of_eq (by kln_w) | ((with_reducible show (Txt.mul _ _).length ≤ _); exact mul0_le (by omega))); (case zas => decide)); intro r' t' k' hr' lr'; (try dsimp only)))
  (k_with "call builtin:abs" => (k_here; (with_reducible refine abs_line ?_); intro _ _))
  (k_with "eval IfExp" => (k_here; (fail_if_success (with_reducible show wpAny _ _ _ (JV _ _ _ _ _ _) _ _)); (with_reducible show wpAny _ _ (eval (PySem.Expr.IfExp _ (PySem.Expr.Constant (Const.str (Str.ofString "-")) _ _) _ _) _) _ _ _); k_dflt (refine' jv_str (sgV p) ?jF ?jN ?_ ?_; (case jF => k_asm); (case jN => k_asm)); skip; rotate_left 1; intros; skip; (try dsimp only); (try k_fold); rotate_right 1; walk_say "JOIN mark"))
  (k_with "JV" => (first | (refine' je_str ?jF ?jN ?jv; (case jF => k_dflt k_asm); (case jN => k_dflt k_asm); (case jv => k_dflt (first | ((simp (disch := first | with_reducible assumption | (refine not_t ?_; with_reducible assumption) | omega) only [sgV, if_pos, if_neg]); done) | ((simp (disch := first | with_reducible assumption | (refine not_t ?_; with_reducible assumption) | omega) only [sgV, if_pos, if_neg]); rfl) | rfl)))))
  revert X; k_fill; intro X
  obtain ⟨z0, z1, z2, z3, z4, z5⟩ := lens
  have hr2 := fun x t h' tk' e F N => hret2 x t h' tk' e F N (expoV_len p1 (by omega) (by omega) (fun _ e => by cases e) e)
  have ha0 := absV_nonneg p
  have ha1 := absV_lt (n := p) (Int.lt_trans (by decide) p2) (Int.lt_trans p3 (by decide))
  have hsg1 := sgV_len p
  have hdl := txt_len (k := 10) (by decide) ha0 ha1
  refine wpAny_call ?_
  k_dflt cell_enter
  (rename Fr _ _ _ _ => zF0); (refine fr_let zF0 ?_); clear zF0; intro m' zF1
  (refine env_let ?_); intro env' A'
  k_steps
  all_goals (
    first
    | (refine cb_retN (Q := Q) hret ?e0 ?eF ?eN; (case eF => k_asm); (case eN => first | k_asm | exact cb_drop (by assumption) (fun _ hp => .tail _ hp) | exact cb_drop (by assumption) (fun _ hp => .tail _ (.tail _ hp)) | exact cb_drop (by assumption) (fun _ hp => .tail _ (.tail _ (.tail _ hp)))); (case e0 => first | ((with_reducible refine' xn_1 ?zh0 ?zh1 ?zh2 ?zh3); (case zh3 => with_reducible assumption); (case zh2 => with_reducible assumption); (case zh1 => with_reducible assumption); (case zh0 => first | with_reducible assumption | omega)) | ((with_reducible refine' xn_2 ?zh0 ?zh1); (case zh1 => with_reducible assumption); (case zh0 => first | with_reducible assumption | omega)) | (simp (disch := omega) only [expoV, if_pos, if_neg]; done) | ((simp (disch := omega) only [expoV, if_pos, if_neg]); rfl) | (exfalso; omega)); skip)
    | (refine cb_retO (Q := Q) hr2 ?e0 ?eF ?eN; (case eF => k_asm); (case eN => first | k_asm | exact cb_drop (by assumption) (fun _ hp => .tail _ hp) | exact cb_drop (by assumption) (fun _ hp => .tail _ (.tail _ hp)) | exact cb_drop (by assumption) (fun _ hp => .tail _ (.tail _ (.tail _ hp)))); (case e0 => first | ((with_reducible refine' xn_1 ?zh0 ?zh1 ?zh2 ?zh3); (case zh3 => with_reducible assumption); (case zh2 => with_reducible assumption); (case zh1 => with_reducible assumption); (case zh0 => first | with_reducible assumption | omega)) | ((with_reducible refine' xn_2 ?zh0 ?zh1); (case zh1 => with_reducible assumption); (case zh0 => first | with_reducible assumption | omega)) | (simp (disch := omega) only [expoV, if_pos, if_neg]; done) | ((simp (disch := omega) only [expoV, if_pos, if_neg]); rfl) | (exfalso; omega)); skip))
end

section
open PySem PySem.W PyProof.Rows
set_option Elab.async false
set_option maxRecDepth 100000
set_option maxHeartbeats 8000000
theorem u_lpower_z {w : World} {mean : ExcName → Option Value} {mg mb : Str → Option Value} {dp un : Nat} {gd : Option (List Code)} {cn : Str} {cs : Scope} {a : Addr} {ccd : Value} {cl : List (Str × Addr)} {outer : List Env} {A₀ : Around} {base h₀ : Heap} {L : Addr} {m : Str → Option Value} {news : List (Addr × Obj)} {s : Shared} {Q E : Value → Shared → Prop} {l : Str} {t1 : Tok} {p : Int} {t2 : Tok} {z : Int} {t3 : Tok}
  (B : Below A₀ base outer h₀) (F : Fr h₀ L s.heap m) (X : (hd.heap_39 w.params).In h₀) (N : News h₀ L s.heap (news)) (T : Top hd.view_39 (looseW hd.view_39 []) mean mg mb h₀) (hk : cs.kind = .function) (hdp : dp + 2 < recursionLimit) (hun : un + 16 < cLine)
  (p1 : l.length = 1) (p2 : -900 < p) (p3 : p < 900) (p5 : 0 ≤ z) (p6 : z ≤ 3)
  (hret : ∀  (t : Tok) (h' : Heap) (tk' : Nat), expoV l p (some z) = none → Fr h₀ L h' m → News h₀ L h' (news) →  Q (.none) { s with heap := h', toks := tk' }) (hret2 : ∀ (x : Str) (t : Tok) (h' : Heap) (tk' : Nat), expoV l p (some z) = some x → Fr h₀ L h' m → News h₀ L h' (news) → x.length ≤ 8 → Q (.str x t) { s with heap := h', toks := tk' }) :
  wpAny (model Challenge.rw_no0228_01.row.prog w) (ktrTop dp un gd cn cs L a ccd cl outer) (call (.ref 179) [.str l t1, .int p t2, .int z t3]) Q E s := by
  k_with_none
  k_with_none
  (k_with "storeName" => (k_here; k_dflt (refine' store_let ?zsF ?zsN ?_ ?zsa ?zsb; (case zsF => k_asm); (case zsN => k_asm); (case zsa => first | rfl | assumption); (case zsb => rfl)); k_whole; intro m' h' F' N'; (try k_sweep)))
  (k_with "spliced" => (k_here; first | (with_reducible refine' args_n7 ?zaF ?za1 ?za2 ?za3 ?za4 ?za5 ?za6 ?za7 ?_ ?zak ?zax; (case zaF => k_dflt k_asm); (case za1 => with_unfolding_all rfl); (case za2 => with_unfolding_all rfl); (case za3 => with_unfolding_all rfl); (case za4 => with_unfolding_all rfl); (case za5 => with_unfolding_all rfl); (case za6 => with_unfolding_all rfl); (case za7 => with_unfolding_all rfl); (case zak => first | exact rfl | assumption); (case zax => with_unfolding_all rfl)) | (with_reducible refine' args_n6 ?zaF ?za1 ?za2 ?za3 ?za4 ?za5 ?za6 ?_ ?zak ?zax; (case zaF => k_dflt k_asm); (case za1 => with_unfolding_all rfl); (case za2 => with_unfolding_all rfl); (case za3 => with_unfolding_all rfl); (case za4 => with_unfolding_all rfl); (case za5 => with_unfolding_all rfl); (case za6 => with_unfolding_all rfl); (case zak => first | exact rfl | assumption); (case zax => with_unfolding_all rfl)) | (with_reducible refine' args_n5 ?zaF ?za1 ?za2 ?za3 ?za4 ?za5 ?_ ?zak ?zax; (case zaF => k_dflt k_asm); (case za1 => with_unfolding_all rfl); (case za2 => with_unfolding_all rfl); (case za3 => with_unfolding_all rfl); (case za4 => with_unfolding_all rfl); (case za5 => with_unfolding_all rfl); (case zak => first | exact rfl | assumption); (case zax => with_unfolding_all rfl)) | (with_reducible refine' args_n4 ?zaF ?za1 ?za2 ?za3 ?za4 ?_ ?zak ?zax; (case zaF => k_dflt k_asm); (case za1 => with_unfolding_all rfl); (case za2 => with_unfolding_all rfl); (case za3 => with_unfolding_all rfl); (case za4 => with_unfolding_all rfl); (case zak => first | exact rfl | assumption); (case zax => with_unfolding_all rfl)) | (with_reducible refine' args_n3 ?zaF ?za1 ?za2 ?za3 ?_ ?zak ?zax; (case zaF => k_dflt k_asm); (case za1 => with_unfolding_all rfl); (case za2 => with_unfolding_all rfl); (case za3 => with_unfolding_all rfl); (case zak => first | exact rfl | assumption); (case zax => with_unfolding_all rfl)) | (with_reducible refine' args_n2 ?zaF ?za1 ?za2 ?_ ?zak ?zax; (case zaF => k_dflt k_asm); (case za1 => with_unfolding_all rfl); (case za2 => with_unfolding_all rfl); (case zak => first | exact rfl | assumption); (case zax => with_unfolding_all rfl))))
  (k_with "binaryOp Add str str" => (k_here; (with_reducible show wpAny _ _ (binaryOp Operator.Add (Value.str _ _) (Value.str _ _)) _ _ _); (refine' add_let ?zax ?zay ?zas ?_; (case zax => first | ((with_reducible show (PySem.Txt.slice _ _ _).length ≤ _); with_reducible exact Nat.le_trans (PyProof.Txt.length_slice_le _ _ _) (by with_reducible assumption)) | with_reducible assumption | with_reducible exact Nat.le_of_eq (by with_reducible assumption) | exact Nat.le_of_eq (by kln_w) | ((with_reducible show (Txt.mul _ _).length ≤ _); exact mul0_le (by omega))); (case zay => first | ((with_reducible show (PySem.Txt.slice _ _ _).length ≤ _); with_reducible exact Nat.le_trans (PyProof.Txt.length_slice_le _ _ _) (by with_reducible assumption)) | with_reducible assumption | with_reducible exact Nat.le_of_eq (by with_reducible assumption) | exact Nat.le_of_eq (by kln_w) | ((with_reducible show (Txt.mul _ _).length ≤ _); exact mul0_le (by omega))); (case zas => decide)); intro r' t' k' hr' lr'; (try dsimp only)))
  (k_with "call builtin:abs" => (k_here; (with_reducible refine abs_line ?_); intro _ _))
  (k_with "eval IfExp" => (k_here; (fail_if_success (with_reducible show wpAny _ _ _ (JV _ _ _ _ _ _) _ _)); (with_reducible show wpAny _ _ (eval (PySem.Expr.IfExp _ (PySem.Expr.Constant (Const.str (Str.ofString "-")) _ _) _ _) _) _ _ _); k_dflt (refine' jv_str (sgV p) ?jF ?jN ?_ ?_; (case jF => k_asm); (case jN => k_asm)); skip; rotate_left 1; intros; skip; (try dsimp only); (try k_fold); rotate_right 1; walk_say "JOIN mark"))
  (k_with "JV" => (first | (refine' je_str ?jF ?jN ?jv; (case jF => k_dflt k_asm); (case jN => k_dflt k_asm); (case jv => k_dflt (first | ((simp (disch := first | with_reducible assumption | (refine not_t ?_; with_reducible assumption) | omega) only [sgV, if_pos, if_neg]); done) | ((simp (disch := first | with_reducible assumption | (refine not_t ?_; with_reducible assumption) | omega) only [sgV, if_pos, if_neg]); rfl) | rfl)))))
  revert X; k_fill; intro X
  obtain ⟨z0, z1, z2, z3, z4, z5⟩ := lens
  have hr2 := fun x t h' tk' e F N => hret2 x t h' tk' e F N (expoV_len p1 (by omega) (by omega) (fun k e => by cases e; exact ⟨p5, p6⟩) e)
  have ha0 := absV_nonneg p
  have ha1 := absV_lt (n := p) (Int.lt_trans (by decide) p2) (Int.lt_trans p3 (by decide))
  have hsg1 := sgV_len p
  have hdl := txt_len (k := 10) (by decide) ha0 ha1
  refine wpAny_call ?_
  k_dflt cell_enter
  (rename Fr _ _ _ _ => zF0); (refine fr_let zF0 ?_); clear zF0; intro m' zF1
  (refine env_let ?_); intro env' A'
  k_steps
  all_goals (
    first
    | (refine cb_retN (Q := Q) hret ?e0 ?eF ?eN; (case eF => k_asm); (case eN => first | k_asm | exact cb_drop (by assumption) (fun _ hp => .tail _ hp) | exact cb_drop (by assumption) (fun _ hp => .tail _ (.tail _ hp)) | exact cb_drop (by assumption) (fun _ hp => .tail _ (.tail _ (.tail _ hp)))); (case e0 => first | ((with_reducible refine' xz_1 ?zh0 ?zh1 ?zh2 ?zh3); (case zh3 => with_reducible assumption); (case zh2 => with_reducible assumption); (case zh1 => with_reducible assumption); (case zh0 => first | with_reducible assumption | omega)) | (simp (disch := omega) only [expoV, if_pos, if_neg]; done) | ((simp (disch := omega) only [expoV, if_pos, if_neg]); rfl) | (exfalso; omega)); skip)
    | (refine cb_retO (Q := Q) hr2 ?e0 ?eF ?eN; (case eF => k_asm); (case eN => first | k_asm | exact cb_drop (by assumption) (fun _ hp => .tail _ hp) | exact cb_drop (by assumption) (fun _ hp => .tail _ (.tail _ hp)) | exact cb_drop (by assumption) (fun _ hp => .tail _ (.tail _ (.tail _ hp)))); (case e0 => first | ((with_reducible refine' xz_1 ?zh0 ?zh1 ?zh2 ?zh3); (case zh3 => with_reducible assumption); (case zh2 => with_reducible assumption); (case zh1 => with_reducible assumption); (case zh0 => first | with_reducible assumption | omega)) | (simp (disch := omega) only [expoV, if_pos, if_neg]; done) | ((simp (disch := omega) only [expoV, if_pos, if_neg]); rfl) | (exfalso; omega)); skip))
end

section
open PySem PySem.W PyProof.Rows
set_option Elab.async false
set_option maxRecDepth 100000
set_option maxHeartbeats 8000000
theorem u_lpower {w : World} {mean : ExcName → Option Value} {mg mb : Str → Option Value} {dp un : Nat} {gd : Option (List Code)} {cn : Str} {cs : Scope} {a : Addr} {ccd : Value} {cl : List (Str × Addr)} {outer : List Env} {A₀ : Around} {base h₀ : Heap} {L : Addr} {m : Str → Option Value} {news : List (Addr × Obj)} {s : Shared} {Q E : Value → Shared → Prop} {l : Str} {t1 : Tok} {p : Int} {t2 : Tok} {sz : Value} {o : Option Int}
  (B : Below A₀ base outer h₀) (F : Fr h₀ L s.heap m) (X : (hd.heap_39 w.params).In h₀) (N : News h₀ L s.heap (news)) (T : Top hd.view_39 (looseW hd.view_39 []) mean mg mb h₀) (hk : cs.kind = .function) (hdp : dp + 2 < recursionLimit) (hun : un + 16 < cLine)
  (p1 : l.length = 1) (p2 : -900 < p) (p3 : p < 900) (hz : SzIs sz o)
  (hret : ∀  (t : Tok) (h' : Heap) (tk' : Nat), expoV l p o = none → Fr h₀ L h' m → News h₀ L h' (news) →  Q (.none) { s with heap := h', toks := tk' }) (hret2 : ∀ (x : Str) (t : Tok) (h' : Heap) (tk' : Nat), expoV l p o = some x → Fr h₀ L h' m → News h₀ L h' (news) → x.length ≤ 8 → Q (.str x t) { s with heap := h', toks := tk' }) :
  wpAny (model Challenge.rw_no0228_01.row.prog w) (ktrTop dp un gd cn cs L a ccd cl outer) (call (.ref 179) [.str l t1, .int p t2, sz]) Q E s := by
  k_with_none
  rcases hz with ⟨rfl, rfl⟩ | ⟨z, t, rfl, rfl, y1, y2⟩
  · exact u_lpower_n B F X N T hk hdp hun p1 p2 p3 hret hret2
  · exact u_lpower_z B F X N T hk hdp hun p1 p2 p3 (by omega) y2 hret hret2
end

section
open PySem PySem.W PyProof.Rows
set_option Elab.async false
set_option maxRecDepth 100000
set_option maxHeartbeats 8000000
theorem u_lexp {w : World} {mean : ExcName → Option Value} {mg mb : Str → Option Value} {dp un : Nat} {gd : Option (List Code)} {cn : Str} {cs : Scope} {a : Addr} {ccd : Value} {cl : List (Str × Addr)} {outer : List Env} {A₀ : Around} {base h₀ : Heap} {L : Addr} {m : Str → Option Value} {news : List (Addr × Obj)} {s : Shared} {Q E : Value → Shared → Prop} {l : Str} {t1 : Tok} {v : Addr} {i : Int} {u1 : Tok} {j : Int} {u2 : Tok} {wd : Int} {t2 : Tok} {pl : Int} {t3 : Tok} {sz : Value} {o : Option Int} {sc : Int} {t4 : Tok} {b : Bool}
  (B : Below A₀ base outer h₀) (F : Fr h₀ L s.heap m) (X : (hd.heap_39 w.params).In h₀) (N : News h₀ L s.heap (news)) (T : Top hd.view_39 (looseW hd.view_39 []) mean mg mb h₀) (hk : cs.kind = .function) (hdp : dp + 6 < recursionLimit) (hun : un + 48 < cLine)
  (hv : (v, ({ cls := .type "tuple", data := .seq #[.int i u1, .int j u2] } : Obj)) ∈ news) (q1 : -(10 ^ 10) < i) (q2 : i < 10 ^ 10) (q3 : -40 ≤ j) (q4 : j ≤ 40) (p1 : l.length = 1) (p5 : 0 ≤ wd) (p6 : wd ≤ 100) (p7 : 0 ≤ pl) (p8 : pl ≤ 20) (r1 : -pl < sc) (r2 : sc ≤ pl + 1) (hz : SzIs sz o)
  (hret : ∀ (y : Str) (t : Tok) (h' : Heap) (tk' : Nat), y = lexpV l i j wd pl o sc b → Fr h₀ L h' m → News h₀ L h' (news) →  Q (.str y t) { s with heap := h', toks := tk' }) :
  wpAny (model Challenge.rw_no0228_01.row.prog w) (ktrTop dp un gd cn cs L a ccd cl outer) (call (.ref 193) [.str l t1, .ref v, .int wd t2, .int pl t3, sz, .int sc t4, .bool b]) Q E s := by
  k_with_none
  k_with_none
  (k_with "storeName" => (k_here; k_dflt (refine' store_let ?zsF ?zsN ?_ ?zsa ?zsb; (case zsF => k_asm); (case zsN => k_asm); (case zsa => first | rfl | assumption); (case zsb => rfl)); k_whole; intro m' h' F' N'; (try k_sweep)))
  (k_with "spliced" => (k_here; first | (with_reducible refine' args_n7 ?zaF ?za1 ?za2 ?za3 ?za4 ?za5 ?za6 ?za7 ?_ ?zak ?zax; (case zaF => k_dflt k_asm); (case za1 => with_unfolding_all rfl); (case za2 => with_unfolding_all rfl); (case za3 => with_unfolding_all rfl); (case za4 => with_unfolding_all rfl); (case za5 => with_unfolding_all rfl); (case za6 => with_unfolding_all rfl); (case za7 => with_unfolding_all rfl); (case zak => first | exact rfl | assumption); (case zax => with_unfolding_all rfl)) | (with_reducible refine' args_n6 ?zaF ?za1 ?za2 ?za3 ?za4 ?za5 ?za6 ?_ ?zak ?zax; (case zaF => k_dflt k_asm); (case za1 => with_unfolding_all rfl); (case za2 => with_unfolding_all rfl); (case za3 => with_unfolding_all rfl); (case za4 => with_unfolding_all rfl); (case za5 => with_unfolding_all rfl); (case za6 => with_unfolding_all rfl); (case zak => first | exact rfl | assumption); (case zax => with_unfolding_all rfl)) | (with_reducible refine' args_n5 ?zaF ?za1 ?za2 ?za3 ?za4 ?za5 ?_ ?zak ?zax; (case zaF => k_dflt k_asm); (case za1 => with_unfolding_all rfl); (case za2 => with_unfolding_all rfl); (case za3 => with_unfolding_all rfl); (case za4 => with_unfolding_all rfl); (case za5 => with_unfolding_all rfl); (case zak => first | exact rfl | assumption); (case zax => with_unfolding_all rfl)) | (with_reducible refine' args_n4 ?zaF ?za1 ?za2 ?za3 ?za4 ?_ ?zak ?zax; (case zaF => k_dflt k_asm); (case za1 => with_unfolding_all rfl); (case za2 => with_unfolding_all rfl); (case za3 => with_unfolding_all rfl); (case za4 => with_unfolding_all rfl); (case zak => first | exact rfl | assumption); (case zax => with_unfolding_all rfl)) | (with_reducible refine' args_n3 ?zaF ?za1 ?za2 ?za3 ?_ ?zak ?zax; (case zaF => k_dflt k_asm); (case za1 => with_unfolding_all rfl); (case za2 => with_unfolding_all rfl); (case za3 => with_unfolding_all rfl); (case zak => first | exact rfl | assumption); (case zax => with_unfolding_all rfl)) | (with_reducible refine' args_n2 ?zaF ?za1 ?za2 ?_ ?zak ?zax; (case zaF => k_dflt k_asm); (case za1 => with_unfolding_all rfl); (case za2 => with_unfolding_all rfl); (case zak => first | exact rfl | assumption); (case zax => with_unfolding_all rfl))))
  (k_with "call ref" => (k_here; (with_reducible show wpAny _ _ (call (Value.ref 186) [Value.ref _, Value.int _ _]) _ _ _); k_dflt (refine' u_lleading ?k1 ?k2 ?k3 ?k4 ?k5 ?kK ?kd ?ku ?p0 ?p1 ?p2 ?p3 ?p4 ?p5 ?p6 ?_); (case k1 => k_asm); (case k2 => k_asm); (case k3 => k_asm); (case k4 => k_asm); (case k5 => k_asm); (case kK => first | exact rfl | assumption); (case kd => first | exact room hdp (by decide) | decide | ktr_room); (case ku => first | exact room hun (by decide) | decide | ktr_units); (case p0 => k_mem); (case p1 => first | assumption | omega | kt_fact); (case p2 => first | assumption | omega | kt_fact); (case p3 => first | assumption | omega | kt_fact); (case p4 => first | assumption | omega | kt_fact); (case p5 => first | assumption | omega | kt_fact); (case p6 => first | assumption | omega | kt_fact); (intro x' y' t1' t2' D' h' tk' hx' hy' F' N' hl' l0' l1' l2'); (try dsimp only); (try k_fold); walk_say "CONTRACT lleading"))
  (k_with "call ref" => (k_here; (with_reducible show wpAny _ _ (call (Value.ref 179) [Value.str _ _, Value.int _ _, _]) _ _ _); k_dflt (refine' u_lpower ?k1 ?k2 ?k3 ?k4 ?k5 ?kK ?kd ?ku ?p0 ?p1 ?p2 ?p3 ?_ ?_); (case k1 => k_asm); (case k2 => k_asm); (case k3 => k_asm); (case k4 => k_asm); (case k5 => k_asm); (case kK => first | exact rfl | assumption); (case kd => first | exact room hdp (by decide) | decide | ktr_room); (case ku => first | exact room hun (by decide) | decide | ktr_units); (case p0 => first | assumption | decide); (case p1 => first | assumption | omega | kt_fact); (case p2 => first | assumption | omega | kt_fact); (case p3 => first | exact szNone | with_reducible assumption); all_goals (intros; (try dsimp only); (try k_fold)); walk_say "CONTRACT lpower"))
  (k_with "call ref" => (k_here; (with_reducible show wpAny _ _ (call (Value.ref 165) [Value.bool _, Value.bool _]) _ _ _); k_dflt (refine' u_lsign ?k1 ?k2 ?k3 ?k4 ?k5 ?kK ?kd ?ku  ?_); (case k1 => k_asm); (case k2 => k_asm); (case k3 => k_asm); (case k4 => k_asm); (case k5 => k_asm); (case kK => first | exact rfl | assumption); (case kd => first | exact room hdp (by decide) | decide | ktr_room); (case ku => first | exact room hun (by decide) | decide | ktr_units); (intro sg' t' h' tk' hg' F' N' l0'); (try dsimp only); (try k_fold); walk_say "CONTRACT lsign"))
  (k_with "call ref" => (k_here; (with_reducible show wpAny _ _ (call (Value.ref 158) [Value.ref _, Value.int _ _]) _ _ _); k_dflt (refine' u_lfield1 ?k1 ?k2 ?k3 ?k4 ?k5 ?kK ?kd ?ku ?p0 ?p1 ?p2 ?_); (case k1 => k_asm); (case k2 => k_asm); (case k3 => k_asm); (case k4 => k_asm); (case k5 => k_asm); (case kK => first | exact rfl | assumption); (case kd => first | exact room hdp (by decide) | decide | ktr_room); (case ku => first | exact room hun (by decide) | decide | ktr_units); (case p0 => first | assumption | omega | kt_fact); (case p1 => first | assumption | omega | kt_fact); (case p2 => first | assumption | omega | kt_fact); all_goals (intros; (try dsimp only); (try k_fold)); walk_say "CONTRACT lfield1"))
  (k_with "call ref" => (k_here; (with_reducible show wpAny _ _ (call (Value.ref 158) [Value.ref _, Value.int _ _]) _ _ _); k_dflt (refine' u_lfield2 ?k1 ?k2 ?k3 ?k4 ?k5 ?kK ?kd ?ku ?p0 ?p1 ?p2 ?p3 ?_); (case k1 => k_asm); (case k2 => k_asm); (case k3 => k_asm); (case k4 => k_asm); (case k5 => k_asm); (case kK => first | exact rfl | assumption); (case kd => first | exact room hdp (by decide) | decide | ktr_room); (case ku => first | exact room hun (by decide) | decide | ktr_units); (case p0 => first | assumption | omega | kt_fact); (case p1 => first | assumption | omega | kt_fact); (case p2 => first | assumption | omega | kt_fact); (case p3 => first | assumption | omega | kt_fact); all_goals (intros; (try dsimp only); (try k_fold)); walk_say "CONTRACT lfield2"))
  (k_with "binaryOp Add str str" => (k_here; (with_reducible show wpAny _ _ (binaryOp Operator.Add (Value.str _ _) (Value.str _ _)) _ _ _); (refine' add_let ?zax ?zay ?zas ?_; (case zax => first | ((with_reducible show (PySem.Txt.slice _ _ _).length ≤ _); with_reducible exact Nat.le_trans (PyProof.Txt.length_slice_le _ _ _) (by with_reducible assumption)) | with_reducible assumption | with_reducible exact Nat.le_of_eq (by with_reducible assumption) | exact Nat.le_of_eq (by kln_w) | ((with_reducible show (Txt.mul _ _).length ≤ _); exact mul0_le (by omega))); (case zay => first | ((with_reducible show (PySem.Txt.slice _ _ _).length ≤ _); with_reducible exact Nat.le_trans (PyProof.Txt.length_slice_le _ _ _) (by with_reducible assumption)) | with_reducible assumption | with_reducible exact Nat.le_of_eq (by with_reducible assumption) | exact Nat.le_of_eq (by kln_w) | ((with_reducible show (Txt.mul _ _).length ≤ _); exact mul0_le (by omega))); (case zas => decide)); intro r' t' k' hr' lr'; (try dsimp only)))
  (k_with "eval IfExp" => (k_here; (fail_if_success (with_reducible show wpAny _ _ _ (JV _ _ _ _ _ _) _ _)); (with_reducible show wpAny _ _ (eval (PySem.Expr.IfExp _ (PySem.Expr.BinOp (PySem.Expr.Name (Str.ofString "places") _) _ _ _) _ _) _) _ _ _); k_dflt (refine' jv_int (lcountV pl sc) ?jF ?jN ?_ ?_; (case jF => k_asm); (case jN => k_asm)); skip; rotate_left 1; intros; skip; (try dsimp only); (try k_fold); rotate_right 1; walk_say "JOIN count"))
  (k_with "eval IfExp" => (k_here; (fail_if_success (with_reducible show wpAny _ _ _ (JV _ _ _ _ _ _) _ _)); (with_reducible show wpAny _ _ (eval (PySem.Expr.IfExp _ _ (PySem.Expr.Constant (Const.int 0) _ _) _) _) _ _ _); k_dflt (refine' jv_int (lpowV i j pl sc) ?jF ?jN ?_ ?_; (case jF => k_asm); (case jN => k_asm)); skip; rotate_left 1; intros; (have hpw' := hpw _ hy' (by assumption) (by assumption)); (obtain ⟨hpw0, hpw1⟩ := hpw'); (try dsimp only); (try k_fold); rotate_right 1; walk_say "JOIN power"))
  (k_with "JV" => (first | (refine' je_int ?jF ?jN ?jv; (case jF => k_dflt k_asm); (case jN => k_dflt k_asm); (case jv => k_dflt (first | exact lpow_n hy' (by with_reducible assumption) | exact lpow_y (by with_reducible assumption) | (first | ((simp (disch := first | with_reducible assumption | (refine not_t ?_; with_reducible assumption) | omega) only [lcountV, if_pos, if_neg]); done) | ((simp (disch := first | with_reducible assumption | (refine not_t ?_; with_reducible assumption) | omega) only [lcountV, if_pos, if_neg]); rfl) | rfl))))))
  revert X; k_fill; intro X
  obtain ⟨z0, z1, z2, z3, z4, z5⟩ := lens
  have hr2 := fun t h' tk' F N => hret _ t h' tk' rfl F N
  obtain ⟨hc0, hc1⟩ := lcountV_facts p7 p8 r1 r2
  have hpw := fun y hy h0 h1 => lpowV_facts (i := i) (j := j) (y := y) hy h0 h1 r1 r2 p8
  refine wpAny_call ?_
  k_dflt cell_enter
  (rename Fr _ _ _ _ => zF0); (refine fr_let zF0 ?_); clear zF0; intro m' zF1
  (refine env_let ?_); intro env' A'
  k_steps
  all_goals (
    first
    | (refine cb_retS (Q := Q) hr2 ?e0 ?eF ?eN; (case eF => k_asm); (case eN => first | k_asm | exact cb_drop (by assumption) (fun _ hp => .tail _ hp) | exact cb_drop (by assumption) (fun _ hp => .tail _ (.tail _ hp)) | exact cb_drop (by assumption) (fun _ hp => .tail _ (.tail _ (.tail _ hp)))); (case e0 => first | ((with_reducible refine' lexp_e0 ?zh0); (case zh0 => with_reducible assumption)) | ((with_reducible refine' lexp_e1 ?zh0 ?zh1 ?zh2 ?zh3 ?zh4 ?zh5 ?zh6 ?zh7 ?zh8); (case zh8 => with_reducible assumption); (case zh7 => with_reducible assumption); (case zh6 => with_reducible assumption); (case zh5 => with_reducible assumption); (case zh4 => with_reducible assumption); (case zh3 => first | with_reducible assumption | omega); (case zh2 => with_reducible assumption); (case zh1 => with_reducible assumption); (case zh0 => with_reducible assumption)) | ((with_reducible refine' lexp_e2 ?zh0 ?zh1 ?zh2 ?zh3 ?zh4 ?zh5 ?zh6 ?zh7 ?zh8 ?zh9 ?zh10); (case zh10 => with_reducible assumption); (case zh9 => with_reducible assumption); (case zh8 => with_reducible assumption); (case zh7 => with_reducible assumption); (case zh6 => with_reducible assumption); (case zh5 => with_reducible assumption); (case zh4 => with_reducible assumption); (case zh3 => first | with_reducible assumption | omega); (case zh2 => with_reducible assumption); (case zh1 => with_reducible assumption); (case zh0 => with_reducible assumption))); skip))
end

section
open PySem PySem.W PyProof.Rows
set_option Elab.async false
set_option maxRecDepth 100000
set_option maxHeartbeats 8000000
theorem u_lexp_no {w : World} {mean : ExcName → Option Value} {mg mb : Str → Option Value} {dp un : Nat} {gd : Option (List Code)} {cn : Str} {cs : Scope} {a : Addr} {ccd : Value} {cl : List (Str × Addr)} {outer : List Env} {A₀ : Around} {base h₀ : Heap} {L : Addr} {m : Str → Option Value} {news : List (Addr × Obj)} {s : Shared} {Q E : Value → Shared → Prop} {l : Str} {t1 : Tok} {v : Addr} {wd : Int} {t2 : Tok} {pl : Int} {t3 : Tok} {sz : Value} {sc : Int} {t4 : Tok} {b : Bool}
  (B : Below A₀ base outer h₀) (F : Fr h₀ L s.heap m) (X : (hd.heap_39 w.params).In h₀) (N : News h₀ L s.heap (news)) (T : Top hd.view_39 (looseW hd.view_39 []) mean mg mb h₀) (hk : cs.kind = .function) (hdp : dp + 2 < recursionLimit) (hun : un + 16 < cLine)
  (p7 : 0 ≤ pl) (p8 : pl ≤ 20) (r1 : -20 ≤ sc) (r2 : sc ≤ 20) (hb : sc ≤ -pl ∨ pl + 1 < sc)
  (hret : ∀  (t : Tok) (h' : Heap) (tk' : Nat),  Fr h₀ L h' m → News h₀ L h' (news) →  Q (.none) { s with heap := h', toks := tk' }) :
  wpAny (model Challenge.rw_no0228_01.row.prog w) (ktrTop dp un gd cn cs L a ccd cl outer) (call (.ref 193) [.str l t1, .ref v, .int wd t2, .int pl t3, sz, .int sc t4, .bool b]) Q E s := by
  k_with_none
  k_with_none
  (k_with "storeName" => (k_here; k_dflt (refine' store_let ?zsF ?zsN ?_ ?zsa ?zsb; (case zsF => k_asm); (case zsN => k_asm); (case zsa => first | rfl | assumption); (case zsb => rfl)); k_whole; intro m' h' F' N'; (try k_sweep)))
  (k_with "spliced" => (k_here; first | (with_reducible refine' args_n7 ?zaF ?za1 ?za2 ?za3 ?za4 ?za5 ?za6 ?za7 ?_ ?zak ?zax; (case zaF => k_dflt k_asm); (case za1 => with_unfolding_all rfl); (case za2 => with_unfolding_all rfl); (case za3 => with_unfolding_all rfl); (case za4 => with_unfolding_all rfl); (case za5 => with_unfolding_all rfl); (case za6 => with_unfolding_all rfl); (case za7 => with_unfolding_all rfl); (case zak => first | exact rfl | assumption); (case zax => with_unfolding_all rfl)) | (with_reducible refine' args_n6 ?zaF ?za1 ?za2 ?za3 ?za4 ?za5 ?za6 ?_ ?zak ?zax; (case zaF => k_dflt k_asm); (case za1 => with_unfolding_all rfl); (case za2 => with_unfolding_all rfl); (case za3 => with_unfolding_all rfl); (case za4 => with_unfolding_all rfl); (case za5 => with_unfolding_all rfl); (case za6 => with_unfolding_all rfl); (case zak => first | exact rfl | assumption); (case zax => with_unfolding_all rfl)) | (with_reducible refine' args_n5 ?zaF ?za1 ?za2 ?za3 ?za4 ?za5 ?_ ?zak ?zax; (case zaF => k_dflt k_asm); (case za1 => with_unfolding_all rfl); (case za2 => with_unfolding_all rfl); (case za3 => with_unfolding_all rfl); (case za4 => with_unfolding_all rfl); (case za5 => with_unfolding_all rfl); (case zak => first | exact rfl | assumption); (case zax => with_unfolding_all rfl)) | (with_reducible refine' args_n4 ?zaF ?za1 ?za2 ?za3 ?za4 ?_ ?zak ?zax; (case zaF => k_dflt k_asm); (case za1 => with_unfolding_all rfl); (case za2 => with_unfolding_all rfl); (case za3 => with_unfolding_all rfl); (case za4 => with_unfolding_all rfl); (case zak => first | exact rfl | assumption); (case zax => with_unfolding_all rfl)) | (with_reducible refine' args_n3 ?zaF ?za1 ?za2 ?za3 ?_ ?zak ?zax; (case zaF => k_dflt k_asm); (case za1 => with_unfolding_all rfl); (case za2 => with_unfolding_all rfl); (case za3 => with_unfolding_all rfl); (case zak => first | exact rfl | assumption); (case zax => with_unfolding_all rfl)) | (with_reducible refine' args_n2 ?zaF ?za1 ?za2 ?_ ?zak ?zax; (case zaF => k_dflt k_asm); (case za1 => with_unfolding_all rfl); (case za2 => with_unfolding_all rfl); (case zak => first | exact rfl | assumption); (case zax => with_unfolding_all rfl))))
  revert X; k_fill; intro X
  obtain ⟨z0, z1, z2, z3, z4, z5⟩ := lens
  refine wpAny_call ?_
  k_dflt cell_enter
  (rename Fr _ _ _ _ => zF0); (refine fr_let zF0 ?_); clear zF0; intro m' zF1
  (refine env_let ?_); intro env' A'
  k_steps
  all_goals (first | (refine cb_retN (P := True) (Q := Q) (fun t h' tk' _ F N => hret t h' tk' F N) trivial ?eF ?eN; (case eF => k_asm); (case eN => k_asm)))
end

section
open PySem PySem.W PyProof.Rows
set_option Elab.async false
set_option maxRecDepth 100000
set_option maxHeartbeats 8000000
theorem u_lx {w : World} {mean : ExcName → Option Value} {mg mb : Str → Option Value} {dp un : Nat} {gd : Option (List Code)} {cn : Str} {cs : Scope} {a : Addr} {ccd : Value} {cl : List (Str × Addr)} {outer : List Env} {A₀ : Around} {base h₀ : Heap} {L : Addr} {m : Str → Option Value} {news : List (Addr × Obj)} {s : Shared} {Q E : Value → Shared → Prop} {l : Str} {t1 : Tok} {v : Addr} {i : Int} {u1 : Tok} {j : Int} {u2 : Tok} {wd : Int} {t2 : Tok} {pl : Int} {t3 : Tok} {sz : Value} {o : Option Int} {sc : Int} {t4 : Tok} {b : Bool}
  (B : Below A₀ base outer h₀) (F : Fr h₀ L s.heap m) (X : (hd.heap_39 w.params).In h₀) (N : News h₀ L s.heap (news)) (T : Top hd.view_39 (looseW hd.view_39 []) mean mg mb h₀) (hk : cs.kind = .function) (hdp : dp + 7 < recursionLimit) (hun : un + 56 < cLine)
  (hv : (v, ({ cls := .type "tuple", data := .seq #[.int i u1, .int j u2] } : Obj)) ∈ news) (q1 : -(10 ^ 10) < i) (q2 : i < 10 ^ 10) (q3 : -40 ≤ j) (q4 : j ≤ 40) (p1 : l.length = 1) (p5 : 0 ≤ wd) (p6 : wd ≤ 100) (p7 : 0 ≤ pl) (p8 : pl ≤ 20) (s1 : -20 ≤ sc) (s2 : sc ≤ 20) (hz : SzIs sz o)
  (hret : ∀ (x : Value) (h' : Heap) (tk' : Nat), ExpIs l i j wd pl o sc b x → Fr h₀ L h' m → News h₀ L h' (news) → Q x { s with heap := h', toks := tk' }) :
  wpAny (model Challenge.rw_no0228_01.row.prog w) (ktrTop dp un gd cn cs L a ccd cl outer) (call (.ref 193) [.str l t1, .ref v, .int wd t2, .int pl t3, sz, .int sc t4, .bool b]) Q E s := by
  k_with_none
  by_cases hr : -pl < sc ∧ sc ≤ pl + 1
  · exact u_lexp B F X N T hk (Nat.lt_of_le_of_lt (by omega) hdp) (Nat.lt_of_le_of_lt (by omega) hun) hv q1 q2 q3 q4 p1 p5 p6 p7 p8 hr.1 hr.2 hz (fun y t h' tk' e F' N' => hret _ h' tk' (.inl ⟨hr.1, hr.2, t, by rw [e, exp_law p7 hr.1 hr.2]⟩) F' N')
  · have hb : sc ≤ -pl ∨ pl + 1 < sc := by omega
    exact u_lexp_no B F X N T hk (Nat.lt_of_le_of_lt (by omega) hdp) (Nat.lt_of_le_of_lt (by omega) hun) p7 p8 s1 s2 hb (fun t h' tk' F' N' => hret _ h' tk' (.inr ⟨hb, rfl⟩) F' N')
end

section
open PySem PySem.W PyProof.Rows
set_option Elab.async false
set_option maxRecDepth 100000
set_option maxHeartbeats 8000000
theorem u_wlx {w : World} {mean : ExcName → Option Value} {mg mb : Str → Option Value} {dp un : Nat} {gd : Option (List Code)} {cn : Str} {cs : Scope} {a : Addr} {ccd : Value} {cl : List (Str × Addr)} {outer : List Env} {A₀ : Around} {base h₀ : Heap} {L : Addr} {m : Str → Option Value} {news : List (Addr × Obj)} {s : Shared} {Q E : Value → Shared → Prop} {l : Str} {t1 : Tok} {v : Addr} {i : Int} {u1 : Tok} {j : Int} {u2 : Tok} {vw : Int} {t2 : Tok} {pl : Int} {t3 : Tok} {sz : Value} {o : Option Int} {vs : Int} {t4 : Tok} {b : Bool}
  (B : Below A₀ base outer h₀) (F : Fr h₀ L s.heap m) (X : (hd.heap_39 w.params).In h₀) (N : News h₀ L s.heap (news)) (T : Top hd.view_39 (looseW hd.view_39 []) mean mg mb h₀) (hk : cs.kind = .function) (hdp : dp + 7 < recursionLimit) (hun : un + 56 < cLine)
  (hv : (v, ({ cls := .type "tuple", data := .seq #[.int i u1, .int j u2] } : Obj)) ∈ news) (e0 : -(10 ^ 10) < i) (e1 : i < 10 ^ 10) (d0 : -14 ≤ j) (d1 : j ≤ 14) (a0 : 0 ≤ vw) (a1 : vw < 24) (b0 : 0 ≤ pl) (b1 : pl < 10) (c0 : 0 ≤ vs) (c1 : vs < 25) (p1 : l.length = 1) (hz : SzIs sz o)
  (hret : ∀ (x : Value) (h' : Heap) (tk' : Nat), ExpIs l i j (1 + vw) pl o (vs - 12) b x → Fr h₀ L h' m → News h₀ L h' (news) → Q x { s with heap := h', toks := tk' }) :
  wpAny (model Challenge.rw_no0228_01.row.prog w) (ktrTop dp un gd cn cs L a ccd cl outer) (call (.ref 193) [.str l t1, .ref v, .int (1 + vw) t2, .int pl t3, sz, .int (vs - 12) t4, .bool b]) Q E s := by
  k_with_none
  exact u_lx B F X N T hk hdp hun hv e0 e1 (by omega) (by omega) p1 (by omega) (by omega) b0 (by omega) (by omega) (by omega) hz hret
end

section
open PySem PySem.W PyProof.Rows
set_option Elab.async false
set_option maxRecDepth 100000
set_option maxHeartbeats 8000000
theorem u_lg {w : World} {mean : ExcName → Option Value} {mg mb : Str → Option Value} {dp un : Nat} {gd : Option (List Code)} {cn : Str} {cs : Scope} {a : Addr} {ccd : Value} {cl : List (Str × Addr)} {outer : List Env} {A₀ : Around} {base h₀ : Heap} {L : Addr} {m : Str → Option Value} {news : List (Addr × Obj)} {s : Shared} {Q E : Value → Shared → Prop} {v : Addr} {i : Int} {u1 : Tok} {j : Int} {u2 : Tok} {wd : Int} {t2 : Tok} {pl : Int} {t3 : Tok} {sz : Value} {o : Option Int} {sc : Int} {t4 : Tok} {b : Bool}
  (B : Below A₀ base outer h₀) (F : Fr h₀ L s.heap m) (X : (hd.heap_39 w.params).In h₀) (N : News h₀ L s.heap (news)) (T : Top hd.view_39 (looseW hd.view_39 []) mean mg mb h₀) (hk : cs.kind = .function) (hdp : dp + 9 < recursionLimit) (hun : un + 72 < cLine)
  (hv : (v, ({ cls := .type "tuple", data := .seq #[.int i u1, .int j u2] } : Obj)) ∈ news) (q1 : -(10 ^ 10) < i) (q2 : i < 10 ^ 10) (q3 : -40 ≤ j) (q4 : j ≤ 40) (p5 : 0 ≤ wd) (p6 : wd ≤ 100) (p7 : 0 ≤ pl) (p8 : pl ≤ 20) (s1 : -20 ≤ sc) (s2 : sc ≤ 20) (hz : SzIs sz o)
  (hret : ∀ (x : Value) (h' : Heap) (tk' : Nat), GenIs i j wd pl o sc b x → Fr h₀ L h' m → News h₀ L h' (news) → Q x { s with heap := h', toks := tk' }) :
  wpAny (model Challenge.rw_no0228_01.row.prog w) (ktrTop dp un gd cn cs L a ccd cl outer) (call (.ref 200) [.ref v, .int wd t2, .int pl t3, sz, .int sc t4, .bool b]) Q E s := by
  k_with_none
  k_with_none
  (k_with "storeName" => (k_here; k_dflt (refine' store_let ?zsF ?zsN ?_ ?zsa ?zsb; (case zsF => k_asm); (case zsN => k_asm); (case zsa => first | rfl | assumption); (case zsb => rfl)); k_whole; intro m' h' F' N'; (try k_sweep)))
  (k_with "spliced" => (k_here; first | (with_reducible refine' args_n7 ?zaF ?za1 ?za2 ?za3 ?za4 ?za5 ?za6 ?za7 ?_ ?zak ?zax; (case zaF => k_dflt k_asm); (case za1 => with_unfolding_all rfl); (case za2 => with_unfolding_all rfl); (case za3 => with_unfolding_all rfl); (case za4 => with_unfolding_all rfl); (case za5 => with_unfolding_all rfl); (case za6 => with_unfolding_all rfl); (case za7 => with_unfolding_all rfl); (case zak => first | exact rfl | assumption); (case zax => with_unfolding_all rfl)) | (with_reducible refine' args_n6 ?zaF ?za1 ?za2 ?za3 ?za4 ?za5 ?za6 ?_ ?zak ?zax; (case zaF => k_dflt k_asm); (case za1 => with_unfolding_all rfl); (case za2 => with_unfolding_all rfl); (case za3 => with_unfolding_all rfl); (case za4 => with_unfolding_all rfl); (case za5 => with_unfolding_all rfl); (case za6 => with_unfolding_all rfl); (case zak => first | exact rfl | assumption); (case zax => with_unfolding_all rfl)) | (with_reducible refine' args_n5 ?zaF ?za1 ?za2 ?za3 ?za4 ?za5 ?_ ?zak ?zax; (case zaF => k_dflt k_asm); (case za1 => with_unfolding_all rfl); (case za2 => with_unfolding_all rfl); (case za3 => with_unfolding_all rfl); (case za4 => with_unfolding_all rfl); (case za5 => with_unfolding_all rfl); (case zak => first | exact rfl | assumption); (case zax => with_unfolding_all rfl)) | (with_reducible refine' args_n4 ?zaF ?za1 ?za2 ?za3 ?za4 ?_ ?zak ?zax; (case zaF => k_dflt k_asm); (case za1 => with_unfolding_all rfl); (case za2 => with_unfolding_all rfl); (case za3 => with_unfolding_all rfl); (case za4 => with_unfolding_all rfl); (case zak => first | exact rfl | assumption); (case zax => with_unfolding_all rfl)) | (with_reducible refine' args_n3 ?zaF ?za1 ?za2 ?za3 ?_ ?zak ?zax; (case zaF => k_dflt k_asm); (case za1 => with_unfolding_all rfl); (case za2 => with_unfolding_all rfl); (case za3 => with_unfolding_all rfl); (case zak => first | exact rfl | assumption); (case zax => with_unfolding_all rfl)) | (with_reducible refine' args_n2 ?zaF ?za1 ?za2 ?_ ?zak ?zax; (case zaF => k_dflt k_asm); (case za1 => with_unfolding_all rfl); (case za2 => with_unfolding_all rfl); (case zak => first | exact rfl | assumption); (case zax => with_unfolding_all rfl))))
  (k_with "call ref" => (k_here; (with_reducible show wpAny _ _ (call (Value.ref 144) [Value.int _ _, Value.int _ _]) _ _ _); k_dflt (refine' u_spread ?k1 ?k2 ?k3 ?k4 ?k5 ?kK ?kd ?ku ?p0 ?p1 ?p2 ?p3 ?_); (case k1 => k_asm); (case k2 => k_asm); (case k3 => k_asm); (case k4 => k_asm); (case k5 => k_asm); (case kK => first | exact rfl | assumption); (case kd => first | exact room hdp (by decide) | decide | ktr_room); (case ku => first | exact room hun (by decide) | decide | ktr_units); (case p0 => first | assumption | omega | kt_fact); (case p1 => first | assumption | omega | kt_fact); (case p2 => first | assumption | omega | kt_fact); (case p3 => first | assumption | omega | kt_fact); (intro x' y' t1' t2' D' h' tk' hx' hy' F' N' hl' l0' l1' l2' l3'); (try dsimp only); (try k_fold); walk_say "CONTRACT spread"))
  (k_with "call ref" => (k_here; (with_reducible show wpAny _ _ (call (Value.ref 193) [Value.str _ _, Value.ref _, Value.int _ _, Value.int _ _, _, Value.int _ _, Value.bool _]) _ _ _); k_dflt (refine' u_lx ?k1 ?k2 ?k3 ?k4 ?k5 ?kK ?kd ?ku ?p0 ?p1 ?p2 ?p3 ?p4 ?p5 ?p6 ?p7 ?p8 ?p9 ?p10 ?p11 ?p12 ?_); (case k1 => k_asm); (case k2 => k_asm); (case k3 => k_asm); (case k4 => k_asm); (case k5 => k_asm); (case kK => first | exact rfl | assumption); (case kd => first | exact room hdp (by decide) | decide | ktr_room); (case ku => first | exact room hun (by decide) | decide | ktr_units); (case p0 => k_mem); (case p1 => first | omega | (refine' edge_b1 ?zqea ?zqeb ?zqec ?zqed; (case zqea => with_reducible assumption); (case zqeb => with_reducible assumption); (case zqec => with_reducible assumption); (case zqed => with_reducible assumption))); (case p2 => first | omega | (refine' edge_b2 ?zqea ?zqeb ?zqec ?zqed; (case zqea => with_reducible assumption); (case zqeb => with_reducible assumption); (case zqec => with_reducible assumption); (case zqed => with_reducible assumption))); (case p3 => first | assumption | omega | kt_fact); (case p4 => first | assumption | omega | kt_fact); (case p5 => first | assumption | decide | with_unfolding_all rfl); (case p6 => first | assumption | omega | kt_fact); (case p7 => first | assumption | omega | kt_fact); (case p8 => first | assumption | omega | kt_fact); (case p9 => first | assumption | omega | kt_fact); (case p10 => first | assumption | omega | kt_fact); (case p11 => first | assumption | omega | kt_fact); (case p12 => first | exact szNone | with_reducible assumption); (intro xv' h' tk' hx1' F' N'); (try dsimp only); (try k_fold); walk_say "CONTRACT lx"))
  (k_with "call ref" => (k_here; (with_reducible show wpAny _ _ (call (Value.ref 172) [Value.ref _, Value.int _ _, Value.int _ _, Value.bool _]) _ _ _); k_dflt (refine' u_lfixed ?k1 ?k2 ?k3 ?k4 ?k5 ?kK ?kd ?ku ?p0 ?p1 ?p2 ?p3 ?p4 ?p5 ?p6 ?p7 ?p8 ?_); (case k1 => k_asm); (case k2 => k_asm); (case k3 => k_asm); (case k4 => k_asm); (case k5 => k_asm); (case kK => first | exact rfl | assumption); (case kd => first | exact room hdp (by decide) | decide | ktr_room); (case ku => first | exact room hun (by decide) | decide | ktr_units); (case p0 => k_mem); (case p1 => first | assumption | omega | kt_fact); (case p2 => first | assumption | omega | kt_fact); (case p3 => first | assumption | omega | kt_fact); (case p4 => first | assumption | omega | kt_fact); (case p5 => first | assumption | omega | kt_fact); (case p6 => first | assumption | omega | kt_fact); (case p7 => first | assumption | omega | kt_fact); (case p8 => first | assumption | omega | kt_fact); all_goals (intros; (try dsimp only); (try k_fold)); walk_say "CONTRACT lfixed"))
  (k_with "call builtin:abs" => (k_here; (with_reducible refine abs_line ?_); intro _ _))
  (k_with "isTrue BoolOp" => (k_here; (fail_if_success (with_reducible show wpAny _ _ _ (JV _ _ _ _ _ _) _ _)); (with_reducible show wpAny _ _ (isTrue (PySem.Expr.BoolOp PySem.BoolOp.Or _ _) _ _) _ _ _); k_dflt (refine' jv_test (lgenB i j pl) ?jF ?jN ?_ ?_ ?_; (case jF => k_asm); (case jN => k_asm)); rotate_left; (intros; (try dsimp only); (try k_fold)); rotate_left; (intros; (have hlen' := lg_len hx' (by assumption)); (try dsimp only); (try k_fold)); rotate_left; walk_say "JOIN test"))
  (k_with "eval IfExp" => (k_here; (fail_if_success (with_reducible show wpAny _ _ _ (JV _ _ _ _ _ _) _ _)); (with_reducible show wpAny _ _ (eval (PySem.Expr.IfExp _ (PySem.Expr.Constant (Const.int 4) _ _) _ _) _) _ _ _); k_dflt (refine' jv_int (blanks o) ?jF ?jN ?_ ?_; (case jF => k_asm); (case jN => k_asm)); k_dflt (rcases hz with ⟨rfl, rfl⟩ | ⟨z, t, rfl, rfl, y1, y2⟩); rotate_left 2; intros; skip; (try dsimp only); (try k_fold); rotate_right 2; walk_say "JOIN blanks"))
  (k_with "JV" => (first | (k_dflt (refine' je_test ?jF ?jN ?jv; (case jF => k_asm); (case jN => first | k_asm | exact cb_drop (by assumption) (fun _ hp => .tail _ hp)); (case jv => first | ((with_reducible refine' lg_t1 ?zh0 ?zh1); (case zh1 => with_reducible assumption); (case zh0 => with_reducible assumption)) | ((with_reducible refine' lg_t2 ?zh0 ?zh1 ?zh2); (case zh2 => with_reducible assumption); (case zh1 => with_reducible assumption); (case zh0 => with_reducible assumption)) | ((with_reducible refine' lg_t4 ?zh0 ?zh1 ?zh2 ?zh3); (case zh3 => with_reducible assumption); (case zh2 => with_reducible assumption); (case zh1 => with_reducible assumption); (case zh0 => with_reducible assumption)) | ((with_reducible refine' lg_t5 ?zh0 ?zh1 ?zh2 ?zh3); (case zh3 => with_reducible assumption); (case zh2 => with_reducible assumption); (case zh1 => with_reducible assumption); (case zh0 => with_reducible assumption))))) | (k_dflt (refine' je_int ?jF ?jN ?jv; (case jF => k_asm); (case jN => k_asm); (case jv => exact rfl)))))
  revert X; k_fill; intro X
  obtain ⟨z0, z1, z2, z3, z4, z5⟩ := lens
  have ha0 := absV_nonneg i
  have ha1 := absV_lt q1 q2
  obtain ⟨hb0, hb1⟩ := blanks_facts hz
  refine wpAny_call ?_
  k_dflt cell_enter
  (rename Fr _ _ _ _ => zF0); (refine fr_let zF0 ?_); clear zF0; intro m' zF1
  (refine env_let ?_); intro env' A'
  k_steps
  all_goals (first
    | (refine' hret _ _ _ (lg_x (by with_reducible assumption) p7 (by with_reducible assumption)) ?eF ?eN; (case eF => k_asm); (case eN => first | k_asm | exact cb_drop (by assumption) (fun _ hp => .tail _ hp) | exact cb_drop (by assumption) (fun _ hp => .tail _ (.tail _ hp))))
    | (refine' hret _ _ _ (lg_f (by with_reducible assumption) p7 ?e0) ?eF ?eN; (case eF => k_asm); (case eN => first | k_asm | exact cb_drop (by assumption) (fun _ hp => .tail _ hp) | exact cb_drop (by assumption) (fun _ hp => .tail _ (.tail _ hp))); (case e0 => first | ((with_reducible refine' lgfx1 ?zh0 ?zh1 ?zh2); (case zh2 => with_reducible assumption); (case zh1 => with_reducible assumption); (case zh0 => with_reducible assumption)) | ((with_reducible refine' lgfx2 ?zh0 ?zh1 ?zh2); (case zh2 => with_reducible assumption); (case zh1 => with_reducible assumption); (case zh0 => with_reducible assumption)) | ((with_reducible refine' lgfx3 ?zh0); (case zh0 => with_reducible assumption)))))
end

section
open PySem PySem.W PyProof.Rows
set_option Elab.async false
set_option maxRecDepth 100000
set_option maxHeartbeats 8000000
theorem u_wlg {w : World} {mean : ExcName → Option Value} {mg mb : Str → Option Value} {dp un : Nat} {gd : Option (List Code)} {cn : Str} {cs : Scope} {a : Addr} {ccd : Value} {cl : List (Str × Addr)} {outer : List Env} {A₀ : Around} {base h₀ : Heap} {L : Addr} {m : Str → Option Value} {news : List (Addr × Obj)} {s : Shared} {Q E : Value → Shared → Prop} {v : Addr} {i : Int} {u1 : Tok} {j : Int} {u2 : Tok} {vw : Int} {t2 : Tok} {pl : Int} {t3 : Tok} {sz : Value} {o : Option Int} {vs : Int} {t4 : Tok} {b : Bool}
  (B : Below A₀ base outer h₀) (F : Fr h₀ L s.heap m) (X : (hd.heap_39 w.params).In h₀) (N : News h₀ L s.heap (news)) (T : Top hd.view_39 (looseW hd.view_39 []) mean mg mb h₀) (hk : cs.kind = .function) (hdp : dp + 9 < recursionLimit) (hun : un + 72 < cLine)
  (hv : (v, ({ cls := .type "tuple", data := .seq #[.int i u1, .int j u2] } : Obj)) ∈ news) (e0 : -(10 ^ 10) < i) (e1 : i < 10 ^ 10) (d0 : -14 ≤ j) (d1 : j ≤ 14) (a0 : 0 ≤ vw) (a1 : vw < 24) (b0 : 0 ≤ pl) (b1 : pl < 10) (c0 : 0 ≤ vs) (c1 : vs < 25) (hz : SzIs sz o)
  (hret : ∀ (x : Value) (h' : Heap) (tk' : Nat), GenIs i j (1 + vw) pl o (vs - 12) b x → Fr h₀ L h' m → News h₀ L h' (news) → Q x { s with heap := h', toks := tk' }) :
  wpAny (model Challenge.rw_no0228_01.row.prog w) (ktrTop dp un gd cn cs L a ccd cl outer) (call (.ref 200) [.ref v, .int (1 + vw) t2, .int pl t3, sz, .int (vs - 12) t4, .bool b]) Q E s := by
  k_with_none
  exact u_lg B F X N T hk hdp hun hv e0 e1 (by omega) (by omega) (by omega) (by omega) b0 (by omega) (by omega) (by omega) hz hret
end

section
open PySem PySem.W PyProof.Rows
set_option Elab.async false
set_option maxRecDepth 100000
set_option maxHeartbeats 8000000
theorem tst : PySem.Challenge.rw_no0228_01.Holds := hd (by
  k_with_none
  (k_with "execs cons" => (refine wpAny_execs_cons ?_; k_fold))
  (k_with "storeName" => (k_here; k_dflt (refine' store_let ?zsF ?zsN ?_ ?zsa ?zsb; (case zsF => k_asm); (case zsN => k_asm); (case zsa => first | rfl | assumption); (case zsb => rfl)); k_whole; intro m' h' F' N'; (try k_sweep)))
  (k_with "spliced" => (k_here; first | (with_reducible refine' args_n7 ?zaF ?za1 ?za2 ?za3 ?za4 ?za5 ?za6 ?za7 ?_ ?zak ?zax; (case zaF => k_dflt k_asm); (case za1 => with_unfolding_all rfl); (case za2 => with_unfolding_all rfl); (case za3 => with_unfolding_all rfl); (case za4 => with_unfolding_all rfl); (case za5 => with_unfolding_all rfl); (case za6 => with_unfolding_all rfl); (case za7 => with_unfolding_all rfl); (case zak => first | exact rfl | assumption); (case zax => with_unfolding_all rfl)) | (with_reducible refine' args_n6 ?zaF ?za1 ?za2 ?za3 ?za4 ?za5 ?za6 ?_ ?zak ?zax; (case zaF => k_dflt k_asm); (case za1 => with_unfolding_all rfl); (case za2 => with_unfolding_all rfl); (case za3 => with_unfolding_all rfl); (case za4 => with_unfolding_all rfl); (case za5 => with_unfolding_all rfl); (case za6 => with_unfolding_all rfl); (case zak => first | exact rfl | assumption); (case zax => with_unfolding_all rfl)) | (with_reducible refine' args_n5 ?zaF ?za1 ?za2 ?za3 ?za4 ?za5 ?_ ?zak ?zax; (case zaF => k_dflt k_asm); (case za1 => with_unfolding_all rfl); (case za2 => with_unfolding_all rfl); (case za3 => with_unfolding_all rfl); (case za4 => with_unfolding_all rfl); (case za5 => with_unfolding_all rfl); (case zak => first | exact rfl | assumption); (case zax => with_unfolding_all rfl)) | (with_reducible refine' args_n4 ?zaF ?za1 ?za2 ?za3 ?za4 ?_ ?zak ?zax; (case zaF => k_dflt k_asm); (case za1 => with_unfolding_all rfl); (case za2 => with_unfolding_all rfl); (case za3 => with_unfolding_all rfl); (case za4 => with_unfolding_all rfl); (case zak => first | exact rfl | assumption); (case zax => with_unfolding_all rfl)) | (with_reducible refine' args_n3 ?zaF ?za1 ?za2 ?za3 ?_ ?zak ?zax; (case zaF => k_dflt k_asm); (case za1 => with_unfolding_all rfl); (case za2 => with_unfolding_all rfl); (case za3 => with_unfolding_all rfl); (case zak => first | exact rfl | assumption); (case zax => with_unfolding_all rfl)) | (with_reducible refine' args_n2 ?zaF ?za1 ?za2 ?_ ?zak ?zax; (case zaF => k_dflt k_asm); (case za1 => with_unfolding_all rfl); (case za2 => with_unfolding_all rfl); (case zak => first | exact rfl | assumption); (case zax => with_unfolding_all rfl))))
  (k_with "call ref" => (k_here; (with_reducible show wpAny _ _ (call (Value.ref 130) [Value.ref _, Value.int _ _]) _ _ _); k_dflt (refine' u_draw ?k1 ?k2 ?k3 ?k4 ?k5 ?kK ?kd ?ku ?p0 ?p1 ?p2 ?p3 ?p4 ?p5 ?p6 ?p7 ?_); (case k1 => k_dflt (k_asm)); (case k2 => k_dflt (k_asm)); (case k3 => k_dflt (k_asm)); (case k4 => first | k_asm | (refine' news_rot ?nr; (case nr => k_asm))); (case k5 => k_dflt (k_asm)); (case kK => first | exact rfl | assumption); (case kd => first | exact room hdp (by decide) | decide | ktr_room); (case ku => first | exact room hun (by decide) | decide | ktr_units); (case p0 => k_dflt (k_all)); (case p1 => k_dflt (first | assumption | omega | kt_fact)); (case p2 => k_dflt (with_reducible assumption)); (case p3 => k_dflt (first | with_reducible assumption | omega)); (case p4 => k_dflt (first | with_reducible assumption | decide | omega)); (case p5 => k_dflt (first | with_reducible assumption | decide | omega)); (case p6 => k_dflt (first | with_reducible assumption | decide | omega)); (case p7 => k_dflt (first | with_reducible assumption | decide | omega)); all_goals (intros; (try dsimp only); (try k_fold)); walk_say "CONTRACT draw"))
  (k_with "call ref" => (k_here; (with_reducible show wpAny _ _ (call (Value.ref 137) [Value.ref _]) _ _ _); k_dflt (refine' u_real ?k1 ?k2 ?k3 ?k4 ?k5 ?kK ?kd ?ku ?p0 ?p1 ?p2 ?p3 ?p4 ?p5 ?_); (case k1 => k_dflt (k_asm)); (case k2 => k_dflt (k_asm)); (case k3 => k_dflt (k_asm)); (case k4 => k_dflt (k_asm)); (case k5 => k_dflt (k_asm)); (case kK => first | exact rfl | assumption); (case kd => first | exact room hdp (by decide) | decide | ktr_room); (case ku => first | exact room hun (by decide) | decide | ktr_units); (case p0 => k_dflt (k_all)); (case p1 => k_dflt (first | assumption | omega | kt_fact)); (case p2 => k_dflt (with_reducible assumption)); (case p3 => k_dflt (first | with_reducible assumption | omega)); (case p4 => k_dflt (first | with_reducible assumption | decide | omega)); (case p5 => k_dflt (first | with_reducible assumption | decide | omega)); all_goals (intros; (try dsimp only); (try k_fold)); walk_say "CONTRACT real"))
  (k_with "call ref" => (k_here; (with_reducible show wpAny _ _ (call (Value.ref 88) [Value.ref _, Value.int _ _, Value.int _ _, Value.int _ _, Value.bool _]) _ _ _); k_dflt (refine' u_wef ?k1 ?k2 ?k3 ?k4 ?k5 ?kK ?kd ?ku ?p0 ?p1 ?p2 ?p3 ?p4 ?p5 ?p6 ?p7 ?p8 ?p9 ?p10 ?_); (case k1 => k_dflt (k_asm)); (case k2 => k_dflt (k_asm)); (case k3 => k_dflt (k_asm)); (case k4 => k_dflt (k_asm)); (case k5 => k_dflt (k_asm)); (case kK => first | exact rfl | assumption); (case kd => first | exact room hdp (by decide) | decide | ktr_room); (case ku => first | exact room hun (by decide) | decide | ktr_units); (case p0 => k_dflt (k_mem)); (case p1 => k_dflt (with_reducible assumption)); (case p2 => k_dflt (with_reducible assumption)); (case p3 => k_dflt (with_reducible assumption)); (case p4 => k_dflt (with_reducible assumption)); (case p5 => k_dflt (with_reducible assumption)); (case p6 => k_dflt (with_reducible assumption)); (case p7 => k_dflt (with_reducible assumption)); (case p8 => k_dflt (with_reducible assumption)); (case p9 => k_dflt (with_reducible assumption)); (case p10 => k_dflt (with_reducible assumption)); all_goals (intros; (try dsimp only); (try k_fold)); walk_say "CONTRACT wef"))
  (k_with "call ref" => (k_here; (with_reducible show wpAny _ _ (call (Value.ref 172) [Value.ref _, Value.int _ _, Value.int _ _, Value.bool _]) _ _ _); k_dflt (refine' u_wlf ?k1 ?k2 ?k3 ?k4 ?k5 ?kK ?kd ?ku ?p0 ?p1 ?p2 ?p3 ?p4 ?p5 ?p6 ?p7 ?p8 ?p9 ?p10 ?_); (case k1 => k_dflt (k_asm)); (case k2 => k_dflt (k_asm)); (case k3 => k_dflt (k_asm)); (case k4 => k_dflt (k_asm)); (case k5 => k_dflt (k_asm)); (case kK => first | exact rfl | assumption); (case kd => first | exact room hdp (by decide) | decide | ktr_room); (case ku => first | exact room hun (by decide) | decide | ktr_units); (case p0 => k_dflt (k_mem)); (case p1 => k_dflt (with_reducible assumption)); (case p2 => k_dflt (with_reducible assumption)); (case p3 => k_dflt (with_reducible assumption)); (case p4 => k_dflt (with_reducible assumption)); (case p5 => k_dflt (with_reducible assumption)); (case p6 => k_dflt (with_reducible assumption)); (case p7 => k_dflt (with_reducible assumption)); (case p8 => k_dflt (with_reducible assumption)); (case p9 => k_dflt (with_reducible assumption)); (case p10 => k_dflt (with_reducible assumption)); all_goals (intros; (try dsimp only); (try k_fold)); walk_say "CONTRACT wlf"))
  (k_with "call ref" => (k_here; (with_reducible show wpAny _ _ (call (Value.ref 207) [Value.str _ _, Value.ref _, Value.int _ _, Value.int _ _, _, Value.int _ _, Value.bool _]) _ _ _); k_dflt (refine' u_whx ?k1 ?k2 ?k3 ?k4 ?k5 ?kK ?kd ?ku ?p0 ?p1 ?p2 ?p3 ?p4 ?p5 ?p6 ?p7 ?p8 ?p9 ?p10 ?p11 ?p12 ?p13 ?_); (case k1 => k_dflt (k_asm)); (case k2 => k_dflt (k_asm)); (case k3 => k_dflt (k_asm)); (case k4 => k_dflt (k_asm)); (case k5 => k_dflt (k_asm)); (case kK => first | exact rfl | assumption); (case kd => first | exact room hdp (by decide) | decide | ktr_room); (case ku => first | exact room hun (by decide) | decide | ktr_units); (case p0 => k_dflt (k_mem)); (case p1 => k_dflt (with_reducible assumption)); (case p2 => k_dflt (with_reducible assumption)); (case p3 => k_dflt (with_reducible assumption)); (case p4 => k_dflt (with_reducible assumption)); (case p5 => k_dflt (with_reducible assumption)); (case p6 => k_dflt (with_reducible assumption)); (case p7 => k_dflt (with_reducible assumption)); (case p8 => k_dflt (with_reducible assumption)); (case p9 => k_dflt (with_reducible assumption)); (case p10 => k_dflt (with_reducible assumption)); (case p11 => k_dflt (with_unfolding_all rfl)); (case p12 => k_dflt (decide)); (case p13 => k_dflt (first | exact szNone | with_reducible assumption)); all_goals (intros; (try dsimp only); (try k_fold)); walk_say "CONTRACT whx"))
  (k_with "call ref" => (k_here; (with_reducible show wpAny _ _ (call (Value.ref 207) [Value.str (Str.ofString "G") _, Value.ref _, Value.int _ _, Value.int _ _, _, Value.int _ _, Value.bool _]) _ _ _); k_dflt (refine' u_whg ?k1 ?k2 ?k3 ?k4 ?k5 ?kK ?kd ?ku ?p0 ?p1 ?p2 ?p3 ?p4 ?p5 ?p6 ?p7 ?p8 ?p9 ?p10 ?p11 ?_); (case k1 => k_dflt (k_asm)); (case k2 => k_dflt (k_asm)); (case k3 => k_dflt (k_asm)); (case k4 => k_dflt (k_asm)); (case k5 => k_dflt (k_asm)); (case kK => first | exact rfl | assumption); (case kd => first | exact room hdp (by decide) | decide | ktr_room); (case ku => first | exact room hun (by decide) | decide | ktr_units); (case p0 => k_dflt (k_mem)); (case p1 => k_dflt (with_reducible assumption)); (case p2 => k_dflt (with_reducible assumption)); (case p3 => k_dflt (with_reducible assumption)); (case p4 => k_dflt (with_reducible assumption)); (case p5 => k_dflt (with_reducible assumption)); (case p6 => k_dflt (with_reducible assumption)); (case p7 => k_dflt (with_reducible assumption)); (case p8 => k_dflt (with_reducible assumption)); (case p9 => k_dflt (with_reducible assumption)); (case p10 => k_dflt (with_reducible assumption)); (case p11 => k_dflt (first | exact szNone | with_reducible assumption)); all_goals (intros; (try dsimp only); (try k_fold)); walk_say "CONTRACT whg"))
  (k_with "call ref" => (k_here; (with_reducible show wpAny _ _ (call (Value.ref 193) [Value.str _ _, Value.ref _, Value.int _ _, Value.int _ _, _, Value.int _ _, Value.bool _]) _ _ _); k_dflt (refine' u_wlx ?k1 ?k2 ?k3 ?k4 ?k5 ?kK ?kd ?ku ?p0 ?p1 ?p2 ?p3 ?p4 ?p5 ?p6 ?p7 ?p8 ?p9 ?p10 ?p11 ?p12 ?_); (case k1 => k_dflt (k_asm)); (case k2 => k_dflt (k_asm)); (case k3 => k_dflt (k_asm)); (case k4 => k_dflt (k_asm)); (case k5 => k_dflt (k_asm)); (case kK => first | exact rfl | assumption); (case kd => first | exact room hdp (by decide) | decide | ktr_room); (case ku => first | exact room hun (by decide) | decide | ktr_units); (case p0 => k_dflt (k_mem)); (case p1 => k_dflt (with_reducible assumption)); (case p2 => k_dflt (with_reducible assumption)); (case p3 => k_dflt (with_reducible assumption)); (case p4 => k_dflt (with_reducible assumption)); (case p5 => k_dflt (with_reducible assumption)); (case p6 => k_dflt (with_reducible assumption)); (case p7 => k_dflt (with_reducible assumption)); (case p8 => k_dflt (with_reducible assumption)); (case p9 => k_dflt (with_reducible assumption)); (case p10 => k_dflt (with_reducible assumption)); (case p11 => k_dflt (with_unfolding_all rfl)); (case p12 => k_dflt (first | exact szNone | with_reducible assumption)); all_goals (intros; (try dsimp only); (try k_fold)); walk_say "CONTRACT wlx"))
  (k_with "call ref" => (k_here; (with_reducible show wpAny _ _ (call (Value.ref 200) [Value.ref _, Value.int _ _, Value.int _ _, _, Value.int _ _, Value.bool _]) _ _ _); k_dflt (refine' u_wlg ?k1 ?k2 ?k3 ?k4 ?k5 ?kK ?kd ?ku ?p0 ?p1 ?p2 ?p3 ?p4 ?p5 ?p6 ?p7 ?p8 ?p9 ?p10 ?p11 ?_); (case k1 => k_dflt (k_asm)); (case k2 => k_dflt (k_asm)); (case k3 => k_dflt (k_asm)); (case k4 => k_dflt (k_asm)); (case k5 => k_dflt (k_asm)); (case kK => first | exact rfl | assumption); (case kd => first | exact room hdp (by decide) | decide | ktr_room); (case ku => first | exact room hun (by decide) | decide | ktr_units); (case p0 => k_dflt (k_mem)); (case p1 => k_dflt (with_reducible assumption)); (case p2 => k_dflt (with_reducible assumption)); (case p3 => k_dflt (with_reducible assumption)); (case p4 => k_dflt (with_reducible assumption)); (case p5 => k_dflt (with_reducible assumption)); (case p6 => k_dflt (with_reducible assumption)); (case p7 => k_dflt (with_reducible assumption)); (case p8 => k_dflt (with_reducible assumption)); (case p9 => k_dflt (with_reducible assumption)); (case p10 => k_dflt (with_reducible assumption)); (case p11 => k_dflt (first | exact szNone | with_reducible assumption)); all_goals (intros; (try dsimp only); (try k_fold)); walk_say "CONTRACT wlg"))
  (k_with "subscriptTail" => (k_here; (with_reducible show wpAny _ _ (subscriptTail _ _ (Value.ref _) (Value.int _ _)) _ _ _); k_dflt (refine' menu_any ?k1 ?k2 ?k3 ?k4 ?_ ?k5; (case k1 => k_asm); (case k2 => exact .tail _ (.tail _ (.head _))); (case k3 => with_reducible assumption); (case k4 => with_reducible assumption); (case k5 => with_unfolding_all rfl)); (all_goals (try intros)); walk_say "MENU"))
  (k_with "compareOp NotEq str str" => (k_here; k_dflt (refine' neq_same ?k1 ?_; (case k1 => exact fixed_law (by omega))); walk_say "SAME"))
  (k_with "compareOp NotEq" => (k_here; k_dflt (refine' neq_is (same_exp ?k1 ?k2) ?_; (case k1 => with_reducible assumption); (case k2 => with_reducible assumption)); walk_say "SAME EXP"))
  (k_with "compareOp Eq" => (k_here; k_dflt (refine' eq_is (same_gen ?k1 ?k2) ?_; (case k1 => with_reducible assumption); (case k2 => with_reducible assumption)); walk_say "SAME GEN"))
  (k_with "exec If" => (k_here; (fail_if_success (with_reducible show wpAny _ _ _ (EdgeEnd _ _ _ _) _ _)); (with_reducible show wpAny _ _ (exec (Stmt.If (PySem.Expr.Name (Str.ofString "is_edge") _) _ [] _) _) _ _ _); k_dflt (refine' edge_cut ?kF ?_ ?_; (case kF => k_asm)); walk_say "EDGE"))
  (k_with "EdgeB2" => ((with_reducible show EdgeB2 _); delta EdgeB2; intros; (try dsimp only); walk_say "MEET"))
  (k_with "EdgeEnd" => ((refine' edge_end ?zqf ?zqn ?zqhm ?zqe ?zqb1 ?zqb2 ?zqb3 ?zqb4; (case zqf => k_asm); (case zqn => k_asm); (case zqe => first | with_reducible exact rfl | exact edge_same (by with_unfolding_all rfl)); (case zqhm => k_mem); (case zqb1 => first | omega | (refine' edge_b1 ?zqea ?zqeb ?zqec ?zqed; (case zqea => with_reducible assumption); (case zqeb => with_reducible assumption); (case zqec => with_reducible assumption); (case zqed => with_reducible assumption))); (case zqb2 => first | omega | (refine' edge_b2 ?zqea ?zqeb ?zqec ?zqed; (case zqea => with_reducible assumption); (case zqeb => with_reducible assumption); (case zqec => with_reducible assumption); (case zqed => with_reducible assumption))); (case zqb3 => omega); (case zqb4 => omega)); walk_say "EDGE END"))
  k_go0
  (all_goals try k_fold)
  (rename Fr _ _ _ _ => zF0); (refine fr_let zF0 ?_); clear zF0; intro m' zF1
  (refine env_let ?_); intro env' A'
  k_steps)
end

end Mine
theorem PySem.Challenge.cw_no0228_01_holds : PySem.Challenge.rw_no0228_01.Holds := by
  exact Mine.tst
