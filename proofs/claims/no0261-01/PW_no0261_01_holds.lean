import PyProof.Rows.All
import Wide.All
import OpenK.AllK
import Wide.FinOn
import PyProof.ExcInit
import PyProof.ExcClass2
import PyProof.ExcBaseAll.Exception
import PyProof.InstStoreFacts
import Lean
import PySem.Challenge.RW_no0261_01
set_option Elab.async false
set_option maxRecDepth 100000
set_option maxHeartbeats 0
namespace Mine
section
open PySem PySem.W PyProof.Rows
/-- the looks at the text -/
theorem said1 : looksOpen PySem.Challenge.rw_no0261_01.row.toRowW.prog = true := by
  delta looksOpen
  refine look_both (look_both (look_both (look_both (look_both ?_ ?_) ?_) ?_) ?_) ?_
  all_goals decide +kernel
theorem said2 : PySem.Challenge.rw_no0261_01.row.wellSaid = true := by
  have h := said1
  delta OpenRow.wellSaid OpenRow.partSaid
  rw [h]
  kernel_rfl
theorem said3 : OpenLaw.wellSaid PySem.Challenge.rw_no0261_01 = true := by
  have h := said2
  delta OpenLaw.wellSaid
  rw [h]
  kernel_rfl
/-- the top's statements but those at the places named -/
def keepAll (ds : List Nat) : Nat → List Stmt → List Stmt
  | _, [] => []
  | n, x :: r => if ds.contains n then keepAll ds (n + 1) r else x :: keepAll ds (n + 1) r
/-- the text without its __name__ rows: what the law can see of it -/
def vw : Program := { PySem.Challenge.rw_no0261_01.row.toRowW.prog with main := { PySem.Challenge.rw_no0261_01.row.toRowW.prog.main with body := keepAll [0, 3, 22, 44, 47, 49, 63, 67] 0 PySem.Challenge.rw_no0261_01.row.toRowW.prog.main.body } }
theorem both' {α β γ : Type} {o : Option α} {f : α → β × γ} {b : β × γ} (h : o.map (fun s => (f s).1) = some b.1) (k : o.map (fun s => (f s).2) = some b.2) : o.map f = some b := by
  cases o with
  | none => cases h
  | some s => exact congrArg some (Prod.ext (Option.some.inj h) (Option.some.inj k))
theorem front {α β γ : Type} {o : Option α} {f : α → β} {g : α → γ} {b : β} {c : γ} (h : o.map (fun s => (f s, g s)) = some (b, c)) : o.map f = some b := by
  cases o with
  | none => cases h
  | some s => exact congrArg some (Prod.mk.inj (Option.some.inj h)).1
theorem back {α β γ : Type} {o : Option α} {f : α → β} {g : α → γ} {b : β} {c : γ} (h : o.map (fun s => (f s, g s)) = some (b, c)) : o.map g = some c := by
  cases o with
  | none => cases h
  | some s => exact congrArg some (Prod.mk.inj (Option.some.inj h)).2
/-- the run of the top -/
abbrev ran (w : World) : Option Shared := openEnds treeTable PySem.Challenge.rw_no0261_01.row.toRowW.prog w 5114
/-- what is seen of its end -/
abbrev sawn (s : Shared) := openSeen vw [] (importedModules PySem.Challenge.rw_no0261_01.row.toRowW.prog.main.body) (fun s => xlAt vw [] s && recOk (RowW.records PySem.Challenge.rw_no0261_01.row.toRowW) s) true s
theorem seen1 (w : World) : (ran w).map (fun s => ((sawn s).1, (sawn s).2.1)) = some ((openGood vw []).1, (openGood vw []).2.1) := by
  delta Mine.ran Mine.sawn PySem.W.openEnds PySem.W.fencedOpening PySem.W.topFrom; rw [PySem.W.Fast.te10274390034422433532]; rw [PySem.W.Fast.te14289696077712309145]; rw [PySem.W.Fast.te4187177175401517315]; rw [PySem.W.Fast.te1435165496053646825]; rw [PySem.W.Fast.te14082659384304107361]; rw [PySem.W.Fast.te14364793385576792824]; rw [PySem.W.Fast.te5923862056798008813]; delta PySem.W.Fast.tw4187177175401517315 PySem.W.openGood; dsimp only; kernel_rfl
theorem seen2 (w : World) : (ran w).map (fun s => ((sawn s).2.2.1, (sawn s).2.2.2.1)) = some ((openGood vw []).2.2.1, (openGood vw []).2.2.2.1) := by
  delta Mine.ran Mine.sawn PySem.W.openEnds PySem.W.fencedOpening PySem.W.topFrom; rw [PySem.W.Fast.te10274390034422433532]; rw [PySem.W.Fast.te14289696077712309145]; rw [PySem.W.Fast.te4187177175401517315]; rw [PySem.W.Fast.te1435165496053646825]; rw [PySem.W.Fast.te14082659384304107361]; rw [PySem.W.Fast.te14364793385576792824]; rw [PySem.W.Fast.te5923862056798008813]; delta PySem.W.Fast.tw4187177175401517315 PySem.W.openGood; dsimp only; kernel_rfl
theorem seen3 (w : World) : (ran w).map (fun s => (sawn s).2.2.2.2) = some (openGood vw []).2.2.2.2 := by
  delta Mine.ran Mine.sawn PySem.W.openEnds PySem.W.fencedOpening PySem.W.topFrom; rw [PySem.W.Fast.te10274390034422433532]; rw [PySem.W.Fast.te14289696077712309145]; rw [PySem.W.Fast.te4187177175401517315]; rw [PySem.W.Fast.te1435165496053646825]; rw [PySem.W.Fast.te14082659384304107361]; rw [PySem.W.Fast.te14364793385576792824]; rw [PySem.W.Fast.te5923862056798008813]; delta PySem.W.Fast.tw4187177175401517315 PySem.W.openGood; dsimp only; kernel_rfl
theorem seen9 (w : World) : (ran w).map (fun s => sawn s) = some (openGood vw []) := both' (front (seen1 w)) (both' (back (seen1 w)) (both' (front (seen2 w)) (both' (back (seen2 w)) (seen3 w))))
theorem pairUp {α β γ : Type} {o : Option α} {f : α → β} {g : α → γ} {b : β} {c : γ} (h : o.map f = some b) (k : o.map g = some c) : o.map (fun s => (f s, g s)) = some (b, c) := by
  cases o with
  | none => cases h
  | some s => exact congrArg some (Prod.ext (Option.some.inj h) (Option.some.inj k))
/-- the library's head, for this text: what is left is the written part of the heap (hl), a witness (hw), the call (hc) -/
theorem head9 (H : Hook) {d : DefRec} {kwd : List (Str × Expr)} (hl : ∀ w, (ran w).map H.obs = some (H.val w))
    (a : defOf vw PySem.Challenge.rw_no0261_01.row.toRowW.name = some (d, kwd)) (b : PySem.Challenge.rw_no0261_01.row.toRowW.prog.theDef PySem.Challenge.rw_no0261_01.row.toRowW.name = some (d.params, d.body, d.scope)) (c : kwWritten? d.params.kwonlyargs d.params.kw_defaults = some kwd)
    (hw : PySem.Challenge.rw_no0261_01.row.toRowW.promised) (hc : WalkO vw [] (XL vw []) H.says PySem.Challenge.rw_no0261_01.row.toRowW d kwd fun f vs => PySem.call f vs) : PySem.Challenge.rw_no0261_01.row.Holds :=
  holds_open (q := vw) (loose := []) (Xt := fun s => xlAt vw [] s && recOk (RowW.records PySem.Challenge.rw_no0261_01.row.toRowW) s) (XP := XL vw []) (Yf := H.obs) (Ya := H.val) (N := 5114) (fun w => pairUp (seen9 w) (hl w)) H.of H.keeps (fun s e => xl_of s (Bool.and_eq_true_iff.mp e).1) XL.keeps a b c (fun s e => recFacts_of (Bool.and_eq_true_iff.mp e).2) (by rfl) said2 (by decide +kernel) ⟨rfl, rfl, rfl, rfl, rfl, by decide +kernel⟩ hw hc
local macro_rules | `(tactic| o_law) => `(tactic| refine holds_law said3 fun said => ?_)
local macro_rules | `(tactic| o_head $H) => `(tactic| (refine head9 $H ?hl (by rfl) (by rfl) (by rfl) ?hw ?hc; (case hl => (intro w; delta Mine.ran PySem.W.openEnds PySem.W.fencedOpening PySem.W.topFrom; rw [PySem.W.Fast.te10274390034422433532, PySem.W.Fast.te14289696077712309145, PySem.W.Fast.te1435165496053646825, PySem.W.Fast.te14082659384304107361, PySem.W.Fast.te14364793385576792824]; kernel_rfl))))
open_top hd for PySem.Challenge.rw_no0261_01
end

section
/-- the number of decimal digits; none of nought -/
def cdF : Nat → Nat → Nat
  | 0, _ => 0
  | f + 1, n => if n = 0 then 0 else cdF f (n / 10) + 1
def cd (n : Nat) : Nat := cdF (n + 1) n
theorem cdF_same : ∀ (f g n : Nat), n < f → n < g → cdF f n = cdF g n
  | 0, _, _, h, _ => absurd h (Nat.not_lt_zero _)
  | _ + 1, 0, _, _, h => absurd h (Nat.not_lt_zero _)
  | f + 1, g + 1, n, h1, h2 => by
    show (if n = 0 then 0 else cdF f (n / 10) + 1) = (if n = 0 then 0 else cdF g (n / 10) + 1)
    by_cases h : n = 0
    · rw [if_pos h, if_pos h]
    · rw [if_neg h, if_neg h, cdF_same f g (n / 10) (by omega) (by omega)]
theorem cd_rec (n : Nat) : cd n = if n = 0 then 0 else cd (n / 10) + 1 := by
  show (if n = 0 then 0 else cdF n (n / 10) + 1) = _
  by_cases h : n = 0
  · rw [if_pos h, if_pos h]
  · rw [if_neg h, if_neg h]
    show cdF n (n / 10) + 1 = cdF (n / 10 + 1) (n / 10) + 1
    rw [cdF_same n (n / 10 + 1) (n / 10) (by omega) (by omega)]
def cdZ (x : Int) : Int := (cd x.natAbs : Int)
theorem cd_zero : cd 0 = 0 := rfl
theorem cd_pos {n : Nat} (h : 0 < n) : cd n = cd (n / 10) + 1 := by
  rw [cd_rec, if_neg (by omega)]
theorem cd_pos' {n : Nat} (h : 0 < n) : 0 < cd n := by rw [cd_pos h]; omega
/-- a number of k digits lies between the powers -/
theorem cd_bounds : ∀ (k n : Nat), cd n = k + 1 → 10 ^ k ≤ n ∧ n < 10 ^ (k + 1)
  | 0, n, h => by
    by_cases h0 : n = 0
    · subst h0; rw [cd_zero] at h; omega
    · rw [cd_pos (by omega)] at h
      by_cases h1 : n / 10 = 0
      · omega
      · have := cd_pos' (n := n / 10) (by omega); omega
  | k + 1, n, h => by
    by_cases h0 : n = 0
    · subst h0; rw [cd_zero] at h; omega
    · rw [cd_pos (by omega)] at h
      have ih := cd_bounds k (n / 10) (by omega)
      have e1 : 10 ^ (k + 1 + 1) = 10 ^ (k + 1) * 10 := Nat.pow_succ ..
      have e2 : 10 ^ (k + 1) = 10 ^ k * 10 := Nat.pow_succ ..
      omega
theorem pow10_pos (k : Nat) : 0 < 10 ^ k := Nat.pow_pos (by decide)
theorem pow10_mono {a b : Nat} (h : a ≤ b) : 10 ^ a ≤ 10 ^ b := Nat.pow_le_pow_right (by decide) h
theorem cd_lt {n : Nat} : n < 10 ^ cd n := by
  by_cases h0 : n = 0
  · subst h0; exact pow10_pos _
  · have := cd_pos' (n := n) (by omega)
    have := (cd_bounds (cd n - 1) n (by omega)).2
    rwa [show cd n - 1 + 1 = cd n by omega] at this
theorem cd_ge {n : Nat} (h : 0 < n) : 10 ^ (cd n - 1) ≤ n := by
  have := cd_pos' h
  exact (cd_bounds (cd n - 1) n (by omega)).1
/-- between two powers: the number of digits is told -/
theorem cd_eq {n k : Nat} (h1 : 10 ^ k ≤ n) (h2 : n < 10 ^ (k + 1)) : cd n = k + 1 := by
  have h0 : 0 < n := Nat.lt_of_lt_of_le (pow10_pos k) h1
  have a := cd_ge h0
  have b := cd_lt (n := n)
  have hp := cd_pos' h0
  have c1 : cd n - 1 < k + 1 := by
    rcases Nat.lt_or_ge (cd n - 1) (k + 1) with h | h
    · exact h
    · have := pow10_mono h; omega
  have c2 : k < cd n := by
    rcases Nat.lt_or_ge k (cd n) with h | h
    · exact h
    · have := pow10_mono h; omega
  omega
theorem cd_le {n k : Nat} (h : n < 10 ^ k) : cd n ≤ k := by
  by_cases h0 : n = 0
  · subst h0; rw [cd_zero]; omega
  · have a := cd_ge (n := n) (by omega)
    rcases Nat.lt_or_ge k (cd n) with h' | h'
    · have := pow10_mono (show k ≤ cd n - 1 by omega); omega
    · exact h'
theorem cd_mul {n : Nat} (h : 0 < n) (k : Nat) : cd (n * 10 ^ k) = cd n + k := by
  induction k with
  | zero => simp
  | succ k ih =>
    have h2 : n * 10 ^ (k + 1) = n * 10 ^ k * 10 := by rw [Nat.pow_succ, Nat.mul_assoc]
    rw [h2]
    have h3 : 0 < n * 10 ^ k := Nat.mul_pos h (pow10_pos k)
    rw [cd_pos (by omega), Nat.mul_div_cancel _ (by decide), ih]; omega
theorem cd_div9 {n : Nat} (h : 1000000000 ≤ n) : cd n = cd (n / 1000000000) + 9 := by
  rw [cd_pos (by omega), cd_pos (n := n / 10) (by omega), cd_pos (n := n / 10 / 10) (by omega), cd_pos (n := n / 10 / 10 / 10) (by omega),
    cd_pos (n := n / 10 / 10 / 10 / 10) (by omega), cd_pos (n := n / 10 / 10 / 10 / 10 / 10) (by omega), cd_pos (n := n / 10 / 10 / 10 / 10 / 10 / 10) (by omega),
    cd_pos (n := n / 10 / 10 / 10 / 10 / 10 / 10 / 10) (by omega), cd_pos (n := n / 10 / 10 / 10 / 10 / 10 / 10 / 10 / 10) (by omega)]
  rw [show n / 10 / 10 / 10 / 10 / 10 / 10 / 10 / 10 / 10 = n / 1000000000 by omega]
-- over the ints, as the walk says them
theorem fdivp (a : Int) {b : Int} (h : 0 ≤ b) : a.fdiv b = a / b := Int.fdiv_eq_ediv_of_nonneg a h
theorem fmodp (a : Int) {b : Int} (h : 0 ≤ b) : a.fmod b = a % b := Int.fmod_eq_emod_of_nonneg a h
theorem cdZ_nonneg (x : Int) : 0 ≤ cdZ x := Int.natCast_nonneg _
theorem cdZ_zero : cdZ 0 = 0 := by rw [cdZ]; exact congrArg _ cd_zero
theorem cdZ_div9 {a c k : Int} (h0 : 0 ≤ a) (h1 : c + cdZ a = k) (h2 : 1000000000 ≤ a) : 0 ≤ a.fdiv 1000000000 ∧ c + 9 + cdZ (a.fdiv 1000000000) = k := by
  rw [fdivp _ (by decide)]
  refine ⟨by omega, ?_⟩
  have e : (a / 1000000000).natAbs = a.natAbs / 1000000000 := by omega
  rw [cdZ, e]
  have := cd_div9 (n := a.natAbs) (by omega)
  rw [cdZ] at h1
  omega
theorem cdZ_div {a c k : Int} (h0 : 0 ≤ a) (h1 : c + cdZ a = k) (h2 : 0 < a) : 0 ≤ a.fdiv 10 ∧ c + 1 + cdZ (a.fdiv 10) = k := by
  rw [fdivp _ (by decide)]
  refine ⟨by omega, ?_⟩
  have e : (a / 10).natAbs = a.natAbs / 10 := by omega
  rw [cdZ, e]
  have := cd_pos (n := a.natAbs) (by omega)
  rw [cdZ] at h1
  omega
theorem cdZ_end {a c k : Int} (h0 : 0 ≤ a) (h : c + cdZ a = k) (h2 : ¬ 0 < a) : c = k := by
  obtain rfl : a = 0 := by omega
  rw [cdZ_zero] at h; omega
theorem fdiv_less {a b : Int} (hb : 1 < b) (h : 0 < a) : (a.fdiv b).toNat < a.toNat := by
  rw [fdivp _ (by omega)]
  have : a / b < a := Int.ediv_lt_self_of_pos_of_ne_one h (by omega)
  omega
theorem cdZ_abs (n : Int) : cdZ (if n < 0 then -n else n) = cdZ n := by
  unfold cdZ; congr 2; split <;> omega
/-- the trailing zeros off -/
def stripF : Nat → Int → Int → Int × Int
  | 0, m, e => (m, e)
  | f + 1, m, e => if m = 0 then (0, 0) else if m % 10 = 0 then stripF f (m / 10) (e + 1) else (m, e)
def strip (m e : Int) : Int × Int := stripF (m.natAbs + 1) m e
theorem stripF_same : ∀ (f g : Nat) (m e : Int), m.natAbs < f → m.natAbs < g → stripF f m e = stripF g m e
  | 0, _, _, _, h, _ => absurd h (Nat.not_lt_zero _)
  | _ + 1, 0, _, _, _, h => absurd h (Nat.not_lt_zero _)
  | f + 1, g + 1, m, e, h1, h2 => by
    show (if m = 0 then (0, 0) else if m % 10 = 0 then stripF f (m / 10) (e + 1) else (m, e)) = (if m = 0 then (0, 0) else if m % 10 = 0 then stripF g (m / 10) (e + 1) else (m, e))
    by_cases h : m = 0
    · rw [if_pos h, if_pos h]
    · by_cases h3 : m % 10 = 0
      · rw [if_neg h, if_neg h, if_pos h3, if_pos h3, stripF_same f g (m / 10) (e + 1) (by omega) (by omega)]
      · rw [if_neg h, if_neg h, if_neg h3, if_neg h3]
theorem strip_rec (m e : Int) : strip m e = if m = 0 then (0, 0) else if m % 10 = 0 then strip (m / 10) (e + 1) else (m, e) := by
  show (if m = 0 then (0, 0) else if m % 10 = 0 then stripF m.natAbs (m / 10) (e + 1) else (m, e)) = _
  by_cases h : m = 0
  · rw [if_pos h, if_pos h]
  · by_cases h3 : m % 10 = 0
    · rw [if_neg h, if_neg h, if_pos h3, if_pos h3]
      exact stripF_same _ _ _ _ (by omega) (by omega)
    · rw [if_neg h, if_neg h, if_neg h3, if_neg h3]
theorem strip_zero (e : Int) : strip 0 e = (0, 0) := rfl
theorem strip_step {m e : Int} (h : m ≠ 0) (h2 : m % 10 = 0) : strip m e = strip (m / 10) (e + 1) := by rw [strip_rec, if_neg h, if_pos h2]
theorem strip_done {m e : Int} (h : m ≠ 0) (h2 : m % 10 ≠ 0) : strip m e = (m, e) := by rw [strip_rec, if_neg h, if_neg h2]
theorem strip_turn {a b : Int} {p : Int × Int} (h : a ≠ 0) (h1 : strip a b = p) (h2 : a.fmod 10 = 0) : a.fdiv 10 ≠ 0 ∧ strip (a.fdiv 10) (b + 1) = p := by
  rw [fmodp _ (by decide)] at h2
  rw [fdivp _ (by decide)]
  exact ⟨by omega, by rw [← strip_step h h2]; exact h1⟩
theorem strip_less {a : Int} (h : a ≠ 0) (h2 : a.fmod 10 = 0) : (a.fdiv 10).natAbs < a.natAbs := by
  rw [fmodp _ (by decide)] at h2
  rw [fdivp _ (by decide)]
  omega
theorem strip_end1 {a b : Int} {p : Int × Int} (h1 : strip a b = p) (h : a ≠ 0) (h2 : ¬ a.fmod 10 = 0) : a = p.1 := by
  rw [fmodp _ (by decide)] at h2
  rw [← h1, strip_done h h2]
theorem strip_end2 {a b : Int} {p : Int × Int} (h1 : strip a b = p) (h : a ≠ 0) (h2 : ¬ a.fmod 10 = 0) : b = p.2 := by
  rw [fmodp _ (by decide)] at h2
  rw [← h1, strip_done h h2]
theorem pow10Z_pos (k : Nat) : (0 : Int) < 10 ^ k := Int.pow_pos (by decide)
theorem pow10Z_ne (k : Nat) : (10 : Int) ^ k ≠ 0 := Int.ne_of_gt (pow10Z_pos k)
/-- half to even -/
def rheF (a p : Int) : Int := if p < 2 * a.fmod p then a.fdiv p + 1 else if 2 * a.fmod p = p then (if (a.fdiv p).fmod 2 = 1 then a.fdiv p + 1 else a.fdiv p) else a.fdiv p
section
variable {a p : Int}
theorem rhe_up1 (h : p < 2 * a.fmod p) : rheF a p = a.fdiv p + 1 := by rw [rheF, if_pos h]
theorem rhe_up2 (h : ¬ p < 2 * a.fmod p) (h2 : 2 * a.fmod p = p) (h3 : (a.fdiv p).fmod 2 = 1) : rheF a p = a.fdiv p + 1 := by rw [rheF, if_neg h, if_pos h2, if_pos h3]
theorem rhe_dn1 (h : ¬ p < 2 * a.fmod p) (h2 : 2 * a.fmod p = p) (h3 : (a.fdiv p).fmod 2 ≠ 1) : rheF a p = a.fdiv p := by rw [rheF, if_neg h, if_pos h2, if_neg h3]
theorem rhe_dn2 (h : ¬ p < 2 * a.fmod p) (h2 : 2 * a.fmod p ≠ p) : rheF a p = a.fdiv p := by rw [rheF, if_neg h, if_neg h2]
end
/-- round_digits -/
def roundD (m e d : Int) : Int × Int :=
  if 0 < cdZ m - d then strip (if 0 < m then rheF (if m < 0 then -m else m) (10 ^ (cdZ m - d).toNat) else -rheF (if m < 0 then -m else m) (10 ^ (cdZ m - d).toNat)) (e + (cdZ m - d))
  else strip m e
section
variable {m e d k : Int}
theorem roundD_no (h : ¬ 0 < cdZ m - d) : roundD m e d = strip m e := by rw [roundD, if_neg h]
theorem roundD_pos (h : 0 < cdZ m - d) (h2 : 0 < m) (hk : rheF (if m < 0 then -m else m) (10 ^ (cdZ m - d).toNat) = k) : roundD m e d = strip k (e + (cdZ m - d)) := by rw [roundD, if_pos h, if_pos h2, hk]
theorem roundD_neg (h : 0 < cdZ m - d) (h2 : ¬ 0 < m) (hk : rheF (if m < 0 then -m else m) (10 ^ (cdZ m - d).toNat) = k) : roundD m e d = strip (-k) (e + (cdZ m - d)) := by rw [roundD, if_pos h, if_neg h2, hk]
end
/-- round_real: none where it raises -/
def roundR (m e d top : Int) : Option (Int × Int) :=
  if (roundD m e d).1 = 0 then some (0, 0) else if (roundD m e d).2 + cdZ (roundD m e d).1 - 1 < -top then some (0, 0)
  else if top < (roundD m e d).2 + cdZ (roundD m e d).1 - 1 then none else some (roundD m e d)
section
variable {m e d top : Int}
theorem roundR_nil1 (h : (roundD m e d).1 = 0) : roundR m e d top = some (0, 0) := by rw [roundR, if_pos h]
theorem roundR_nil2 (h : (roundD m e d).1 ≠ 0) (h2 : (roundD m e d).2 + cdZ (roundD m e d).1 - 1 < -top) : roundR m e d top = some (0, 0) := by rw [roundR, if_neg h, if_pos h2]
theorem roundR_none (h : (roundD m e d).1 ≠ 0) (h2 : ¬ (roundD m e d).2 + cdZ (roundD m e d).1 - 1 < -top) (h3 : top < (roundD m e d).2 + cdZ (roundD m e d).1 - 1) : roundR m e d top = none := by rw [roundR, if_neg h, if_neg h2, if_pos h3]
theorem roundR_some (h : (roundD m e d).1 ≠ 0) (h2 : ¬ (roundD m e d).2 + cdZ (roundD m e d).1 - 1 < -top) (h3 : ¬ top < (roundD m e d).2 + cdZ (roundD m e d).1 - 1) : roundR m e d top = some (roundD m e d) := by rw [roundR, if_neg h, if_neg h2, if_neg h3]
end
/-- below n digits -/
def Bd (x : Int) (n : Nat) : Prop := x.natAbs < 10 ^ n
section
variable {x y : Int} {a b : Nat}
theorem bd_up (h : Bd x a) (hab : a ≤ b) : Bd x b := Nat.lt_of_lt_of_le h (pow10_mono hab)
theorem bd_mul (h : Bd x a) (k : Bd y b) : Bd (x * y) (a + b) := by
  unfold Bd at *
  rw [Int.natAbs_mul, Nat.pow_add]
  exact Nat.mul_lt_mul'' h k
theorem bd_add (h : Bd x a) (k : Bd y b) : Bd (x + y) (max a b + 1) := by
  have h' : x.natAbs < 10 ^ max a b := Nat.lt_of_lt_of_le h (pow10_mono (Nat.le_max_left a b))
  have k' : y.natAbs < 10 ^ max a b := Nat.lt_of_lt_of_le k (pow10_mono (Nat.le_max_right a b))
  show (x + y).natAbs < 10 ^ (max a b + 1)
  rw [Nat.pow_succ]
  omega
theorem bd_neg (h : Bd x a) : Bd (-x) a := by unfold Bd at *; rw [Int.natAbs_neg]; exact h
theorem bd_sub (h : Bd x a) (k : Bd y b) : Bd (x - y) (max a b + 1) := by rw [Int.sub_eq_add_neg]; exact bd_add h (bd_neg k)
theorem bd_abs (h : Bd x a) : Bd (if x < 0 then -x else x) a := by
  unfold Bd at *
  split
  · rw [Int.natAbs_neg]; exact h
  · exact h
theorem bd_pow {k : Nat} (h : k ≤ 1000) : Bd (10 ^ k) 1001 := by
  unfold Bd
  rw [Int.natAbs_pow]
  exact Nat.pow_lt_pow_right (by decide) (by omega)
theorem bd_fdiv (h : Bd x a) (hx : 0 ≤ x) (hy : 0 < y) : Bd (x.fdiv y) a := by
  unfold Bd at *
  rw [fdivp _ (Int.le_of_lt hy)]
  have h1 := Int.ediv_nonneg hx (Int.le_of_lt hy)
  have h2 : x / y ≤ x := Int.ediv_le_self y hx
  omega
theorem bd_lit (h : x.natAbs < 1000000000000) : Bd x 12 := h
theorem cdZ_bd (h : Bd x a) : cdZ x ≤ a := by
  have := cd_le h
  unfold cdZ
  omega
theorem bd_of_cdZ (h : cdZ x ≤ a) : Bd x a := by
  unfold cdZ at h
  exact Nat.lt_of_lt_of_le cd_lt (pow10_mono (by omega))
theorem cdZ_bd' (h : Bd x a) (ha : a ≤ 1900) : cdZ x ≤ 1900 := by have := cdZ_bd h; omega
end
theorem abs_ne {u : Int} (h : u ≠ 0) : (if u < 0 then -u else u) ≠ 0 := by split <;> omega
/-- the sum of two pairs, exact -/
def exactAdd (x1 x2 y1 y2 : Int) : Int × Int :=
  (x1 * 10 ^ (x2 - if y2 < x2 then y2 else x2).toNat + y1 * 10 ^ (y2 - if y2 < x2 then y2 else x2).toNat, if y2 < x2 then y2 else x2)
/-- real_to_int -/
def toInt (x1 x2 : Int) : Int :=
  if 0 ≤ x2 then x1 * 10 ^ x2.toNat else if 0 < x1 then (if x1 < 0 then -x1 else x1).fdiv (10 ^ (-x2).toNat) else -(if x1 < 0 then -x1 else x1).fdiv (10 ^ (-x2).toNat)
/-- the shift of a quotient -/
def shiftQ (o u d : Int) : Int := if 0 > d + 2 + cdZ u - cdZ o then 0 else d + 2 + cdZ u - cdZ o
def numQ (o u d : Int) : Int := (if o < 0 then -o else o) * 10 ^ (shiftQ o u d).toNat
/-- the quotient's digits with one that tells a rest -/
def digQ (o u d : Int) : Int := 10 * (numQ o u d).fdiv (if u < 0 then -u else u) + if (numQ o u d).fmod (if u < 0 then -u else u) = 0 then 0 else 1
def quotM (o u d : Int) : Int := if (decide (o < 0) != decide (u < 0)) = true then -digQ o u d else digQ o u d
def quotE (o u e d : Int) : Int := e - shiftQ o u d - 1
section
variable {o u e d : Int}
theorem quotM_a (h : (numQ o u d).fmod (if u < 0 then -u else u) ≠ 0) (h2 : (decide (o < 0) != decide (u < 0)) = true) : -(10 * (numQ o u d).fdiv (if u < 0 then -u else u) + 1) = quotM o u d := by rw [quotM, if_pos h2, digQ, if_neg h]
theorem quotM_b (h : (numQ o u d).fmod (if u < 0 then -u else u) ≠ 0) (h2 : (decide (o < 0) != decide (u < 0)) = false) : 10 * (numQ o u d).fdiv (if u < 0 then -u else u) + 1 = quotM o u d := by rw [show quotM o u d = digQ o u d from if_neg (by rw [h2]; decide), digQ, if_neg h]
theorem quotM_c (h : (numQ o u d).fmod (if u < 0 then -u else u) = 0) (h2 : (decide (o < 0) != decide (u < 0)) = true) : -(10 * (numQ o u d).fdiv (if u < 0 then -u else u) + 0) = quotM o u d := by rw [quotM, if_pos h2, digQ, if_pos h]
theorem quotM_d (h : (numQ o u d).fmod (if u < 0 then -u else u) = 0) (h2 : (decide (o < 0) != decide (u < 0)) = false) : 10 * (numQ o u d).fdiv (if u < 0 then -u else u) + 0 = quotM o u d := by rw [show quotM o u d = digQ o u d from if_neg (by rw [h2]; decide), digQ, if_pos h]
theorem toInt_a {x1 x2 : Int} (h : 0 ≤ x2) : x1 * 10 ^ x2.toNat = toInt x1 x2 := by rw [toInt, if_pos h]
theorem toInt_b {x1 x2 : Int} (h : ¬ 0 ≤ x2) (h2 : 0 < x1) : (if x1 < 0 then -x1 else x1).fdiv (10 ^ (-x2).toNat) = toInt x1 x2 := by rw [toInt, if_neg h, if_pos h2]
theorem toInt_c {x1 x2 : Int} (h : ¬ 0 ≤ x2) (h2 : ¬ 0 < x1) : -(if x1 < 0 then -x1 else x1).fdiv (10 ^ (-x2).toNat) = toInt x1 x2 := by rw [toInt, if_neg h, if_neg h2]
theorem bd_ite (c : Prop) [Decidable c] : Bd (if c then 0 else 1) 12 := by split <;> exact bd_lit (by decide)
theorem bd_exactAdd {x1 x2 y1 y2 : Int} (m1 : Bd x1 20) (m2 : Bd y1 20) (b1 : x2 - y2 ≤ 1000) (b2 : y2 - x2 ≤ 1000) : Bd (exactAdd x1 x2 y1 y2).1 1100 := by
  refine bd_up (bd_add (bd_mul m1 (bd_pow ?_)) (bd_mul m2 (bd_pow ?_))) (by decide) <;> split <;> omega
theorem shiftQ_le (m1 : 0 ≤ cdZ o) (m2 : cdZ u ≤ 20) (hd : d ≤ 10) : (shiftQ o u d).toNat ≤ 1000 := by
  unfold shiftQ
  split <;> omega
theorem bd_quotM (m1 : Bd o 20) (m2 : Bd u 20) (hu : u ≠ 0) (hd : d ≤ 10) : Bd (quotM o u d) 1100 := by
  have h0 := cdZ_nonneg o
  have h1 := cdZ_bd m2
  have hs := shiftQ_le (o := o) (u := u) (d := d) h0 h1 hd
  have hn : Bd (numQ o u d) (20 + 1001) := bd_mul (bd_abs m1) (bd_pow hs)
  have hu' : 0 < (if u < 0 then -u else u) := by split <;> omega
  have hn0 : 0 ≤ numQ o u d := by
    unfold numQ
    refine Int.mul_nonneg (by split <;> omega) (Int.le_of_lt (pow10Z_pos _))
  have hq := bd_fdiv hn hn0 hu'
  have hdq : Bd (digQ o u d) 1100 := by
    unfold digQ
    refine bd_up (bd_add (bd_mul (bd_lit (x := 10) (by decide)) hq) (bd_ite _)) (by decide)
  unfold quotM
  split
  · exact bd_neg hdq
  · exact hdq
end
/-- real_add, real_sub, real_div -/
def rAdd (x1 x2 y1 y2 d top : Int) : Option (Int × Int) := roundR (exactAdd x1 x2 y1 y2).1 (exactAdd x1 x2 y1 y2).2 d top
def rSub (x1 x2 y1 y2 d top : Int) : Option (Int × Int) := rAdd x1 x2 (-y1) y2 d top
def rDiv (x1 x2 y1 y2 d top : Int) : Option (Int × Int) := roundR (quotM x1 y1 d) (quotE x1 y1 (x2 - y2) d) d top
/-- fit_int -/
def fitI (n w : Int) : Option Int := if n < -(1 * 2 ^ (w - 1).toNat) then none else if 1 * 2 ^ (w - 1).toNat ≤ n then none else some n
section
variable {n w : Int}
theorem fitI_a (h : n < -(1 * 2 ^ (w - 1).toNat)) : fitI n w = none := by rw [fitI, if_pos h]
theorem fitI_b (h : ¬ n < -(1 * 2 ^ (w - 1).toNat)) (h2 : 1 * 2 ^ (w - 1).toNat ≤ n) : fitI n w = none := by rw [fitI, if_neg h, if_pos h2]
theorem fitI_c (h : ¬ n < -(1 * 2 ^ (w - 1).toNat)) (h2 : ¬ 1 * 2 ^ (w - 1).toNat ≤ n) : fitI n w = some n := by rw [fitI, if_neg h, if_neg h2]
end
/-- cut_quotient -/
def cutQ (x y : Int) : Int := if (decide (x < 0) == decide (y < 0)) = true then (if x < 0 then -x else x).fdiv (if y < 0 then -y else y) else -(if x < 0 then -x else x).fdiv (if y < 0 then -y else y)
theorem cutQ_a {x y : Int} (h : (decide (x < 0) == decide (y < 0)) = true) : (if x < 0 then -x else x).fdiv (if y < 0 then -y else y) = cutQ x y := (if_pos h).symm
theorem cutQ_b {x y : Int} (h : (decide (x < 0) == decide (y < 0)) = false) : -(if x < 0 then -x else x).fdiv (if y < 0 then -y else y) = cutQ x y := (if_neg (by rw [h]; decide)).symm
/-- int_div of a divisor that is not nought -/
def iDiv (x y w : Int) : Option Int := fitI (cutQ x y) w
theorem bd_fd {x y : Int} {a : Nat} (h : Bd x a) : Bd (x.fdiv y) a := Nat.lt_of_le_of_lt (Int.natAbs_fdiv_le_natAbs x y) h
theorem mulpow_ne {u : Int} (h : 0 < u) (k : Nat) : u * 10 ^ k ≠ 0 := Int.ne_of_gt (Int.mul_pos h (pow10Z_pos k))
/-- the first loop's test -/
def Cd (o u d p : Int) : Prop := u * 10 ^ (d + if 0 > p then 0 else p).toNat ≤ (if o < 0 then -o else o) * 10 ^ (if 0 > -p then 0 else -p).toNat
theorem powZ_split {a b : Int} (ha : 0 ≤ a) (hb : 0 ≤ b) : (10 : Int) ^ (a + b).toNat = 10 ^ a.toNat * 10 ^ b.toNat := by
  rw [← Int.pow_add]; congr 1; omega
theorem cd_key {o u d p N : Int} (hd : 0 ≤ d) (hN : 0 ≤ N) (h : 0 ≤ p + N) : Cd o u d p ↔ u * 10 ^ (d + p + N).toNat ≤ (if o < 0 then -o else o) * 10 ^ N.toNat := by
  unfold Cd
  generalize (if o < 0 then -o else o) = A
  by_cases hp : 0 ≤ p
  · rw [if_neg (by omega), show (if 0 > -p then 0 else -p) = 0 by split <;> omega]
    rw [show (d + p + N) = (d + p) + N by omega, powZ_split (by omega) hN, ← Int.mul_assoc]
    rw [show (0 : Int).toNat = 0 by rfl, Int.pow_zero, Int.mul_one]
    exact ⟨fun h => Int.mul_le_mul_of_nonneg_right h (Int.le_of_lt (pow10Z_pos _)), fun h => Int.le_of_mul_le_mul_right h (pow10Z_pos _)⟩
  · rw [if_pos (by omega), if_neg (by omega)]
    have e1 : (10 : Int) ^ (d + p + N).toNat = 10 ^ (d + 0).toNat * 10 ^ (p + N).toNat := by rw [← powZ_split (by omega) h]; congr 2; omega
    have e2 : (10 : Int) ^ N.toNat = 10 ^ (-p).toNat * 10 ^ (p + N).toNat := by rw [← powZ_split (by omega) h]; congr 2; omega
    rw [e1, e2, ← Int.mul_assoc, ← Int.mul_assoc]
    exact ⟨fun h => Int.mul_le_mul_of_nonneg_right h (Int.le_of_lt (pow10Z_pos _)), fun h => Int.le_of_mul_le_mul_right h (pow10Z_pos _)⟩
theorem powZ_mono {a b : Int} (h : a ≤ b) : (10 : Int) ^ a.toNat ≤ 10 ^ b.toNat := by
  have : 10 ^ a.toNat ≤ 10 ^ b.toNat := pow10_mono (by omega)
  have e1 : ((10 ^ a.toNat : Nat) : Int) = (10 : Int) ^ a.toNat := by rw [Int.natCast_pow]; rfl
  have e2 : ((10 ^ b.toNat : Nat) : Int) = (10 : Int) ^ b.toNat := by rw [Int.natCast_pow]; rfl
  omega
theorem cd_down {o u d p q : Int} (hd : 0 ≤ d) (hu : 0 < u) (hq : q ≤ p) (h : Cd o u d p) : Cd o u d q := by
  have h1 := (cd_key (N := (if 0 ≤ q then 0 else -q) + (if 0 ≤ p then 0 else -p)) hd (by split <;> split <;> omega) (by split <;> split <;> omega)).mp h
  refine (cd_key (N := (if 0 ≤ q then 0 else -q) + (if 0 ≤ p then 0 else -p)) hd (by split <;> split <;> omega) (by split <;> split <;> omega)).mpr ?_
  refine Int.le_trans (Int.mul_le_mul_of_nonneg_left (powZ_mono ?_) (Int.le_of_lt hu)) h1
  omega
/-- the second loop's test is the first's, one lower, denied -/
def Ce (o u d p : Int) : Prop := (if o < 0 then -o else o) * 10 ^ (if 0 > 1 - p then 0 else 1 - p).toNat < u * 10 ^ (d + if 0 > p - 1 then 0 else p - 1).toNat
theorem ce_iff {o u d p : Int} : Ce o u d p ↔ ¬ Cd o u d (p - 1) := by
  unfold Ce Cd
  rw [show (1 - p : Int) = -(p - 1) by omega]
  exact Int.not_le.symm
/-- the power of a fraction at d digits: 10 ^ (d - 1 + P) ≤ |o / u| < 10 ^ (d + P) -/
structure IsPow (o u d P : Int) : Prop where
  top : ¬ Cd o u d P
  low : Cd o u d (P - 1)
section
variable {o u d p P : Int}
theorem pow_lt (hP : IsPow o u d P) (hd : 0 ≤ d) (hu : 0 < u) (h : Cd o u d p) : p < P := by
  rcases (show p < P ∨ P ≤ p by omega) with q | q
  · exact q
  · exact absurd (cd_down hd hu q h) hP.top
theorem pow_ge (hP : IsPow o u d P) (hd : 0 ≤ d) (hu : 0 < u) (h : ¬ Cd o u d p) : P ≤ p := by
  rcases (show p < P ∨ P ≤ p by omega) with q | q
  · exact absurd (cd_down hd hu (by omega) hP.low) h
  · exact q
theorem pow_gt (hP : IsPow o u d P) (hd : 0 ≤ d) (hu : 0 < u) (h : Ce o u d p) : P < p := by
  have := pow_ge hP hd hu (ce_iff.mp h)
  omega
theorem pow_le (hP : IsPow o u d P) (hd : 0 ≤ d) (hu : 0 < u) (h : ¬ Ce o u d p) : p ≤ P := by
  have h2 : Cd o u d (p - 1) := Classical.byContradiction fun k => h (ce_iff.mpr k)
  have := pow_lt hP hd hu h2
  omega
end
/-- half to even, as the law says it -/
def lawM (s u : Int) : Int := if u < 2 * (s - s.fdiv u * u) then s.fdiv u + 1 else if 2 * (s - s.fdiv u * u) = u then (if (s.fdiv u).fmod 2 = 1 then s.fdiv u + 1 else s.fdiv u) else s.fdiv u
section
variable {s u : Int}
theorem lm_up1 (h : u < 2 * (s - s.fdiv u * u)) : lawM s u = s.fdiv u + 1 := by rw [lawM, if_pos h]
theorem lm_up2 (h : ¬ u < 2 * (s - s.fdiv u * u)) (h2 : 2 * (s - s.fdiv u * u) = u) (h3 : (s.fdiv u).fmod 2 = 1) : lawM s u = s.fdiv u + 1 := by rw [lawM, if_neg h, if_pos h2, if_pos h3]
theorem lm_dn1 (h : ¬ u < 2 * (s - s.fdiv u * u)) (h2 : 2 * (s - s.fdiv u * u) = u) (h3 : (s.fdiv u).fmod 2 ≠ 1) : lawM s u = s.fdiv u := by rw [lawM, if_neg h, if_pos h2, if_neg h3]
theorem lm_dn2 (h : ¬ u < 2 * (s - s.fdiv u * u)) (h2 : 2 * (s - s.fdiv u * u) ≠ u) : lawM s u = s.fdiv u := by rw [lawM, if_neg h, if_neg h2]
theorem lawM_eq (s u : Int) : lawM s u = rheF s u := by
  have e : s - s.fdiv u * u = s.fmod u := by rw [Int.fmod_def, Int.mul_comm]
  unfold lawM rheF
  rw [e]
end
/-- size and unit of a fraction at the power P -/
def sizeR (o P : Int) : Int := (if o < 0 then -o else o) * 10 ^ (if 0 > -P then 0 else -P).toNat
def unitR (u P : Int) : Int := u * 10 ^ (if 0 > P then 0 else P).toNat
/-- _law_rounded of a fraction that is not nought, at its power: none where it gives None -/
def lawR (o u top P : Int) : Option (Int × Int) :=
  if top < P + cdZ (lawM (sizeR o P) (unitR u P)) - 1 then none
  else if P + cdZ (lawM (sizeR o P) (unitR u P)) - 1 < 0 - top then some (0, 1)
  else some (lawM (sizeR o P) (unitR u P) * 10 ^ (if 0 > P then 0 else P).toNat * (if 0 < o then 1 else -1), 10 ^ (if 0 > -P then 0 else -P).toNat)
section
variable {o u d top P p k n : Int}
theorem sizeR_nonneg : 0 ≤ sizeR o P := Int.mul_nonneg (by split <;> omega) (Int.le_of_lt (pow10Z_pos _))
theorem unitR_pos (hu : 0 < u) : 0 < unitR u P := Int.mul_pos hu (pow10Z_pos _)
theorem size_lt (hd : 0 ≤ d) (hu : 0 < u) (hP : IsPow o u d P) : sizeR o P < unitR u P * 10 ^ d.toNat := by
  have h := hP.top
  unfold Cd at h
  have e : unitR u P * 10 ^ d.toNat = u * 10 ^ (d + if 0 > P then 0 else P).toNat := by
    unfold unitR
    rw [Int.mul_assoc, ← powZ_split (by split <;> omega) hd, Int.add_comm]
  rw [e]
  exact Int.not_le.mp h
theorem quo_small (hd : 0 ≤ d) (hd5 : d ≤ 5) (hu : 0 < u) (hP : IsPow o u d P) : 0 ≤ (sizeR o P).fdiv (unitR u P) ∧ (sizeR o P).fdiv (unitR u P) < 100000 := by
  have h1 := size_lt hd hu hP
  have hU := unitR_pos (P := P) hu
  rw [fdivp _ (Int.le_of_lt hU)]
  refine ⟨Int.ediv_nonneg sizeR_nonneg (Int.le_of_lt hU), ?_⟩
  have h2 : sizeR o P / unitR u P < 10 ^ d.toNat := Int.ediv_lt_of_lt_mul hU (by rw [Int.mul_comm]; exact h1)
  have h3 := powZ_mono hd5
  have e : (10 : Int) ^ (5 : Int).toNat = 100000 := by decide
  omega
theorem quo_pos (hd : 1 ≤ d) (hu : 0 < u) (hP : IsPow o u d P) : 0 < (sizeR o P).fdiv (unitR u P) := by
  have hU := unitR_pos (P := P) hu
  rw [fdivp _ (Int.le_of_lt hU)]
  have h := hP.low
  unfold Cd at h
  rw [show (-(P - 1) : Int) = 1 - P by omega] at h
  have h1 : unitR u P ≤ sizeR o P := by
    unfold unitR sizeR
    generalize (if o < 0 then -o else o) = A at *
    by_cases hp : 1 ≤ P
    · rw [if_neg (by omega), show (if 0 > 1 - P then (0 : Int) else 1 - P) = 0 by split <;> omega] at h
      rw [if_neg (by omega), show (if 0 > -P then (0 : Int) else -P) = 0 by split <;> omega]
      refine Int.le_trans (Int.mul_le_mul_of_nonneg_left (powZ_mono ?_) (Int.le_of_lt hu)) h
      omega
    · rw [show (if 0 > P - 1 then (0 : Int) else P - 1) = 0 by split <;> omega, if_neg (by omega)] at h
      rw [show (if 0 > P then (0 : Int) else P) = 0 by split <;> omega, show (if 0 > -P then (0 : Int) else -P) = -P by split <;> omega]
      have e1 : (10 : Int) ^ (1 - P).toNat = 10 ^ (-P).toNat * 10 := by
        rw [show (1 - P : Int) = -P + 1 by omega, powZ_split (by omega) (by omega)]; rfl
      have e2 : (10 : Int) ^ (d + 0).toNat = 10 ^ (d - 1).toNat * 10 := by
        rw [show (d + 0 : Int) = (d - 1) + 1 by omega, powZ_split (by omega) (by omega)]; rfl
      rw [e1, e2, ← Int.mul_assoc, ← Int.mul_assoc] at h
      have h' : u * 10 ^ (d - 1).toNat ≤ A * 10 ^ (-P).toNat := Int.le_of_mul_le_mul_right h (by decide)
      refine Int.le_trans (Int.mul_le_mul_of_nonneg_left (powZ_mono ?_) (Int.le_of_lt hu)) h'
      omega
  have := Int.ediv_le_ediv hU h1
  rw [Int.ediv_self (Int.ne_of_gt hU)] at this
  omega
end
section
variable {u e x y : Int} {k : Int}
theorem lp_turn (h : ∃ j : Nat, u = 10 ^ j ∧ e = (j : Int) - k) (h1 : 1 < u) : ∃ j : Nat, u.fdiv 10 = 10 ^ j ∧ e - 1 = (j : Int) - k := by
  obtain ⟨j, rfl, rfl⟩ := h
  cases j with
  | zero => simp at h1
  | succ j =>
    refine ⟨j, ?_, by omega⟩
    rw [fdivp _ (by decide), Int.pow_succ, Int.mul_ediv_cancel _ (by decide)]
theorem lp_end (h : ∃ j : Nat, u = 10 ^ j ∧ e = (j : Int) - k) (h1 : ¬ 1 < u) : e = -k := by
  obtain ⟨j, rfl, rfl⟩ := h
  cases j with
  | zero => omega
  | succ j =>
    exfalso
    apply h1
    have := pow10Z_pos j
    rw [Int.pow_succ]
    omega
theorem lp2_turn {p : Int × Int} {o : Int} (h : (o = 0 ∧ x = 0) ∨ (x ≠ 0 ∧ strip x y = p)) (h1 : x ≠ 0) (h2 : x.fmod 10 = 0) : (o = 0 ∧ x.fdiv 10 = 0) ∨ (x.fdiv 10 ≠ 0 ∧ strip (x.fdiv 10) (y + 1) = p) := by
  rcases h with h | h
  · exact absurd h.2 h1
  · exact .inr (strip_turn h.1 h.2 h2)
end
section
variable {x y o k : Int} {p : Int × Int}
theorem lp2_a (h : (o = 0 ∧ x = 0) ∨ (x ≠ 0 ∧ strip x y = p)) (h1 : x ≠ 0) (h2 : ¬ x.fmod 10 = 0) : x = p.1 := by
  rcases h with h | h
  · exact absurd h.2 h1
  · exact strip_end1 h.2 h.1 h2
theorem lp2_b (h : (o = 0 ∧ x = 0) ∨ (x ≠ 0 ∧ strip x y = p)) (h1 : x ≠ 0) (h2 : ¬ x.fmod 10 = 0) : y = p.2 := by
  rcases h with h | h
  · exact absurd h.2 h1
  · exact strip_end2 h.2 h.1 h2
theorem lp2_z (h : (o = 0 ∧ x = 0) ∨ (x ≠ 0 ∧ strip x y = strip o (-k))) (h1 : x = 0) : strip o (-k) = (0, 0) := by
  rcases h with h | h
  · rw [h.1, strip_zero]
  · exact absurd h1 h.1
end
end

section
/-- a fraction's power, reckoned from the numbers of digits -/
noncomputable def powF (o u d : Int) : Int := open Classical in if Cd o u d (cdZ o - cdZ u - d) then cdZ o - cdZ u - d + 1 else cdZ o - cdZ u - d
theorem abs_ge {o : Int} (h : o ≠ 0) : (10 : Int) ^ (cdZ o - 1).toNat ≤ if o < 0 then -o else o := by
  have h1 := cd_ge (n := o.natAbs) (by omega)
  have e : ((10 ^ (cd o.natAbs - 1) : Nat) : Int) = (10 : Int) ^ (cdZ o - 1).toNat := by
    rw [Int.natCast_pow]; congr 1; unfold cdZ; omega
  split <;> omega
theorem abs_lt (o : Int) : (if o < 0 then -o else o) < (10 : Int) ^ (cdZ o).toNat := by
  have h1 := cd_lt (n := o.natAbs)
  have e : ((10 ^ (cd o.natAbs) : Nat) : Int) = (10 : Int) ^ (cdZ o).toNat := by
    rw [Int.natCast_pow]; congr 1
  split <;> omega
theorem cdZ_pos {o : Int} (h : o ≠ 0) : 1 ≤ cdZ o := by
  have := cd_pos' (n := o.natAbs) (by omega)
  unfold cdZ; omega
theorem abs_pos_eq {u : Int} (h : 0 < u) : (if u < 0 then -u else u) = u := if_neg (by omega)
theorem isPow_powF {o u d : Int} (ho : o ≠ 0) (hu : 0 < u) (hd : 0 ≤ d) : IsPow o u d (powF o u d) := by
  have a1 := abs_ge ho
  have a2 := abs_lt o
  have b1 := abs_ge (o := u) (by omega)
  have b2 := abs_lt u
  rw [abs_pos_eq hu] at b1 b2
  have c1 := cdZ_pos ho
  have c2 := cdZ_pos (o := u) (by omega)
  generalize hA : (if o < 0 then -o else o) = A at *
  unfold powF
  split
  · rename_i h
    refine ⟨fun k => ?_, by rw [show cdZ o - cdZ u - d + 1 - 1 = cdZ o - cdZ u - d by omega]; exact h⟩
    have k' := (cd_key (N := cdZ u + d) hd (by omega) (by omega)).mp k
    rw [hA, show d + (cdZ o - cdZ u - d + 1) + (cdZ u + d) = (cdZ o + d) + 1 by omega] at k'
    have e : (10 : Int) ^ (cdZ o + d + 1).toNat = 10 ^ (cdZ o).toNat * 10 ^ (d + 1).toNat := by rw [show cdZ o + d + 1 = cdZ o + (d + 1) by omega]; exact powZ_split (by omega) (by omega)
    have e2 : (10 : Int) ^ (cdZ u + d).toNat * 10 = 10 ^ (cdZ u - 1).toNat * 10 ^ (d + 1).toNat * 10 := by
      rw [← powZ_split (by omega) (by omega)]; congr 2; omega
    have e2' : (10 : Int) ^ (cdZ u + d).toNat = 10 ^ (cdZ u - 1).toNat * 10 ^ (d + 1).toNat := by omega
    rw [e, e2', ← Int.mul_assoc, ← Int.mul_assoc] at k'
    have k2 : u * 10 ^ (cdZ o).toNat ≤ A * 10 ^ (cdZ u - 1).toNat := Int.le_of_mul_le_mul_right k' (pow10Z_pos _)
    have k3 : A * 10 ^ (cdZ u - 1).toNat < 10 ^ (cdZ o).toNat * 10 ^ (cdZ u - 1).toNat := Int.mul_lt_mul_of_pos_right a2 (pow10Z_pos _)
    have k4 : 10 ^ (cdZ u - 1).toNat * 10 ^ (cdZ o).toNat ≤ u * 10 ^ (cdZ o).toNat := Int.mul_le_mul_of_nonneg_right b1 (Int.le_of_lt (pow10Z_pos _))
    rw [Int.mul_comm (10 ^ (cdZ u - 1).toNat)] at k4
    omega
  · rename_i h
    refine ⟨h, ?_⟩
    refine (cd_key (N := cdZ u + d) hd (by omega) (by omega)).mpr ?_
    rw [hA, show d + (cdZ o - cdZ u - d - 1) + (cdZ u + d) = (cdZ o - 1) + d by omega, powZ_split (by omega) hd, powZ_split (by omega) hd, ← Int.mul_assoc, ← Int.mul_assoc]
    refine Int.mul_le_mul_of_nonneg_right ?_ (Int.le_of_lt (pow10Z_pos _))
    rw [Int.mul_comm A]
    exact Int.mul_le_mul (Int.le_of_lt b2) a1 (Int.le_of_lt (pow10Z_pos _)) (Int.le_of_lt (pow10Z_pos _)) |> fun h => h
theorem powF_bounds {o u d : Int} {a : Nat} (bo : Bd o a) (bu : Bd u a) (hd : 0 ≤ d) (hd5 : d ≤ 5) : -a - 5 ≤ powF o u d ∧ powF o u d ≤ a + 1 := by
  have h1 := cdZ_bd bo
  have h2 := cdZ_bd bu
  have h3 := cdZ_nonneg o
  have h4 := cdZ_nonneg u
  unfold powF
  split <;> omega
/-- _law_rounded -/
noncomputable def lawF (o u d top : Int) : Option (Int × Int) := if o = 0 then some (0, 1) else lawR o u top (powF o u d)
theorem lawF_zero (u d top : Int) : lawF 0 u d top = some (0, 1) := if_pos rfl
theorem lawF_ne {o u d top : Int} (h : o ≠ 0) : lawF o u d top = lawR o u top (powF o u d) := if_neg h
section
variable {o u d top P a b : Int}
theorem lawM_bounds (hd : 1 ≤ d) (hd5 : d ≤ 5) (hu : 0 < u) (hP : IsPow o u d P) : 0 < lawM (sizeR o P) (unitR u P) ∧ lawM (sizeR o P) (unitR u P) ≤ 100000 := by
  have h1 := quo_small (by omega) hd5 hu hP
  have h2 := quo_pos hd hu hP
  unfold lawM
  (repeat' split) <;> omega
theorem bd_pow' {k n : Nat} (h : k < n) : Bd (10 ^ k) n := by
  unfold Bd
  rw [Int.natAbs_pow]
  exact Nat.pow_lt_pow_right (by decide) h
theorem lawR_bd {p q : Nat} (hd : 1 ≤ d) (hd5 : d ≤ 5) (hu : 0 < u) (hP : IsPow o u d P) (hp : P ≤ p) (hq : -q ≤ P) (h : lawR o u top P = some (a, b)) : Bd a (p + 8) ∧ ∃ j : Nat, b = 10 ^ j ∧ j ≤ q := by
  have hm := lawM_bounds hd hd5 hu hP
  unfold lawR at h
  split at h
  · cases h
  · split at h
    · cases h
      exact ⟨Nat.lt_of_lt_of_le (by decide : (0 : Int).natAbs < 1) (pow10_pos _), 0, rfl, Nat.zero_le _⟩
    · have h1 := congrArg Prod.fst (Option.some.inj h)
      have h2 := congrArg Prod.snd (Option.some.inj h)
      dsimp only at h1 h2
      refine ⟨?_, _, h2.symm, by split <;> omega⟩
      rw [← h1]
      have bm : Bd (lawM (sizeR o P) (unitR u P)) 6 := by show _ < 10 ^ 6; omega
      have bs : Bd (if 0 < o then 1 else -1) 1 := by split <;> (show _ < 10 ^ 1; decide)
      have bp : Bd (10 ^ (if 0 > P then 0 else P).toNat) (p + 1) := bd_pow' (by split <;> omega)
      exact bd_up (bd_mul (bd_mul bm bp) bs) (by omega)
theorem lawF_bd (hd : 1 ≤ d) (hd5 : d ≤ 5) (hu : 0 < u) (ht : 0 ≤ top) (ht5 : top ≤ 45) (h : lawF o u d top = some (a, b)) : Bd a 60 ∧ Bd b 60 ∧ 0 < b ∧ ∃ j : Nat, b = 10 ^ j ∧ j ≤ 51 := by
  have key : Bd a 60 ∧ ∃ j : Nat, b = 10 ^ j ∧ j ≤ 51 := by
    by_cases h0 : o = 0
    · subst h0
      rw [lawF_zero] at h
      cases h
      exact ⟨Nat.lt_of_lt_of_le (by decide : (0 : Int).natAbs < 1) (pow10_pos _), 0, rfl, Nat.zero_le _⟩
    · rw [lawF_ne h0] at h
      have hP := isPow_powF (d := d) h0 hu (by omega)
      generalize powF o u d = P at *
      have hm := lawM_bounds hd hd5 hu hP
      have c1 := cdZ_pos (o := lawM (sizeR o P) (unitR u P)) (by omega)
      have c2 : cdZ (lawM (sizeR o P) (unitR u P)) ≤ ((6 : Nat) : Int) := cdZ_bd (by show _ < 10 ^ 6; omega)
      by_cases hlt : P + cdZ (lawM (sizeR o P) (unitR u P)) - 1 < 0 - top
      · unfold lawR at h
        rw [if_neg (by omega), if_pos hlt] at h
        cases h
        exact ⟨Nat.lt_of_lt_of_le (by decide : (0 : Int).natAbs < 1) (pow10_pos _), 0, rfl, Nat.zero_le _⟩
      · have hle : ¬ top < P + cdZ (lawM (sizeR o P) (unitR u P)) - 1 := fun k => by
          unfold lawR at h
          rw [if_pos k] at h
          cases h
        exact (fun r => ⟨bd_up r.1 (by decide), r.2⟩) (lawR_bd (p := 45) (q := 51) hd hd5 hu hP (by omega) (by omega) h)
  obtain ⟨k1, j, rfl, hj⟩ := key
  exact ⟨k1, bd_pow' (by omega), pow10Z_pos _, j, rfl, hj⟩
end
end

section
/-- floor of a ratio does not change with the ratio's form -/
theorem fd_scale {a p k : Int} (hp : 0 < p) (hk : 0 < k) : (a * k).fdiv (p * k) = a.fdiv p := by
  rw [fdivp _ (Int.le_of_lt (Int.mul_pos hp hk)), fdivp _ (Int.le_of_lt hp)]
  exact Int.mul_ediv_mul_of_pos_left a p hk
theorem fm_scale {a p k : Int} (hp : 0 < p) (hk : 0 < k) : (a * k).fmod (p * k) = a.fmod p * k := by
  rw [fmodp _ (Int.le_of_lt (Int.mul_pos hp hk)), fmodp _ (Int.le_of_lt hp)]
  rw [Int.mul_comm a k, Int.mul_comm p k, Int.mul_emod_mul_of_pos _ _ hk, Int.mul_comm]
theorem rhe_scale {a p k : Int} (hp : 0 < p) (hk : 0 < k) : rheF (a * k) (p * k) = rheF a p := by
  unfold rheF
  rw [fd_scale hp hk, fm_scale hp hk]
  have e : 2 * (a.fmod p * k) = (2 * a.fmod p) * k := by rw [Int.mul_assoc]
  rw [e]
  have h1 : (p * k < 2 * a.fmod p * k) ↔ p < 2 * a.fmod p := ⟨fun h => Int.lt_of_mul_lt_mul_right h (Int.le_of_lt hk), fun h => Int.mul_lt_mul_of_pos_right h hk⟩
  have h2 : (2 * a.fmod p * k = p * k) ↔ 2 * a.fmod p = p := ⟨fun h => Int.eq_of_mul_eq_mul_right (Int.ne_of_gt hk) h, fun h => by rw [h]⟩
  simp only [h1, h2]
theorem rhe_ratio {a p b q : Int} (hp : 0 < p) (hq : 0 < q) (h : a * q = b * p) : rheF a p = rheF b q := by
  rw [← rhe_scale (a := a) hp hq, h, Int.mul_comm p q, rhe_scale hq hp]
theorem rhe_one (a : Int) : rheF a 1 = a := by
  unfold rheF
  have h1 : a.fdiv 1 = a := by rw [fdivp _ (by decide)]; exact Int.ediv_one a
  have h2 : a.fmod 1 = 0 := by rw [fmodp _ (by decide)]; exact Int.emod_one a
  rw [h1, h2]
  simp
/-- a digit that tells a rest rounds as the rest does -/
theorem rhe_sticky {n b h : Int} (hb : 0 < b) (hh : 0 < h) :
    rheF (10 * n.fdiv b + if n.fmod b = 0 then 0 else 1) (10 * (2 * h)) = rheF n (b * (2 * h)) := by
  have hP : 0 < 2 * h := by omega
  have hbP : 0 < b * (2 * h) := Int.mul_pos hb hP
  have e1 : b * n.fdiv b + n.fmod b = n := by rw [Int.fmod_def]; omega
  have r0 : 0 ≤ n.fmod b := Int.fmod_nonneg_of_pos n hb
  have r1 : n.fmod b < b := Int.fmod_lt_of_pos n hb
  generalize hK : n.fdiv b = K at *
  generalize hr : n.fmod b = r at *
  have e2 : (2 * h) * K.fdiv (2 * h) + K.fmod (2 * h) = K := by rw [Int.fmod_def]; omega
  have t0 : 0 ≤ K.fmod (2 * h) := Int.fmod_nonneg_of_pos K hP
  have t1 : K.fmod (2 * h) < 2 * h := Int.fmod_lt_of_pos K hP
  generalize hq : K.fdiv (2 * h) = q at *
  generalize ht : K.fmod (2 * h) = t at *
  have s01 : (0 : Int) ≤ (if r = 0 then 0 else 1) ∧ (if r = 0 then (0 : Int) else 1) ≤ 1 := by split <;> omega
  generalize hs : (if r = 0 then (0 : Int) else 1) = σ at *
  -- the two floors
  have f1 : (10 * K + σ) = (10 * (2 * h)) * q + (10 * t + σ) := by
    have : 10 * K = (10 * (2 * h)) * q + 10 * t := by rw [← e2, Int.mul_add, ← Int.mul_assoc]
    omega
  have btr : b * t + r < b * (2 * h) := by
    have : b * t ≤ b * (2 * h - 1) := Int.mul_le_mul_of_nonneg_left (by omega) (Int.le_of_lt hb)
    rw [Int.mul_sub, Int.mul_one] at this
    omega
  have bt0 : 0 ≤ b * t := Int.mul_nonneg (Int.le_of_lt hb) t0
  have f2 : n = (b * (2 * h)) * q + (b * t + r) := by
    have : b * K = (b * (2 * h)) * q + b * t := by rw [← e2, Int.mul_add, ← Int.mul_assoc]
    omega
  have d1 : (10 * K + σ).fdiv (10 * (2 * h)) = q := by
    rw [f1, fdivp _ (by omega), Int.add_comm, Int.add_mul_ediv_left _ _ (by omega), Int.ediv_eq_zero_of_lt (by omega) (by omega), Int.zero_add]
  have d2 : n.fdiv (b * (2 * h)) = q := by
    rw [f2, fdivp _ (by omega), Int.add_comm, Int.add_mul_ediv_left _ _ (by omega), Int.ediv_eq_zero_of_lt (by omega) (by omega), Int.zero_add]
  have m1 : (10 * K + σ).fmod (10 * (2 * h)) = 10 * t + σ := by
    rw [f1, fmodp _ (by omega), Int.add_comm, Int.add_mul_emod_self_left, Int.emod_eq_of_lt (by omega) (by omega)]
  have m2 : n.fmod (b * (2 * h)) = b * t + r := by
    rw [f2, fmodp _ (by omega), Int.add_comm, Int.add_mul_emod_self_left, Int.emod_eq_of_lt (by omega) (by omega)]
  unfold rheF
  rw [d1, d2, m1, m2]
  have eb : b * (2 * h) = 2 * (b * h) := by rw [← Int.mul_assoc, Int.mul_comm b 2, Int.mul_assoc]
  have c1 : (10 * (2 * h) < 2 * (10 * t + σ)) ↔ (b * (2 * h) < 2 * (b * t + r)) := by
    rw [eb]
    rcases (show t < h ∨ t = h ∨ h < t by omega) with g | g | g
    · have : b * t ≤ b * (h - 1) := Int.mul_le_mul_of_nonneg_left (by omega) (Int.le_of_lt hb)
      rw [Int.mul_sub, Int.mul_one] at this
      constructor <;> intro <;> omega
    · subst g
      split at hs <;> constructor <;> intro <;> omega
    · have : b * (h + 1) ≤ b * t := Int.mul_le_mul_of_nonneg_left (by omega) (Int.le_of_lt hb)
      rw [Int.mul_add, Int.mul_one] at this
      constructor <;> intro <;> omega
  have c2 : (2 * (10 * t + σ) = 10 * (2 * h)) ↔ (2 * (b * t + r) = b * (2 * h)) := by
    rw [eb]
    rcases (show t < h ∨ t = h ∨ h < t by omega) with g | g | g
    · have : b * t ≤ b * (h - 1) := Int.mul_le_mul_of_nonneg_left (by omega) (Int.le_of_lt hb)
      rw [Int.mul_sub, Int.mul_one] at this
      constructor <;> intro <;> omega
    · subst g
      split at hs <;> constructor <;> intro <;> omega
    · have : b * (h + 1) ≤ b * t := Int.mul_le_mul_of_nonneg_left (by omega) (Int.le_of_lt hb)
      rw [Int.mul_add, Int.mul_one] at this
      constructor <;> intro <;> omega
  simp only [c1, c2]
end

section
def outs (H : Int) (l : List Int) (x : Int) : List Int := if 0 - H ≤ x ∧ x < H then l else l ++ [x]
/-- _law_due of whole numbers -/
def dueI (f l st k : Int) : Option Int :=
  if st = 0 then none else if (decide (l - f + st < 0) == decide (st < 0)) = true then
    (if List.foldl (outs (2 ^ (k - 1).toNat)) [] [l - f, l - f + st, (if l - f + st < 0 then -(l - f + st) else l - f + st).fdiv (if st < 0 then -st else st) * 1] = [] then
      some (if 0 > (if l - f + st < 0 then -(l - f + st) else l - f + st).fdiv (if st < 0 then -st else st) * 1 then 0 else (if l - f + st < 0 then -(l - f + st) else l - f + st).fdiv (if st < 0 then -st else st) * 1) else none)
  else (if List.foldl (outs (2 ^ (k - 1).toNat)) [] [l - f, l - f + st, (if l - f + st < 0 then -(l - f + st) else l - f + st).fdiv (if st < 0 then -st else st) * -1] = [] then
      some (if 0 > (if l - f + st < 0 then -(l - f + st) else l - f + st).fdiv (if st < 0 then -st else st) * -1 then 0 else (if l - f + st < 0 then -(l - f + st) else l - f + st).fdiv (if st < 0 then -st else st) * -1) else none)
/-- _law_due of fractions -/
noncomputable def dueR (f0 f1 l0 l1 s0 s1 k d top : Int) : Option Int :=
  if s0 = 0 then none else
    match lawF (l0 * f1 - f0 * l1) (l1 * f1) d top with
    | none => none
    | some p => match lawF (p.1 * s1 + s0 * p.2) (p.2 * s1) d top with
      | none => none
      | some q => match lawF (q.1 * s1 * (if s0 > 0 then 1 else -1)) (q.2 * (if s0 < 0 then -s0 else s0)) d top with
        | none => none
        | some r => if (if 0 > r.1 then 0 else r.1).fdiv r.2 < 2 ^ (k - 1).toNat then some ((if 0 > r.1 then 0 else r.1).fdiv r.2) else none
end

section
theorem tp_add {a b : Int} (ha : 0 ≤ a) (hb : 0 ≤ b) : (10 : Int) ^ a.toNat * 10 ^ b.toNat = 10 ^ (a + b).toNat := (powZ_split ha hb).symm
theorem tp_eq {a b : Int} (h : a = b) : (10 : Int) ^ a.toNat = 10 ^ b.toNat := by rw [h]
theorem tp_nat (k : Nat) : (10 : Int) ^ k = 10 ^ (k : Int).toNat := by rw [Int.toNat_natCast]
theorem strip_scale (R : Int) : ∀ (k : Nat) (e : Int), strip (R * 10 ^ k) e = strip R (e + k)
  | 0, e => by rw [Int.pow_zero, Int.mul_one]; congr 1; omega
  | k + 1, e => by
    by_cases h : R = 0
    · subst h; rw [Int.zero_mul, strip_zero, strip_zero]
    · have e1 : R * 10 ^ (k + 1) = R * 10 ^ k * 10 := by rw [Int.pow_succ, Int.mul_assoc]
      have h0 : R * 10 ^ k ≠ 0 := Int.mul_ne_zero h (pow10Z_ne k)
      rw [e1, strip_step (by omega) (by omega), Int.mul_ediv_cancel _ (by decide), strip_scale R k]
      congr 1; omega
theorem strip_val : ∀ (n : Nat) (o e : Int), o.natAbs ≤ n → o ≠ 0 → (strip o e).1 ≠ 0 ∧ e ≤ (strip o e).2 ∧ o = (strip o e).1 * 10 ^ ((strip o e).2 - e).toNat ∧ (strip o e).2 + cdZ (strip o e).1 = e + cdZ o
  | 0, o, e, h, h0 => absurd (show o = 0 by omega) h0
  | n + 1, o, e, h, h0 => by
    by_cases h1 : o % 10 = 0
    · rw [strip_step h0 h1]
      obtain ⟨a, b, c, d⟩ := strip_val n (o / 10) (e + 1) (by omega) (by omega)
      refine ⟨a, by omega, ?_, ?_⟩
      · have e1 : (10 : Int) ^ ((strip (o / 10) (e + 1)).2 - e).toNat = 10 ^ ((strip (o / 10) (e + 1)).2 - (e + 1)).toNat * 10 := by
          rw [show (strip (o / 10) (e + 1)).2 - e = (strip (o / 10) (e + 1)).2 - (e + 1) + 1 by omega, powZ_split (by omega) (by omega)]; rfl
        rw [e1, ← Int.mul_assoc, ← c]
        omega
      · rw [d]
        have : cdZ o = cdZ (o / 10) + 1 := by
          unfold cdZ
          rw [show (o / 10).natAbs = o.natAbs / 10 by omega]
          have := cd_pos (n := o.natAbs) (by omega)
          omega
        omega
    · rw [strip_done h0 h1]
      refine ⟨h0, Int.le_refl _, ?_, rfl⟩
      show o = o * 10 ^ (e - e).toNat
      rw [Int.sub_self]; simp
theorem pos_of_mulpow {m : Int} {k : Nat} (h : 0 < m * 10 ^ k) : 0 < m := by
  rw [Int.mul_comm] at h
  exact Int.pos_of_mul_pos_right h (pow10Z_pos _)
/-- a pair and a fraction over a power of ten are one number -/
def PF (p : Int × Int) (o u : Int) : Prop := ∃ j : Nat, u = 10 ^ j ∧ strip o (-j) = p
theorem pf_val {p : Int × Int} {o u : Int} (h : PF p o u) : ∃ j : Int, 0 ≤ j ∧ u = 10 ^ j.toNat ∧ 0 ≤ p.2 + j ∧ o = p.1 * 10 ^ (p.2 + j).toNat := by
  obtain ⟨j, rfl, rfl⟩ := h
  refine ⟨j, by omega, by rw [Int.toNat_natCast], ?_⟩
  by_cases h0 : o = 0
  · subst h0
    rw [strip_zero]
    exact ⟨by show (0 : Int) ≤ 0 + j; omega, by simp⟩
  · obtain ⟨a, b, c, d⟩ := strip_val _ o (-j) (Nat.le_refl _) h0
    refine ⟨by omega, ?_⟩
    rw [show (strip o (-j)).2 + j = (strip o (-j)).2 - (-j) by omega]
    exact c
theorem pf_zero {p : Int × Int} {o u : Int} (h : PF p o u) : p.1 = 0 ↔ o = 0 := by
  obtain ⟨j, _, _, _, e⟩ := pf_val h
  constructor
  · intro h; rw [e, h, Int.zero_mul]
  · intro h
    rw [h] at e
    rcases Int.mul_eq_zero.mp e.symm with q | q
    · exact q
    · exact absurd q (pow10Z_ne _)
theorem pf_sign {p : Int × Int} {o u : Int} (h : PF p o u) : 0 < p.1 ↔ 0 < o := by
  obtain ⟨j, _, _, _, e⟩ := pf_val h
  rw [e]
  exact ⟨fun h => Int.mul_pos h (pow10Z_pos _), pos_of_mulpow⟩
theorem cdZ_neg (x : Int) : cdZ (-x) = cdZ x := by unfold cdZ; rw [Int.natAbs_neg]
theorem abs_mulpow (m : Int) (k : Nat) : (if m * 10 ^ k < 0 then -(m * 10 ^ k) else m * 10 ^ k) = (if m < 0 then -m else m) * 10 ^ k := by
  have h := pow10Z_pos k
  by_cases h0 : m < 0
  · rw [if_pos h0, if_pos (Int.mul_neg_of_neg_of_pos h0 h), Int.neg_mul]
  · rw [if_neg h0, if_neg (Int.not_lt.mpr (Int.mul_nonneg (by omega) (Int.le_of_lt h)))]
theorem pow_unique {o u d P P' : Int} (hd : 0 ≤ d) (hu : 0 < u) (h : IsPow o u d P) (h' : IsPow o u d P') : P = P' := by
  have a := pow_lt h hd hu h'.low
  have b := pow_lt h' hd hu h.low
  omega
/-- the two roundings are one -/
def Rel (a b : Option (Int × Int)) : Prop := (a = none ∧ b = none) ∨ ∃ p q, a = some p ∧ b = some q ∧ PF p q.1 q.2
theorem rel_of {m e d o u top P R : Int} (ho : o ≠ 0) (hu : 0 < u) (hd : 1 ≤ d) (hd5 : d ≤ 5) (ht : 0 ≤ top) (hP : IsPow o u d P) (hR : R = lawM (sizeR o P) (unitR u P))
    (hs : roundD m e d = strip (R * if 0 < o then 1 else -1) P) : Rel (roundR m e d top) (lawF o u d top) := by
  have hm := lawM_bounds hd hd5 hu hP
  rw [← hR] at hm
  have hP' := isPow_powF (d := d) ho hu (by omega)
  rw [lawF_ne ho, ← pow_unique (by omega) hu hP hP']
  have hne : (R * if 0 < o then 1 else -1) ≠ 0 := by split <;> omega
  have hcd : cdZ (R * if 0 < o then 1 else -1) = cdZ R := by
    split
    · rw [Int.mul_one]
    · rw [show R * -1 = -R by omega, cdZ_neg]
  obtain ⟨a, _, _, l⟩ := strip_val _ _ P (Nat.le_refl _) hne
  rw [← hs] at a l
  rw [hcd] at l
  unfold roundR lawR
  rw [if_neg a, l, ← hR]
  by_cases c1 : P + cdZ R - 1 < -top
  · rw [if_pos c1, if_neg (by omega), if_pos (by omega)]
    exact .inr ⟨_, _, rfl, rfl, 0, rfl, strip_zero _⟩
  · rw [if_neg c1]
    by_cases c2 : top < P + cdZ R - 1
    · rw [if_pos c2, if_pos c2]
      exact .inl ⟨rfl, rfl⟩
    · rw [if_neg c2, if_neg c2, if_neg (by omega)]
      refine .inr ⟨_, _, rfl, rfl, _, rfl, ?_⟩
      dsimp only
      rw [hs]
      by_cases hp : 0 ≤ P
      · rw [show (if 0 > P then (0 : Int) else P) = P by split <;> omega, show (if 0 > -P then (0 : Int) else -P) = 0 by split <;> omega,
          Int.mul_assoc, Int.mul_comm (10 ^ P.toNat), ← Int.mul_assoc, strip_scale]
        congr 1
        simp; omega
      · rw [show (if 0 > P then (0 : Int) else P) = 0 by split <;> omega, show (if 0 > -P then (0 : Int) else -P) = -P by split <;> omega]
        rw [show (0 : Int).toNat = 0 by rfl, Int.pow_zero, Int.mul_one]
        congr 1; omega
theorem roundD_sgn {m e d : Int} (h : 0 < cdZ m - d) (h0 : m ≠ 0) : roundD m e d = strip (rheF (if m < 0 then -m else m) (10 ^ (cdZ m - d).toNat) * if 0 < m then 1 else -1) (e + (cdZ m - d)) := by
  rw [roundD, if_pos h]
  congr 1
  split <;> omega
theorem abs_sgn {m : Int} (h0 : m ≠ 0) : m = (if m < 0 then -m else m) * if 0 < m then 1 else -1 := by
  split <;> split <;> omega
theorem rel_exact {m e d o u top J : Int} (hJ : 0 ≤ J) (hu : u = 10 ^ J.toNat) (he : 0 ≤ e + J) (ho : o = m * 10 ^ (e + J).toNat) (hd : 1 ≤ d) (hd5 : d ≤ 5) (ht : 0 ≤ top) :
    Rel (roundR m e d top) (lawF o u d top) := by
  by_cases h0 : m = 0
  · subst h0
    rw [Int.zero_mul] at ho
    subst ho
    rw [lawF_zero, roundR_nil1 (by rw [roundD_no (by rw [cdZ_zero]; omega), strip_zero])]
    exact .inr ⟨_, _, rfl, rfl, 0, rfl, strip_zero _⟩
  · have hu0 : 0 < u := hu ▸ pow10Z_pos _
    have ho0 : o ≠ 0 := ho ▸ Int.mul_ne_zero h0 (pow10Z_ne _)
    have hsg : (0 < o) ↔ (0 < m) := by
      rw [ho]
      exact ⟨pos_of_mulpow, fun h => Int.mul_pos h (pow10Z_pos _)⟩
    have ha : (if o < 0 then -o else o) = (if m < 0 then -m else m) * 10 ^ (e + J).toNat := by rw [ho]; exact abs_mulpow m _
    have m1 := abs_ge h0
    have m2 := abs_lt m
    have m3 := cdZ_pos h0
    generalize hA : (if m < 0 then -m else m) = A at *
    have hP : IsPow o u d (e + (cdZ m - d)) := by
      -- a common power
      obtain ⟨N, hN0, hN1, hN2⟩ : ∃ N : Int, 0 ≤ N ∧ 0 ≤ e + N - d ∧ 0 ≤ e + N := ⟨(if e < 0 then -e else e) + d, by split <;> omega, by split <;> omega, by split <;> omega⟩
      have e2 : (if o < 0 then -o else o) * 10 ^ N.toNat = A * 10 ^ (e + J + N).toNat := by
        rw [ha, Int.mul_assoc, tp_add he hN0]
      refine ⟨fun k => ?_, ?_⟩
      · have k' := (cd_key (N := N) (by omega) hN0 (by omega)).mp k
        rw [e2, hu, tp_add hJ (by omega)] at k'
        have k2 : A * 10 ^ (e + J + N).toNat < 10 ^ (cdZ m).toNat * 10 ^ (e + J + N).toNat := Int.mul_lt_mul_of_pos_right m2 (pow10Z_pos _)
        rw [tp_add (by omega) (by omega), tp_eq (show cdZ m + (e + J + N) = J + (d + (e + (cdZ m - d)) + N) by omega)] at k2
        omega
      · refine (cd_key (N := N) (by omega) hN0 (by omega)).mpr ?_
        rw [e2, hu, tp_add hJ (by omega)]
        have k2 : 10 ^ (cdZ m - 1).toNat * 10 ^ (e + J + N).toNat ≤ A * 10 ^ (e + J + N).toNat := Int.mul_le_mul_of_nonneg_right m1 (Int.le_of_lt (pow10Z_pos _))
        rw [tp_add (by omega) (by omega), tp_eq (show (cdZ m - 1) + (e + J + N) = J + (d + (e + (cdZ m - d) - 1) + N) by omega)] at k2
        exact k2
    have hpp : 0 ≤ (if 0 > e + (cdZ m - d) then 0 else e + (cdZ m - d)) := by split <;> omega
    have hpm : 0 ≤ (if 0 > -(e + (cdZ m - d)) then 0 else -(e + (cdZ m - d))) := by split <;> omega
    have hpd : (if 0 > e + (cdZ m - d) then 0 else e + (cdZ m - d)) - (if 0 > -(e + (cdZ m - d)) then 0 else -(e + (cdZ m - d))) = e + (cdZ m - d) := by split <;> split <;> omega
    by_cases hc : 0 < cdZ m - d
    · refine rel_of ho0 hu0 hd hd5 ht hP ?_ (by rw [roundD_sgn hc h0]; simp only [hsg]; rfl)
      rw [lawM_eq, hA]
      refine rhe_ratio (pow10Z_pos _) (unitR_pos hu0) ?_
      unfold unitR sizeR
      generalize (if 0 > e + (cdZ m - d) then 0 else e + (cdZ m - d)) = a at *
      generalize (if 0 > -(e + (cdZ m - d)) then 0 else -(e + (cdZ m - d))) = b at *
      rw [ha, hu, Int.mul_assoc A, Int.mul_assoc A, tp_add hJ (by omega), tp_add (by omega) (by omega), tp_add (by omega) (by omega), tp_eq (show J + a = e + J + b + (cdZ m - d) by omega)]
    · refine rel_of (R := A * 10 ^ (-(cdZ m - d)).toNat) ho0 hu0 hd hd5 ht hP ?_ ?_
      · rw [lawM_eq, ← rhe_one (A * _)]
        refine rhe_ratio (by decide) (unitR_pos hu0) ?_
        unfold unitR sizeR
        generalize (if 0 > e + (cdZ m - d) then 0 else e + (cdZ m - d)) = a at *
        generalize (if 0 > -(e + (cdZ m - d)) then 0 else -(e + (cdZ m - d))) = b at *
        rw [ha, hu, Int.mul_one, Int.mul_assoc A, Int.mul_assoc A, tp_add hJ (by omega), tp_add (by omega) (by omega), tp_add (by omega) (by omega), tp_eq (show -(cdZ m - d) + (J + a) = e + J + b by omega)]
      · rw [roundD_no hc]
        simp only [hsg]
        rw [Int.mul_assoc, Int.mul_comm (10 ^ _), ← Int.mul_assoc, strip_scale]
        have e3 : A * (if 0 < m then 1 else -1) = m := by rw [← hA]; exact (abs_sgn h0).symm
        rw [e3]
        congr 1
        omega
end

section
theorem quot_K {A b d : Int} (hA : A ≠ 0) (hb : b ≠ 0) (hd : 0 ≤ d) : 10 ^ (d + 1).toNat ≤ (numQ A b d).fdiv (if b < 0 then -b else b) := by
  have a1 := abs_ge hA
  have b2 := abs_lt b
  have c1 := cdZ_pos hA
  have c2 := cdZ_pos hb
  have hb' : 0 < (if b < 0 then -b else b) := by split <;> omega
  have hS : 0 ≤ shiftQ A b d ∧ d + 2 + cdZ b - cdZ A ≤ shiftQ A b d := by unfold shiftQ; split <;> omega
  rw [fdivp _ (Int.le_of_lt hb')]
  refine Int.le_ediv_of_mul_le hb' ?_
  unfold numQ
  generalize (if A < 0 then -A else A) = A' at *
  generalize (if b < 0 then -b else b) = b' at *
  have k1 : 10 ^ (cdZ A - 1).toNat * 10 ^ (shiftQ A b d).toNat ≤ A' * 10 ^ (shiftQ A b d).toNat := Int.mul_le_mul_of_nonneg_right a1 (Int.le_of_lt (pow10Z_pos _))
  rw [tp_add (by omega) hS.1] at k1
  have k2 : 10 ^ (d + 1).toNat * b' ≤ 10 ^ (d + 1).toNat * 10 ^ (cdZ b).toNat := Int.mul_le_mul_of_nonneg_left (Int.le_of_lt b2) (Int.le_of_lt (pow10Z_pos _))
  rw [tp_add (by omega) (by omega)] at k2
  have k3 := powZ_mono (show d + 1 + cdZ b ≤ cdZ A - 1 + shiftQ A b d by omega)
  omega
theorem cdZ_of {x k : Int} (hk : 0 ≤ k) (h1 : 10 ^ k.toNat ≤ x) : k + 1 ≤ cdZ x := by
  have h2 := pow10Z_pos k.toNat
  have a := abs_lt x
  rw [if_neg (by omega)] at a
  rcases (show k + 1 ≤ cdZ x ∨ cdZ x ≤ k by omega) with q | q
  · exact q
  · have := powZ_mono q; omega
/-- the digits of a quotient lie between the powers that the quotient's do -/
theorem quot_between {A b d : Int} (hA : A ≠ 0) (hb : b ≠ 0) (hd : 0 ≤ d) : 0 < digQ A b d ∧ d + 3 ≤ cdZ (digQ A b d) ∧
    10 ^ (cdZ (digQ A b d) - 2).toNat * (if b < 0 then -b else b) ≤ numQ A b d ∧ numQ A b d < 10 ^ (cdZ (digQ A b d) - 1).toNat * (if b < 0 then -b else b) := by
  have hK := quot_K hA hb hd
  have hb' : 0 < (if b < 0 then -b else b) := by split <;> omega
  have hp := pow10Z_pos (d + 1).toNat
  have hs : 0 ≤ (if (numQ A b d).fmod (if b < 0 then -b else b) = 0 then (0 : Int) else 1) ∧ (if (numQ A b d).fmod (if b < 0 then -b else b) = 0 then (0 : Int) else 1) ≤ 1 := by split <;> omega
  have hD : digQ A b d = 10 * (numQ A b d).fdiv (if b < 0 then -b else b) + (if (numQ A b d).fmod (if b < 0 then -b else b) = 0 then (0 : Int) else 1) := rfl
  have hN : (if b < 0 then -b else b) * (numQ A b d).fdiv (if b < 0 then -b else b) ≤ numQ A b d ∧ numQ A b d < (if b < 0 then -b else b) * ((numQ A b d).fdiv (if b < 0 then -b else b) + 1) := by
    have e1 : (if b < 0 then -b else b) * (numQ A b d).fdiv (if b < 0 then -b else b) + (numQ A b d).fmod (if b < 0 then -b else b) = numQ A b d := by rw [Int.fmod_def]; omega
    have r0 := Int.fmod_nonneg_of_pos (numQ A b d) hb'
    have r1 := Int.fmod_lt_of_pos (numQ A b d) hb'
    rw [Int.mul_add, Int.mul_one]
    omega
  generalize (if (numQ A b d).fmod (if b < 0 then -b else b) = 0 then (0 : Int) else 1) = σ at *
  generalize (numQ A b d).fdiv (if b < 0 then -b else b) = K at *
  generalize (if b < 0 then -b else b) = b' at *
  generalize digQ A b d = D at *
  have e1 : (10 : Int) ^ (d + 2).toNat = 10 ^ (d + 1).toNat * 10 := by rw [show d + 2 = d + 1 + 1 by omega, powZ_split (by omega) (by omega)]; rfl
  have hc : d + 3 ≤ cdZ D := by have := cdZ_of (x := D) (show 0 ≤ d + 2 by omega) (by omega); omega
  have hD0 : 0 < D := by omega
  have a1 := abs_ge (o := D) (by omega)
  have a2 := abs_lt D
  rw [if_neg (by omega)] at a1 a2
  have e2 : (10 : Int) ^ (cdZ D - 1).toNat = 10 ^ (cdZ D - 2).toNat * 10 := by rw [show cdZ D - 1 = cdZ D - 2 + 1 by omega, powZ_split (by omega) (by omega)]; rfl
  have e3 : (10 : Int) ^ (cdZ D).toNat = 10 ^ (cdZ D - 1).toNat * 10 := by
    have := powZ_split (a := cdZ D - 1) (b := 1) (by omega) (by omega)
    rw [show cdZ D - 1 + 1 = cdZ D by omega] at this
    rw [this]; rfl
  refine ⟨hD0, hc, ?_, ?_⟩
  · have k1 : 10 ^ (cdZ D - 2).toNat ≤ K := by omega
    have := Int.mul_le_mul_of_nonneg_right k1 (Int.le_of_lt hb')
    rw [Int.mul_comm K] at this
    omega
  · have k1 : K + 1 ≤ 10 ^ (cdZ D - 1).toNat := by omega
    have := Int.mul_le_mul_of_nonneg_right k1 (Int.le_of_lt hb')
    rw [Int.mul_comm (K + 1)] at this
    omega
theorem numQ_eq (A b d : Int) : numQ A b d = (if A < 0 then -A else A) * 10 ^ (shiftQ A b d).toNat := rfl
theorem shiftQ_nonneg (A b d : Int) : 0 ≤ shiftQ A b d := by unfold shiftQ; split <;> omega
theorem quotM_abs {A b d : Int} (h : 0 < digQ A b d) : (if quotM A b d < 0 then -quotM A b d else quotM A b d) = digQ A b d := by
  unfold quotM
  split <;> split <;> omega
theorem quotM_cd (A b d : Int) : cdZ (quotM A b d) = cdZ (digQ A b d) := by
  unfold quotM
  split
  · exact cdZ_neg _
  · rfl
theorem pw_a {c : Int} (h : 2 ≤ c) : (10 : Int) ^ c.toNat = 10 * (2 * (5 * 10 ^ (c - 2).toNat)) := by
  have e := powZ_split (a := c - 2) (b := 2) (by omega) (by omega)
  rw [show c - 2 + 2 = c by omega, show (10 : Int) ^ (2 : Int).toNat = 100 by decide] at e
  omega
theorem pw_b {c : Int} (h : 2 ≤ c) : (2 : Int) * (5 * 10 ^ (c - 2).toNat) = 10 ^ (c - 1).toNat := by
  have e := powZ_split (a := c - 2) (b := 1) (by omega) (by omega)
  rw [show c - 2 + 1 = c - 1 by omega, show (10 : Int) ^ (1 : Int).toNat = 10 by decide] at e
  omega
/-- a quotient with its telling digit rounds as the fraction does -/
theorem rel_quot {x1 x2 y1 y2 d o u top J : Int} (hJ : 0 ≤ y2 + J) (hx : 0 ≤ x2 + J) (ho : o = x1 * 10 ^ (x2 + J).toNat * if 0 < y1 then 1 else -1) (hu : u = (if y1 < 0 then -y1 else y1) * 10 ^ (y2 + J).toNat) (hy : y1 ≠ 0) (hd : 1 ≤ d) (hd5 : d ≤ 5) (ht : 0 ≤ top) :
    Rel (rDiv x1 x2 y1 y2 d top) (lawF o u d top) := by
  unfold rDiv
  by_cases h0 : x1 = 0
  · subst h0
    rw [Int.zero_mul, Int.zero_mul] at ho
    subst ho
    have e : quotM 0 y1 d = 0 := by
      have hn : numQ 0 y1 d = 0 := by unfold numQ; simp
      unfold quotM digQ
      rw [hn, Int.zero_fdiv, Int.zero_fmod]
      split <;> rfl
    rw [lawF_zero, e, roundR_nil1 (by rw [roundD_no (by rw [cdZ_zero]; omega), strip_zero])]
    exact .inr ⟨_, _, rfl, rfl, 0, rfl, strip_zero _⟩
  · obtain ⟨D0, Dc, n1, n2⟩ := quot_between h0 hy (d := d) (by omega)
    have hb' : 0 < (if y1 < 0 then -y1 else y1) := by split <;> omega
    have hu0 : 0 < u := hu ▸ Int.mul_pos hb' (pow10Z_pos _)
    have sy : (if 0 < y1 then (1 : Int) else -1) ≠ 0 := by split <;> decide
    have ho0 : o ≠ 0 := ho ▸ Int.mul_ne_zero (Int.mul_ne_zero h0 (pow10Z_ne _)) sy
    have hS := shiftQ_nonneg x1 y1 d
    have ha : (if o < 0 then -o else o) = (if x1 < 0 then -x1 else x1) * 10 ^ (x2 + J).toNat := by
      rw [← abs_mulpow, ho]
      generalize x1 * 10 ^ (x2 + J).toNat = z
      split <;> split <;> split <;> omega
    have hsg : (0 < o) ↔ (0 < quotM x1 y1 d) := by
      have e1 : (0 < o) ↔ ((0 < x1) ↔ (0 < y1)) := by
        rw [ho]
        have hz : (0 < x1 * 10 ^ (x2 + J).toNat) ↔ (0 < x1) := ⟨pos_of_mulpow, fun h => Int.mul_pos h (pow10Z_pos _)⟩
        have hz0 : x1 * 10 ^ (x2 + J).toNat ≠ 0 := Int.mul_ne_zero h0 (pow10Z_ne _)
        generalize x1 * 10 ^ (x2 + J).toNat = z at *
        split <;> rename_i hy1 <;> constructor <;> intro h
        · exact ⟨fun _ => hy1, fun _ => hz.mp (by omega)⟩
        · have := hz.mpr (h.mpr hy1); omega
        · exact ⟨fun h' => absurd (hz.mpr h') (by omega), fun h' => absurd h' hy1⟩
        · have : ¬ 0 < z := fun q => hy1 (h.mp (hz.mp q))
          omega
      rw [e1]
      unfold quotM
      by_cases p1 : x1 < 0 <;> by_cases p2 : y1 < 0 <;> simp [p1, p2] <;> omega
    have hMne : quotM x1 y1 d ≠ 0 := by unfold quotM; split <;> omega
    have nq := numQ_eq x1 y1 d
    have hcM := quotM_cd x1 y1 d
    have hP : IsPow o u d (quotE x1 y1 (x2 - y2) d + (cdZ (quotM x1 y1 d) - d)) := by
      rw [hcM]
      unfold quotE
      obtain ⟨N, hN0, hN1, hN2⟩ : ∃ N : Int, 0 ≤ N ∧ 0 ≤ (x2 - y2 - shiftQ x1 y1 d - 1) + N - d ∧ 0 ≤ x2 + J - shiftQ x1 y1 d + N := ⟨(if (x2 - y2 - shiftQ x1 y1 d - 1) < 0 then -(x2 - y2 - shiftQ x1 y1 d - 1) else (x2 - y2 - shiftQ x1 y1 d - 1)) + d + shiftQ x1 y1 d, by split <;> omega, by split <;> omega, by split <;> omega⟩
      have e2 : (if o < 0 then -o else o) * 10 ^ N.toNat = numQ x1 y1 d * 10 ^ (x2 + J - shiftQ x1 y1 d + N).toNat := by
        rw [ha, nq, Int.mul_assoc, Int.mul_assoc, tp_add hx hN0, tp_add hS hN2]
        congr 2; omega
      generalize (if y1 < 0 then -y1 else y1) = b' at *
      generalize digQ x1 y1 d = D at *
      refine ⟨fun k => ?_, ?_⟩
      · have k' := (cd_key (N := N) (by omega) hN0 (by omega)).mp k
        rw [e2, hu, Int.mul_assoc, tp_add hJ (by omega)] at k'
        have k2 := Int.mul_lt_mul_of_pos_right n2 (pow10Z_pos (x2 + J - shiftQ x1 y1 d + N).toNat)
        rw [Int.mul_comm (10 ^ _) b', Int.mul_assoc, tp_add (by omega) hN2] at k2
        rw [tp_eq (show y2 + J + (d + (x2 - y2 - shiftQ x1 y1 d - 1 + (cdZ D - d)) + N) = cdZ D - 1 + (x2 + J - shiftQ x1 y1 d + N) by omega)] at k'
        omega
      · refine (cd_key (N := N) (by omega) hN0 (by omega)).mpr ?_
        rw [e2, hu, Int.mul_assoc, tp_add hJ (by omega)]
        have k2 := Int.mul_le_mul_of_nonneg_right n1 (Int.le_of_lt (pow10Z_pos (x2 + J - shiftQ x1 y1 d + N).toNat))
        rw [Int.mul_comm (10 ^ _) b', Int.mul_assoc, tp_add (by omega) hN2] at k2
        rw [tp_eq (show y2 + J + (d + (x2 - y2 - shiftQ x1 y1 d - 1 + (cdZ D - d) - 1) + N) = cdZ D - 2 + (x2 + J - shiftQ x1 y1 d + N) by omega)]
        exact k2
    have hc : 0 < cdZ (quotM x1 y1 d) - d := by omega
    refine rel_of ho0 hu0 hd hd5 ht hP ?_ (by rw [roundD_sgn hc hMne]; simp only [hsg]; rfl)
    rw [lawM_eq, quotM_abs D0, hcM]
    -- the telling digit
    have ec := pw_a (c := cdZ (digQ x1 y1 d) - d) (by omega)
    have ec2 := pw_b (c := cdZ (digQ x1 y1 d) - d) (by omega)
    have st := rhe_sticky (n := numQ x1 y1 d) hb' (show 0 < 5 * (10 : Int) ^ (cdZ (digQ x1 y1 d) - d - 2).toNat from Int.mul_pos (by decide) (pow10Z_pos _))
    rw [ec]
    refine Eq.trans st ?_
    rw [ec2]
    refine rhe_ratio (Int.mul_pos hb' (pow10Z_pos _)) (unitR_pos hu0) ?_
    unfold unitR sizeR quotE
    have hpp : 0 ≤ (if 0 > x2 - y2 - shiftQ x1 y1 d - 1 + (cdZ (digQ x1 y1 d) - d) then 0 else x2 - y2 - shiftQ x1 y1 d - 1 + (cdZ (digQ x1 y1 d) - d)) := by split <;> omega
    have hpm : 0 ≤ (if 0 > -(x2 - y2 - shiftQ x1 y1 d - 1 + (cdZ (digQ x1 y1 d) - d)) then 0 else -(x2 - y2 - shiftQ x1 y1 d - 1 + (cdZ (digQ x1 y1 d) - d))) := by split <;> omega
    have hpd : (if 0 > x2 - y2 - shiftQ x1 y1 d - 1 + (cdZ (digQ x1 y1 d) - d) then 0 else x2 - y2 - shiftQ x1 y1 d - 1 + (cdZ (digQ x1 y1 d) - d)) - (if 0 > -(x2 - y2 - shiftQ x1 y1 d - 1 + (cdZ (digQ x1 y1 d) - d)) then 0 else -(x2 - y2 - shiftQ x1 y1 d - 1 + (cdZ (digQ x1 y1 d) - d))) = x2 - y2 - shiftQ x1 y1 d - 1 + (cdZ (digQ x1 y1 d) - d) := by split <;> split <;> omega
    generalize (if 0 > x2 - y2 - shiftQ x1 y1 d - 1 + (cdZ (digQ x1 y1 d) - d) then 0 else x2 - y2 - shiftQ x1 y1 d - 1 + (cdZ (digQ x1 y1 d) - d)) = a at *
    generalize (if 0 > -(x2 - y2 - shiftQ x1 y1 d - 1 + (cdZ (digQ x1 y1 d) - d)) then 0 else -(x2 - y2 - shiftQ x1 y1 d - 1 + (cdZ (digQ x1 y1 d) - d))) = b at *
    rw [ha, hu, nq]
    generalize (if y1 < 0 then -y1 else y1) = B at *
    generalize (if x1 < 0 then -x1 else x1) = A at *
    have l : A * 10 ^ (shiftQ x1 y1 d).toNat * (B * 10 ^ (y2 + J).toNat * 10 ^ a.toNat) = A * B * (10 ^ (shiftQ x1 y1 d).toNat * (10 ^ (y2 + J).toNat * 10 ^ a.toNat)) := by
      simp only [Int.mul_assoc]
      rw [Int.mul_left_comm _ B]
    have r : A * 10 ^ (x2 + J).toNat * 10 ^ b.toNat * (B * 10 ^ (cdZ (digQ x1 y1 d) - d - 1).toNat) = A * B * (10 ^ (x2 + J).toNat * (10 ^ b.toNat * 10 ^ (cdZ (digQ x1 y1 d) - d - 1).toNat)) := by
      simp only [Int.mul_assoc]
      rw [Int.mul_left_comm _ B, Int.mul_left_comm _ B]
    rw [l, r, tp_add hJ hpp, tp_add hS (by omega), tp_add hpm (by omega), tp_add hx (by omega)]
    congr 2
    omega
end

section
theorem sum_val {m1 e1 m2 e2 o1 o2 : Int} {j1 j2 : Int} (h1 : 0 ≤ j1) (h2 : 0 ≤ j2) (g1 : 0 ≤ e1 + j1) (g2 : 0 ≤ e2 + j2) (q1 : o1 = m1 * 10 ^ (e1 + j1).toNat) (q2 : o2 = m2 * 10 ^ (e2 + j2).toNat) :
    0 ≤ (exactAdd m1 e1 m2 e2).2 + (j1 + j2) ∧ o1 * 10 ^ j2.toNat + o2 * 10 ^ j1.toNat = (exactAdd m1 e1 m2 e2).1 * 10 ^ ((exactAdd m1 e1 m2 e2).2 + (j1 + j2)).toNat := by
  unfold exactAdd
  dsimp only
  have hl : (if e2 < e1 then e2 else e1) ≤ e1 ∧ (if e2 < e1 then e2 else e1) ≤ e2 ∧ 0 ≤ (if e2 < e1 then e2 else e1) + (j1 + j2) := by split <;> omega
  generalize (if e2 < e1 then e2 else e1) = l at *
  refine ⟨hl.2.2, ?_⟩
  rw [q1, q2, Int.add_mul, Int.mul_assoc, Int.mul_assoc, Int.mul_assoc, Int.mul_assoc, tp_add g1 h2, tp_add g2 h1, tp_add (by omega) hl.2.2, tp_add (by omega) hl.2.2]
  congr 3 <;> congr 1 <;> omega
theorem rel_add {x1 x2 y1 y2 o1 u1 o2 u2 d top : Int} (hx : PF (x1, x2) o1 u1) (hy : PF (y1, y2) o2 u2) (hd : 1 ≤ d) (hd5 : d ≤ 5) (ht : 0 ≤ top) :
    Rel (rAdd x1 x2 y1 y2 d top) (lawF (o1 * u2 + o2 * u1) (u2 * u1) d top) := by
  obtain ⟨j1, a1, b1, c1, d1⟩ := pf_val hx
  obtain ⟨j2, a2, b2, c2, d2⟩ := pf_val hy
  dsimp only at c1 d1 c2 d2
  obtain ⟨s1, s2⟩ := sum_val a1 a2 c1 c2 d1 d2
  subst b1; subst b2
  refine rel_exact (J := j1 + j2) (by omega) ?_ s1 s2 hd hd5 ht
  rw [tp_add a2 a1]
  congr 2; omega
theorem rel_sub {x1 x2 y1 y2 o1 u1 o2 u2 d top : Int} (hx : PF (x1, x2) o1 u1) (hy : PF (y1, y2) o2 u2) (hd : 1 ≤ d) (hd5 : d ≤ 5) (ht : 0 ≤ top) :
    Rel (rSub x1 x2 y1 y2 d top) (lawF (o1 * u2 - o2 * u1) (u1 * u2) d top) := by
  obtain ⟨j1, a1, b1, c1, d1⟩ := pf_val hx
  obtain ⟨j2, a2, b2, c2, d2⟩ := pf_val hy
  dsimp only at c1 d1 c2 d2
  have d2' : -o2 = -y1 * 10 ^ (y2 + j2).toNat := by rw [d2, Int.neg_mul]
  obtain ⟨s1, s2⟩ := sum_val a1 a2 c1 c2 d1 d2'
  subst b1; subst b2
  refine rel_exact (J := j1 + j2) (by omega) ?_ s1 ?_ hd hd5 ht
  · rw [tp_add a1 a2]
  · rw [← s2, Int.neg_mul]; rfl
theorem rel_div {x1 x2 y1 y2 o1 u1 o2 u2 d top : Int} (hx : PF (x1, x2) o1 u1) (hy : PF (y1, y2) o2 u2) (hy0 : y1 ≠ 0) (hd : 1 ≤ d) (hd5 : d ≤ 5) (ht : 0 ≤ top) :
    Rel (rDiv x1 x2 y1 y2 d top) (lawF (o1 * u2 * if o2 > 0 then 1 else -1) (u1 * if o2 < 0 then -o2 else o2) d top) := by
  have sg := pf_sign hy
  obtain ⟨j1, a1, b1, c1, d1⟩ := pf_val hx
  obtain ⟨j2, a2, b2, c2, d2⟩ := pf_val hy
  dsimp only at c1 d1 c2 d2 sg
  subst b1; subst b2
  refine rel_quot (J := j1 + j2) (by omega) (by omega) ?_ ?_ hy0 hd hd5 ht
  · have e : (if o2 > 0 then (1 : Int) else -1) = (if 0 < y1 then 1 else -1) := by split <;> split <;> omega
    rw [e, d1, Int.mul_assoc x1, tp_add c1 a2]
    congr 3; congr 1; omega
  · rw [d2, abs_mulpow, ← Int.mul_assoc, Int.mul_comm (10 ^ _), Int.mul_assoc, tp_add a1 c2]
    congr 2; congr 1; omega
theorem toInt_law {x1 x2 o u : Int} (h : PF (x1, x2) o u) : (if 0 > toInt x1 x2 then 0 else toInt x1 x2) = (if 0 > o then 0 else o).fdiv u := by
  have sg := pf_sign h
  have z := pf_zero h
  obtain ⟨j, a1, b1, c1, d1⟩ := pf_val h
  dsimp only at c1 d1 sg z
  subst b1
  by_cases hx : 0 < x1
  · rw [if_neg (show ¬ 0 > o by have := sg.mp hx; omega)]
    by_cases h2 : 0 ≤ x2
    · have e : toInt x1 x2 = x1 * 10 ^ x2.toNat := by rw [toInt, if_pos h2]
      have hp := Int.mul_pos hx (pow10Z_pos x2.toNat)
      rw [e, if_neg (by omega), d1, ← tp_add h2 a1, ← Int.mul_assoc, fdivp _ (Int.le_of_lt (pow10Z_pos _)), Int.mul_ediv_cancel _ (pow10Z_ne _)]
    · have e : toInt x1 x2 = x1.fdiv (10 ^ (-x2).toNat) := by rw [toInt, if_neg h2, if_pos hx, if_neg (by omega)]
      have e2 : (10 : Int) ^ j.toNat = 10 ^ (-x2).toNat * 10 ^ (x2 + j).toNat := by rw [tp_add (by omega) c1]; congr 2; omega
      have hn : 0 ≤ x1.fdiv (10 ^ (-x2).toNat) := by rw [fdivp _ (Int.le_of_lt (pow10Z_pos _))]; exact Int.ediv_nonneg (by omega) (Int.le_of_lt (pow10Z_pos _))
      rw [e, if_neg (by omega), d1, e2, fd_scale (pow10Z_pos _) (pow10Z_pos _)]
  · have ho : ¬ 0 < o := fun q => hx (sg.mpr q)
    have e1 : (if 0 > o then (0 : Int) else o) = 0 := by split <;> omega
    have e2 : toInt x1 x2 ≤ 0 := by
      unfold toInt
      split
      · have := Int.mul_nonneg (show 0 ≤ -x1 by omega) (Int.le_of_lt (pow10Z_pos x2.toNat))
        rw [Int.neg_mul] at this
        omega
      · have : 0 ≤ (if x1 < 0 then -x1 else x1).fdiv (10 ^ (-x2).toNat) := by rw [fdivp _ (Int.le_of_lt (pow10Z_pos _))]; exact Int.ediv_nonneg (by split <;> omega) (Int.le_of_lt (pow10Z_pos _))
        first | (rw [if_neg hx]; omega) | omega
    rw [e1, Int.zero_fdiv]
    split <;> omega
/-- trip_count of pairs -/
def tripR (x1 x2 y1 y2 z1 z2 k d top : Int) : Option Int :=
  if z1 = 0 then none else
    match rSub y1 y2 x1 x2 d top with
    | none => none
    | some p => match rAdd p.1 p.2 z1 z2 d top with
      | none => none
      | some q => match rDiv q.1 q.2 z1 z2 d top with
        | none => none
        | some r => fitI (if 0 > toInt r.1 r.2 then 0 else toInt r.1 r.2) k
theorem fit_nonneg {n k : Int} (h : 0 ≤ n) : fitI n k = if n < 2 ^ (k - 1).toNat then some n else none := by
  have hp : (0 : Int) < 2 ^ (k - 1).toNat := Int.pow_pos (by decide)
  unfold fitI
  rw [Int.one_mul, if_neg (by omega)]
  split <;> split <;> first | rfl | omega
theorem tripR_eq {x1 x2 y1 y2 z1 z2 f0 f1 l0 l1 s0 s1 k d top : Int} (hx : PF (x1, x2) f0 f1) (hy : PF (y1, y2) l0 l1) (hz : PF (z1, z2) s0 s1) (hd : 1 ≤ d) (hd5 : d ≤ 5) (ht : 0 ≤ top) :
    tripR x1 x2 y1 y2 z1 z2 k d top = dueR f0 f1 l0 l1 s0 s1 k d top := by
  have hz0 := pf_zero hz
  dsimp only at hz0
  unfold tripR dueR
  by_cases h0 : z1 = 0
  · rw [if_pos h0, if_pos (hz0.mp h0)]
  · rw [if_neg h0, if_neg (fun q => h0 (hz0.mpr q))]
    rcases rel_sub (d := d) (top := top) hy hx hd hd5 ht with ⟨a, b⟩ | ⟨p, p', a, b, hp⟩
    · rw [a, b]
    · rw [a, b]
      dsimp only
      rcases rel_add (d := d) (top := top) hp hz hd hd5 ht with ⟨a, b⟩ | ⟨q, q', a, b, hq⟩
      · have b' : lawF (p'.1 * s1 + s0 * p'.2) (p'.2 * s1) d top = none := by rw [Int.mul_comm p'.2 s1]; exact b
        rw [a, b']
      · have b' : lawF (p'.1 * s1 + s0 * p'.2) (p'.2 * s1) d top = some q' := by rw [Int.mul_comm p'.2 s1]; exact b
        rw [a, b']
        dsimp only
        rcases rel_div (d := d) (top := top) hq hz h0 hd hd5 ht with ⟨a, b⟩ | ⟨r, r', a, b, hr⟩
        · rw [a, b]
        · rw [a, b]
          dsimp only
          rw [toInt_law hr, fit_nonneg]
          obtain ⟨j, hj, _⟩ := hr
          rw [hj, fdivp _ (Int.le_of_lt (pow10Z_pos _))]
          exact Int.ediv_nonneg (by split <;> omega) (Int.le_of_lt (pow10Z_pos _))
/-- trip_count of whole numbers -/
def tripI (f l st k : Int) : Option Int :=
  if st = 0 then none else
    match fitI (l - f) k with
    | none => none
    | some a => match fitI (a + st) k with
      | none => none
      | some b => match iDiv b st k with
        | none => none
        | some c => fitI (if 0 > c then 0 else c) k
theorem fit_outs (n k : Int) : fitI n k = if 0 - 2 ^ (k - 1).toNat ≤ n ∧ n < 2 ^ (k - 1).toNat then some n else none := by
  unfold fitI
  rw [Int.one_mul]
  split
  · rw [if_neg (by omega)]
  · split
    · rw [if_neg (by omega)]
    · rw [if_pos (by omega)]
theorem outs_nil {H a b c : Int} : List.foldl (outs H) [] [a, b, c] = [] ↔ (0 - H ≤ a ∧ a < H) ∧ (0 - H ≤ b ∧ b < H) ∧ (0 - H ≤ c ∧ c < H) := by
  simp only [List.foldl, outs]
  split <;> split <;> split <;> simp_all
theorem tripI_eq (f l st k : Int) : tripI f l st k = dueI f l st k := by
  unfold tripI dueI iDiv cutQ
  have hp : (0 : Int) < 2 ^ (k - 1).toNat := Int.pow_pos (by decide)
  by_cases h0 : st = 0
  · rw [if_pos h0, if_pos h0]
  · rw [if_neg h0, if_neg h0]
    simp only [fit_outs, outs_nil, Int.mul_one, show ∀ x : Int, x * -1 = -x from fun x => by omega]
    generalize (2 : Int) ^ (k - 1).toNat = H at *
    by_cases h1 : 0 - H ≤ l - f ∧ l - f < H
    · simp only [h1, and_self, if_true, true_and]
      by_cases h2 : 0 - H ≤ l - f + st ∧ l - f + st < H
      · simp only [h2, and_self, if_true, true_and]
        generalize (if l - f + st < 0 then -(l - f + st) else l - f + st).fdiv (if st < 0 then -st else st) = q
        by_cases h3 : (decide (l - f + st < 0) == decide (st < 0)) = true
        · simp only [h3, if_true]
          by_cases h4 : 0 - H ≤ q ∧ q < H
          · simp only [h4, and_self, if_true]
            rw [if_pos (by split <;> omega)]
          · simp only [if_neg h4]
        · rw [if_neg h3, if_neg h3]
          by_cases h4 : 0 - H ≤ -q ∧ -q < H
          · simp only [h4, and_self, if_true]
            rw [if_pos (by split <;> omega)]
          · simp only [if_neg h4]
      · simp only [if_neg h2, h2, false_and, if_false, ite_self]
    · simp only [if_neg h1, h1, false_and, if_false, ite_self]
/-- what a rounding gives back is small -/
theorem roundR_bd {m e d top : Int} {p : Int × Int} (hd : 1 ≤ d) (hd5 : d ≤ 5) (ht : 0 ≤ top) (ht5 : top ≤ 45) (h : roundR m e d top = some p) : Bd p.1 20 ∧ -60 ≤ p.2 ∧ p.2 ≤ 60 := by
  have z : Bd 0 20 := by show _ < 10 ^ 20; decide
  have key : (roundD m e d).1 ≠ 0 → cdZ (roundD m e d).1 ≤ 6 := by
    intro h0
    by_cases hc : 0 < cdZ m - d
    · have hm : m ≠ 0 := fun q => by subst q; rw [cdZ_zero] at hc; omega
      rw [roundD_sgn hc hm] at h0 ⊢
      have a2 := abs_lt m
      have a0 : 0 ≤ (if m < 0 then -m else m) := by split <;> omega
      generalize (if m < 0 then -m else m) = A at *
      have hP := pow10Z_pos (cdZ m - d).toNat
      have e1 : (10 : Int) ^ (cdZ m).toNat = 10 ^ d.toNat * 10 ^ (cdZ m - d).toNat := by rw [tp_add (by omega) (by omega)]; congr 2; omega
      have q1 : A.fdiv (10 ^ (cdZ m - d).toNat) < 10 ^ d.toNat := by
        rw [fdivp _ (Int.le_of_lt hP)]
        exact Int.ediv_lt_of_lt_mul hP (by omega)
      have q0 : 0 ≤ A.fdiv (10 ^ (cdZ m - d).toNat) := by rw [fdivp _ (Int.le_of_lt hP)]; exact Int.ediv_nonneg a0 (Int.le_of_lt hP)
      have q2 := powZ_mono hd5
      have q3 : (10 : Int) ^ (5 : Int).toNat = 100000 := by decide
      have q4 : 0 ≤ rheF A (10 ^ (cdZ m - d).toNat) ∧ rheF A (10 ^ (cdZ m - d).toNat) ≤ 100000 := by
        unfold rheF
        (repeat' split) <;> omega
      generalize rheF A (10 ^ (cdZ m - d).toNat) = R at *
      by_cases hR : (R * if 0 < m then 1 else -1) = 0
      · rw [hR, strip_zero] at h0; exact absurd rfl h0
      · obtain ⟨_, b, _, l⟩ := strip_val _ _ (e + (cdZ m - d)) (Nat.le_refl _) hR
        have : cdZ (R * if 0 < m then 1 else -1) ≤ ((6 : Nat) : Int) := cdZ_bd (by show _ < 10 ^ 6; split <;> omega)
        omega
    · rw [roundD_no hc] at h0 ⊢
      by_cases hm : m = 0
      · rw [hm, strip_zero] at h0; exact absurd rfl h0
      · obtain ⟨_, b, _, l⟩ := strip_val _ _ e (Nat.le_refl _) hm
        omega
  unfold roundR at h
  split at h
  · cases h; exact ⟨z, by decide, by decide⟩
  · rename_i h0
    split at h
    · cases h; exact ⟨z, by decide, by decide⟩
    · split at h
      · cases h
      · cases h
        have k := key h0
        have k1 := cdZ_pos h0
        exact ⟨bd_up (bd_of_cdZ (a := 6) k) (by decide), by omega, by omega⟩
/-- the three fractions that the law builds -/
theorem init_bd {o u d : Int} {q : Int × Int} (hd : 1 ≤ d) (hd5 : d ≤ 5) (bo : Bd o 8) (bu : Bd u 8) (hu : 0 < u) (h : lawF o u d 90 = some q) : Bd q.1 20 ∧ Bd q.2 20 ∧ 0 < q.2 ∧ ∃ j : Nat, q.2 = 10 ^ j ∧ j ≤ 13 := by
  by_cases h0 : o = 0
  · subst h0
    rw [lawF_zero] at h
    cases h
    refine ⟨?_, ?_, by decide, 0, rfl, by decide⟩
    · show _ < 10 ^ 20; decide
    · show _ < 10 ^ 20; decide
  · rw [lawF_ne h0] at h
    have hP := isPow_powF (d := d) h0 hu (by omega)
    have hb := powF_bounds (d := d) bo bu (by omega) hd5
    obtain ⟨q1, q2⟩ := q
    obtain ⟨b1, j, b2, b3⟩ := lawR_bd (p := 9) (q := 13) hd hd5 hu hP (by omega) (by omega) h
    subst b2
    exact ⟨bd_up b1 (by decide), bd_pow' (by omega), pow10Z_pos _, j, rfl, b3⟩
theorem init_some {o u d : Int} (hd : 1 ≤ d) (hd5 : d ≤ 5) (bo : Bd o 8) (bu : Bd u 8) (hu : 0 < u) : lawF o u d 90 ≠ none := by
  intro h
  by_cases h0 : o = 0
  · subst h0; rw [lawF_zero] at h; cases h
  · rw [lawF_ne h0] at h
    have hP := isPow_powF (d := d) h0 hu (by omega)
    have hb := powF_bounds (d := d) bo bu (by omega) hd5
    have hm := lawM_bounds hd hd5 hu hP
    have c2 : cdZ (lawM (sizeR o (powF o u d)) (unitR u (powF o u d))) ≤ ((6 : Nat) : Int) := cdZ_bd (by show _ < 10 ^ 6; omega)
    unfold lawR at h
    rw [if_neg (by omega)] at h
    split at h <;> cases h
/-- the pair of such a fraction is small too -/
theorem pair_bd {o u : Int} {j : Nat} (hu : u = 10 ^ j) (hj : j ≤ 13) (bo : Bd o 20) : PF (strip o (-j)) o u ∧ Bd (strip o (-j)).1 20 ∧ -60 ≤ (strip o (-j)).2 ∧ (strip o (-j)).2 ≤ 60 := by
  refine ⟨⟨j, hu, rfl⟩, ?_⟩
  by_cases h0 : o = 0
  · subst h0
    rw [strip_zero]
    exact ⟨by show _ < 10 ^ 20; decide, by decide, by decide⟩
  · obtain ⟨a, b, c, l⟩ := strip_val _ o (-j) (Nat.le_refl _) h0
    have k1 := cdZ_pos a
    have k2 := cdZ_bd bo
    exact ⟨bd_of_cdZ (a := 20) (by omega), by omega, by omega⟩
end

section
open PySem PySem.W PyProof.Rows
/-- what a call hands back: an int, a new pair, a pair that may be the table's (0, 0), None, a bool; or RunFault flies -/
inductive Res where
  | int (x : Int)
  | fresh (x y : Int)
  | pair (x y : Int)
  | none
  | bool (b : Bool)
  | raised
abbrev pairObj (x y : Int) (t u : Tok) (c : Nat) : Obj := { cls := .type "tuple", data := .seq #[.int x t, .int y u] c }
abbrev RetInt (h₀ : Heap) (L : Addr) (m : Str → Option Value) (news : List (Addr × Obj)) (s : Shared) (Q : Value → Shared → Prop) (x : Int) : Prop :=
  ∀ (t : Tok) (h' : Heap) (tk' : Nat), Fr h₀ L h' m → News h₀ L h' news → Q (.int x t) { s with heap := h', toks := tk' }
abbrev RetNone (h₀ : Heap) (L : Addr) (m : Str → Option Value) (news : List (Addr × Obj)) (s : Shared) (Q : Value → Shared → Prop) : Prop :=
  ∀ (h' : Heap) (tk' : Nat), Fr h₀ L h' m → News h₀ L h' news → Q .none { s with heap := h', toks := tk' }
abbrev RetBool (h₀ : Heap) (L : Addr) (m : Str → Option Value) (news : List (Addr × Obj)) (s : Shared) (Q : Value → Shared → Prop) (b : Bool) : Prop :=
  ∀ (h' : Heap) (tk' : Nat), Fr h₀ L h' m → News h₀ L h' news → Q (.bool b) { s with heap := h', toks := tk' }
abbrev RetNew (h₀ : Heap) (L : Addr) (m : Str → Option Value) (news : List (Addr × Obj)) (s : Shared) (Q : Value → Shared → Prop) (x y : Int) : Prop :=
  ∀ (D : Addr) (t u : Tok) (c : Nat) (h' : Heap) (tk' : Nat), Fr h₀ L h' m → News h₀ L h' ((D, pairObj x y t u c) :: news) → AllLt D news → Q (.ref D) { s with heap := h', toks := tk' }
abbrev RetOld (h₀ : Heap) (L : Addr) (m : Str → Option Value) (news : List (Addr × Obj)) (s : Shared) (Q : Value → Shared → Prop) (x y : Int) : Prop :=
  x = 0 → y = 0 → ∀ (h' : Heap) (tk' : Nat), Fr h₀ L h' m → News h₀ L h' news → Q (.ref 131) { s with heap := h', toks := tk' }
abbrev RetRaised (base h₀ : Heap) (L : Addr) (m : Str → Option Value) (news : List (Addr × Obj)) (stack : List Env) (s : Shared) (E : Value → Shared → Prop) : Prop :=
  ∀ (e : Addr) (g₂ h' : Heap) (tk' : Nat), Fr h₀ L g₂ m → RaisedN base stack e (.ref 44) news h' → g₂.UpToSlots h' → E (.ref e) { s with heap := h', toks := tk' }
def RetAt (base h₀ : Heap) (L : Addr) (m : Str → Option Value) (news : List (Addr × Obj)) (stack : List Env) (s : Shared) (Q E : Value → Shared → Prop) : Res → Prop
  | .int x => RetInt h₀ L m news s Q x
  | .fresh x y => RetNew h₀ L m news s Q x y
  | .pair x y => RetNew h₀ L m news s Q x y ∧ RetOld h₀ L m news s Q x y
  | .none => RetNone h₀ L m news s Q
  | .bool b => RetBool h₀ L m news s Q b
  | .raised => RetRaised base h₀ L m news stack s E
def Calls (w : World) (f : Addr) (sz : Nat) (news : List (Addr × Obj)) (vs : List Value) (r : Res) : Prop :=
  ∀ (mean : ExcName → Option Value) (mg mb : Str → Option Value) (dp un : Nat) (gd : Option (List Code)) (cn : Str) (cs : Scope) (a : Addr) (ccd : Value) (cl : List (Str × Addr)) (outer : List Env) (A₀ : Around) (base h₀ : Heap) (L : Addr) (m : Str → Option Value) (s : Shared)
    (Q E : Value → Shared → Prop),
    Below A₀ base outer h₀ → Fr h₀ L s.heap m → (hd.heap_1 w.params).In h₀ → News h₀ L s.heap news → Top vw (looseW vw []) mean mg mb h₀ → cs.kind = .function → dp + sz < recursionLimit → un + 8 * sz < cLine →
    RetAt base h₀ L m news (envX cn cs L a ccd cl :: outer) s Q E r →
    wpAny (model PySem.Challenge.rw_no0261_01.row.prog w) (ktrTop dp un gd cn cs L a ccd cl outer) (call (.ref f) vs) Q E s
section
variable {h₀ h' : Heap} {L : Addr} {m : Str → Option Value} {news news' : List (Addr × Obj)} {s : Shared} {Q E : Value → Shared → Prop} {t : Tok} {tk' : Nat} {x y : Int}
theorem ret_new {D : Addr} {u : Tok} {c : Nat} {x' y' : Int} (hret : RetNew h₀ L m news s Q x y) (F : Fr h₀ L h' m) (NM : News h₀ L h' news' ∧ (D, pairObj x' y' t u c) ∈ news') (hn : ∀ p ∈ news, p ∈ news') (hl : AllLt D news) (e1 : x' = x) (e2 : y' = y) : Q (.ref D) { s with heap := h', toks := tk' } := by
  subst e1; subst e2
  refine hret D t u c h' tk' F (fun p hp => ?_) hl
  rcases List.mem_cons.mp hp with rfl | hp
  · exact NM.1 _ NM.2
  · exact NM.1 p (hn p hp)
theorem ret_old (hret : RetOld h₀ L m news s Q x y) (F : Fr h₀ L h' m) (N : News h₀ L h' news') (hn : ∀ p ∈ news, p ∈ news') (e1 : x = 0) (e2 : y = 0) : Q (.ref 131) { s with heap := h', toks := tk' } := hret e1 e2 h' tk' F fun p hp => N p (hn p hp)
theorem ret_int (hret : RetInt h₀ L m news s Q x) (F : Fr h₀ L h' m) (N : News h₀ L h' news') (hn : ∀ p ∈ news, p ∈ news') (e : y = x) : Q (.int y t) { s with heap := h', toks := tk' } := by
  subst e
  exact hret t h' tk' F fun p hp => N p (hn p hp)
theorem ret_none (hret : RetNone h₀ L m news s Q) (F : Fr h₀ L h' m) (N : News h₀ L h' news') (hn : ∀ p ∈ news, p ∈ news') : Q .none { s with heap := h', toks := tk' } := hret h' tk' F fun p hp => N p (hn p hp)
theorem ret_bool {b b' : Bool} (hret : RetBool h₀ L m news s Q b) (F : Fr h₀ L h' m) (N : News h₀ L h' news') (hn : ∀ p ∈ news, p ∈ news') (e : b' = b) : Q (.bool b') { s with heap := h', toks := tk' } := by
  subst e
  exact hret h' tk' F fun p hp => N p (hn p hp)
theorem ret_raised {base g₂ : Heap} {stack : List Env} {e : Addr} (hret : RetRaised base h₀ L m news stack s E) (F : Fr h₀ L g₂ m) (R : RaisedN base stack e (.ref 44) news' h') (U : g₂.UpToSlots h') (hn : ∀ p ∈ news, p ∈ news') : E (.ref e) { s with heap := h', toks := tk' } := by
  refine hret e g₂ h' tk' F ?_ U
  obtain ⟨B, a0, h1, h2, h3⟩ := R
  exact ⟨B, a0, h1, fun q hq => h2 q (hn q hq), h3⟩
end
theorem use_calls {w : World} {f : Addr} {sz : Nat} {news : List (Addr × Obj)} {vs : List Value} {r : Res} {mean : ExcName → Option Value} {mg mb : Str → Option Value} {dp un : Nat} {gd : Option (List Code)} {cn : Str} {cs : Scope} {a : Addr} {ccd : Value} {cl : List (Str × Addr)} {outer : List Env} {A₀ : Around} {base h₀ : Heap} {L : Addr} {m : Str → Option Value} {s : Shared}
    {Q E : Value → Shared → Prop} (B : Below A₀ base outer h₀) (F : Fr h₀ L s.heap m) (X : (hd.heap_1 w.params).In h₀) (N : News h₀ L s.heap news) (T : Top vw (looseW vw []) mean mg mb h₀) (hk : cs.kind = .function) (C : Calls w f sz news vs r) (hd : dp + sz < recursionLimit) (hu : un + 8 * sz < cLine)
    (ret : RetAt base h₀ L m news (envX cn cs L a ccd cl :: outer) s Q E r) :
    wpAny (model PySem.Challenge.rw_no0261_01.row.prog w) (ktrTop dp un gd cn cs L a ccd cl outer) (call (.ref f) vs) Q E s := C _ _ _ _ _ _ _ _ _ _ _ _ _ _ _ _ _ _ _ _ B F X N T hk hd hu ret
theorem log2_cd {n k : Nat} (h : cd n ≤ k) (hk : k ≤ 2000) : n.log2 < 9000 := by
  have h1 : n < 10 ^ 2000 := Nat.lt_of_lt_of_le cd_lt (pow10_mono (by omega))
  have h2 : (10 : Nat) ^ 2000 ≤ 2 ^ 8000 := by
    rw [show (8000 : Nat) = 4 * 2000 by rfl, Nat.pow_mul]
    exact Nat.pow_le_pow_left (by decide) _
  by_cases h0 : n = 0
  · subst h0; decide
  · have := (Nat.log2_lt h0 (k := 8000)).mpr (by omega)
    omega
theorem noPy {x y : Int} (h : cdZ y ≤ 2000) : Builtin.divisionGoesByPylong x y = false := by
  refine PyProof.noPylong_of_log2 (log2_cd (k := 2000) ?_ (by decide))
  unfold cdZ at h
  omega
theorem cdZ_pow (k : Nat) : cdZ (10 ^ k) = k + 1 := by
  unfold cdZ
  have e : ((10 : Int) ^ k).natAbs = 10 ^ k := by
    rw [Int.natAbs_pow]; rfl
  rw [e]
  have := cd_mul (n := 1) (by decide) k
  rw [Nat.one_mul] at this
  rw [this, show cd 1 = 1 by rw [cd_pos (by decide)]; exact congrArg (· + 1) cd_zero]
  omega
theorem noPy_pow {x : Int} {k : Nat} (h : k ≤ 1999) : Builtin.divisionGoesByPylong x (10 ^ k) = false := noPy (by rw [cdZ_pow]; omega)
/-- a pair, new or not, or RunFault -/
def resP : Option (Int × Int) → Res
  | none => .raised
  | some p => .pair p.1 p.2
def resI : Option Int → Res
  | none => .raised
  | some x => .int x
theorem retAt_of {base h₀ : Heap} {L : Addr} {m : Str → Option Value} {news : List (Addr × Obj)} {stack : List Env} {s : Shared} {Q E : Value → Shared → Prop} {r r' : Res} (e : r = r') (h : RetAt base h₀ L m news stack s Q E r) : RetAt base h₀ L m news stack s Q E r' := e ▸ h
theorem resP_some {o : Option (Int × Int)} {p : Int × Int} (e : o = some p) : resP o = .pair p.1 p.2 := by rw [e]; rfl
theorem resP_none {o : Option (Int × Int)} (e : o = none) : resP o = .raised := by rw [e]; rfl
theorem resI_some {o : Option Int} {x : Int} (e : o = some x) : resI o = .int x := by rw [e]; rfl
theorem resI_none {o : Option Int} (e : o = none) : resI o = .raised := by rw [e]; rfl
/-- a value that is a pair of ints: a new one, or the table's (0, 0) -/
inductive PairV (news : List (Addr × Obj)) : Value → Int → Int → Prop
  | new {D : Addr} {x y : Int} {t u : Tok} {c : Nat} : (D, pairObj x y t u c) ∈ news → PairV news (.ref D) x y
  | old : PairV news (.ref 131) 0 0
theorem bits_bd {x : Int} {a : Nat} (h : Bd x a) (ha : a ≤ 4000) : Builtin.Int.intBits x ≤ 2 ^ 20 := by
  refine Nat.le_trans ((intBits_le_iff (m := 16000)).mpr ?_) (by decide)
  have h1 : x.natAbs < 10 ^ 4000 := bd_up h ha
  refine Nat.lt_of_lt_of_le h1 ?_
  rw [show (16000 : Nat) = 4 * 4000 by rfl, Nat.pow_mul]
  exact Nat.pow_le_pow_left (by decide) _
theorem mulOk_bd {x y : Int} {a b : Nat} (h : Bd x a) (k : Bd y b) (ha : a ≤ 4000) (hb : b ≤ 4000) : IntMulOk x y := IntMulOk.of_bits (bits_bd h ha) (bits_bd k hb)
theorem noPy_bd {x y : Int} {b : Nat} (k : Bd y b) (hb : b ≤ 2000) : Builtin.divisionGoesByPylong x y = false := noPy (by have := cdZ_bd k; omega)
theorem PairV.up {news : List (Addr × Obj)} {q : Addr × Obj} {V : Value} {x y : Int} (h : PairV news V x y) : PairV (q :: news) V x y := by
  cases h with
  | new h => exact .new (.tail _ h)
  | old => exact .old
end

section
open PySem PySem.W PyProof.Rows PySem.Calls
abbrev bmE : List Value := [.type "Exception", .type "BaseException", .type "object"]
section
variable {M : Model} {A : Around} {E : Value → Shared → Prop} {h : Heap} {g : Array GenState} {d : Drawn} {t : Nat} {os : OsState}
variable {nm q : Str} {C N P : Addr} {bs : List Value} {hdct : Bool} {sn : List Str} {sub : List Value} {ab : Bool} {col : Option Bool} {dd : Option Addr} {k0 k1 k2 k3 k5 : Option Value}
variable {c0 : Value} {d0 : Option Addr} {cd : ClassData} {sl : Array (Option Value)} {mN mA : Str → Option Value}
/-- the look-up of a name along an own exception class, its own base and the built-in ones -/
theorem tl_two {name : Str} {y : Option Value} {Q : Option Value → Shared → Prop}
    (hC : h.get? C = some (excClassObj nm q C N bs (.ref P :: bmE) hdct sn sub ab col dd k0 k1 k2 k3 k5 "Exception.__new__")) (hn : h.Ns N mN)
    (hP : h.get? P = some { cls := c0, dict := d0, data := .cls cd, slots := sl }) (hA : h.Ns cd.ns mA) (hB : typeLookup (.type "Exception") name = pure y)
    (hq : Q (match mN name with | some v => some v | none => match mA name with | some v => some v | none => y) ⟨h, g, d, t, os⟩) : wpAny M A (typeLookup (.ref C) name) Q E ⟨h, g, d, t, os⟩ := by
  have hrest : lookupAlong bmE name = pure y := by rw [typeLookup_eq, PySem.F.excBase_Exception.mroIs] at hB; exact hB
  rw [typeLookup_eq]
  refine wpAny_bind (wpAny_mroOf_exc hC ?_)
  rw [lookupAlong_cons]
  refine wpAny_bind (wpAny_classOwn_exc hC hn ?_)
  cases hv : mN name with
  | some v => rw [hv] at hq; exact wpAny_pure hq
  | none =>
    rw [hv] at hq
    dsimp only
    rw [lookupAlong_cons]
    refine wpAny_bind (wpAny_classOwn_cls hP hA ?_)
    cases hw : mA name with
    | some v => rw [hw] at hq; exact wpAny_pure hq
    | none => rw [hw] at hq; rw [hrest]; exact wpAny_pure hq
theorem bm_B : (Value.ref C :: .ref P :: bmE).contains (.type "Exception") = true := rfl
theorem bm_Base : (Value.ref C :: .ref P :: bmE).contains (.type "BaseException") = true := rfl
theorem bm_A : (Value.ref C :: .ref P :: bmE).contains (.type "AttributeError") = false := rfl
theorem bm_N : (Value.ref C :: .ref P :: bmE).contains (.type "NameError") = false := rfl
theorem check_new {rest : List Value} {Q : Unit → Shared → Prop} (hC : h.get? C = some (excClassObj nm q C N bs (.ref P :: bmE) hdct sn sub ab col dd k0 k1 k2 k3 k5 "Exception.__new__"))
    (hq : Q () ⟨h, g, d, t, os⟩) : wpAny M A (checkBuiltinCall "Exception.__new__" ⟨.ref C :: rest, []⟩) Q E ⟨h, g, d, t, os⟩ :=
  wpAny_check_new_subU PySem.F.excBase_Exception (bmB := .ref P :: bmE) rfl OwnTail.base hC hq
end
section
variable {prog : Program} {w : World} {A : Around} {R : Result → Shared → Prop} {h : Heap} {g : Array GenState} {d : Drawn} {t : Nat} {os : OsState}
variable {nm q : Str} {C N P : Addr} {bs : List Value} {hdct : Bool} {sn : List Str} {sub : List Value} {ab : Bool} {col : Option Bool} {dd : Option Addr} {k0 k1 k2 k3 k5 : Option Value}
theorem exc_new {rest : List Value} (hC : h.get? C = some (excClassObj nm q C N bs (.ref P :: bmE) hdct sn sub ab col dd k0 k1 k2 k3 k5 "Exception.__new__"))
    (hq : R (.ok (.ret (.ref (h.objs.size + 1)))) ⟨(h.push { cls := .type "tuple", data := .seq rest.toArray }).push
      { cls := .ref C, data := .fields #[.ref h.objs.size, .none, .none, .none, .bool false, .none] }, g, d, t, os⟩) (hrest : rest.length ≤ sizeLine := by size_fits) :
    codeAny (model prog w) A (.builtin "Exception.__new__" ⟨.ref C :: rest, []⟩) R ⟨h, g, d, t, os⟩ := by
  have hends := PySem.F.excBase_Exception.ends
  refine codeAny_builtinAt PySem.F.excBase_Exception.entry ?_
  unfold Builtin.«BaseException.__new__»
  refine PySem.wpAt_bind ?_
  show PySem.wpAt _ _ _ (stack >>= _) _ _ _
  refine PySem.wpAt_bind (PySem.wpAt_stack fun p below => PySem.wpAt_of_wpAny ?_)
  wp_walk
  refine PySem.wpAt_of_wpAny ?_
  rw [PySem.F.excBase_Exception.owner]
  repeat (first | with_reducible refine wpAny_madeHere_exc PySem.F.excBase_Exception.canon hC ?_ | with_reducible refine wpAny_loadPart_at hC ?_ | (with_reducible refine wpAny_isSubtype_exc hC ?_; first | rw [bm_B] | rw [bm_A] | rw [bm_N]) | wp_step)
  show R _ _
  rw [Heap.size_push]
  exact hq
end
section
variable {prog : Program} {w : World} {A : Around} {E : Value → Shared → Prop} {h : Heap} {g : Array GenState} {d : Drawn} {t : Nat} {os : OsState}
variable {nm q : Str} {C N P : Addr} {bs : List Value} {hdct : Bool} {sn : List Str} {sub : List Value} {ab : Bool} {col : Option Bool} {dd : Option Addr} {k0 k1 k2 k3 k5 : Option Value}
variable {c0 : Value} {d0 : Option Addr} {cd : ClassData} {sl : Array (Option Value)} {mN mA : Str → Option Value}
/-- the call of an own exception class whose base, an own class too, has an __init__ -/
theorem type_call_two {rest : List Value} {fI : Addr} {oI : Obj} {Q : Fin → Shared → Prop}
    (hC : h.get? C = some (excClassObj nm q C N bs (.ref P :: bmE) hdct sn sub ab col dd k0 k1 k2 k3 k5 "Exception.__new__")) (hn : h.Ns N mN)
    (hP : h.get? P = some { cls := c0, dict := d0, data := .cls cd, slots := sl }) (hA : h.Ns cd.ns mA) (h0 : mN "__init__" = none) (hi : mA "__init__" = some (.ref fI))
    (hfI : h.get? fI = some oI) (hfc : oI.cls = .type "function")
    (hq : ∀ h' e, Heap.MadeExcOf h h' e (.ref C) rest →
      wpAny (model prog w) A (call (.ref fI) (.ref e :: rest)) (fun r s' => r = .none ∧ Q (.done (.ret (.ref e))) s') E ⟨h', g, d, t, os⟩) (hrest : rest.length ≤ sizeLine := by size_fits) :
    wpAny (model prog w) A (Builtin.«type.__call__» ⟨.ref C :: rest, []⟩) Q E ⟨h, g, d, t, os⟩ := by
  repeat (first | with_reducible refine wpAny_loadPart_at hC ?_ | with_reducible refine wpAny_madeBy_exc hC ?_ | wp_step)
  refine codeAny_call_builtin_code (Code.quiet_builtin _ PySem.F.excBase_Exception.quiet) (check_new hC ?_)
  refine exc_new hC ?_ hrest
  show wpAny _ _ _ _ _ _
  have up : ∀ {b : Addr} {o : Obj}, h.get? b = some o → ((h.push { cls := .type "tuple", data := .seq rest.toArray }).push
      { cls := .ref C, data := .fields #[.ref h.objs.size, .none, .none, .none, .bool false, .none] }).get? b = some o := fun e => Heap.get?_push_of_some _ (Heap.get?_push_of_some _ e)
  have hn₁ : ((h.push { cls := .type "tuple", data := .seq rest.toArray }).push { cls := .ref C, data := .fields #[.ref h.objs.size, .none, .none, .none, .bool false, .none] }).Ns N mN :=
    let ⟨o, es, ep, e, r⟩ := hn; ⟨o, es, ep, up e, r⟩
  have hA₁ : ((h.push { cls := .type "tuple", data := .seq rest.toArray }).push { cls := .ref C, data := .fields #[.ref h.objs.size, .none, .none, .none, .bool false, .none] }).Ns cd.ns mA :=
    let ⟨o, es, ep, e, r⟩ := hA; ⟨o, es, ep, up e, r⟩
  have hC₁ := up hC
  have hfI₁ := up hfI
  have hP₁ := up hP
  have hget : ((h.push { cls := .type "tuple", data := .seq rest.toArray }).push
      { cls := .ref C, data := .fields #[.ref h.objs.size, .none, .none, .none, .bool false, .none] }).get? (h.objs.size + 1) = some
      { cls := .ref C, data := .fields #[.ref h.objs.size, .none, .none, .none, .bool false, .none] } := by heap_get
  have hcC : (Value.ref C :: .ref P :: bmE).contains (.ref C) = true := by simp
  unfold isInstance
  repeat (first | with_reducible refine wpAny_loadPart_at hget ?_ | (with_reducible refine wpAny_isSubtype_exc hC₁ ?_; rw [hcC]) | wp_step)
  show wpAny _ _ (typeLookup (.ref C) _) _ _ _
  refine tl_two hC₁ hn₁ hP₁ hA₁ PySem.F.excBase_Exception.init.lookup ?_
  rw [h0, hi]
  refine wpAny_holding (wpAny_bind ?_)
  unfold bindSpecial
  refine wpAny_bind (wpAny_typeOf (T := "function") ⟨_, hfI₁, hfc⟩ ?_)
  rw [if_pos (by decide)]
  refine wpAny_pure (wpAny_bind (wpAny_mono (hq _ (h.objs.size + 1) ⟨fun b o hb => up hb, Heap.get?_none_of_le (Nat.le_succ _), h.objs.size, hget, Heap.get?_none_of_le (Nat.le_refl _), ?_⟩) (fun r s' hr => ?_) fun _ _ x => x))
  · exact Heap.get?_push_of_some _ (Heap.get?_push_at rfl rfl)
  · obtain ⟨rfl, hQ⟩ := hr
    wp_walk
    exact hQ
theorem call_two {rest : List Value} {fI : Addr} {oI : Obj} {Q : Value → Shared → Prop}
    (hC : h.get? C = some (excClassObj nm q C N bs (.ref P :: bmE) hdct sn sub ab col dd k0 k1 k2 k3 k5 "Exception.__new__")) (hn : h.Ns N mN)
    (hP : h.get? P = some { cls := c0, dict := d0, data := .cls cd, slots := sl }) (hA : h.Ns cd.ns mA) (h0 : mN "__init__" = none) (hi : mA "__init__" = some (.ref fI))
    (hfI : h.get? fI = some oI) (hfc : oI.cls = .type "function")
    (hq : ∀ h' e, Heap.MadeExcOf h h' e (.ref C) rest →
      wpAny (model prog w) (A.under (.builtin "type.__call__" ⟨.ref C :: rest, []⟩)) (call (.ref fI) (.ref e :: rest)) (fun r s' => r = .none ∧ Q (.ref e) s') E ⟨h', g, d, t, os⟩) (hrest : rest.length ≤ sizeLine := by size_fits) :
    wpAny (model prog w) A (call (.ref C) rest) Q E ⟨h, g, d, t, os⟩ := by
  have f1 := tc_lookup
  have f2 := tc_bind (.ref C)
  have hT : (⟨h, g, d, t, os⟩ : Shared).TypeIs (.ref C) "type" := ⟨_, hC, rfl⟩
  refine wpAny_call (codeAny_of_tree ?_)
  show wpAny _ _ (callAny (.ref C) _) _ _ _
  repeat (any_goals (first | assumption | with_reducible refine wpAny_loadPart_at hC ?_ | wp_step))
  refine ⟨rfl, ?_⟩
  refine codeAny_call_builtin_at (Code.quiet_builtin _ (by decide +kernel)) entry_typeCall (wpAny_check_type_call_sub hC (type_call_two (hrest := hrest) hC hn hP hA h0 hi hfI hfc fun h' e hm => ?_))
  exact hq h' e hm
end
section
variable {M : Model} {A : Around} {E : Value → Shared → Prop} {h : Heap} {g : Array GenState} {d : Drawn} {t : Nat} {os : OsState}
variable {nm q : Str} {C N P : Addr} {bs : List Value} {hdct : Bool} {sn : List Str} {sub : List Value} {ab : Bool} {col : Option Bool} {dd : Option Addr} {k0 k1 k2 k3 k5 : Option Value}
theorem check_init {e : Addr} {oe : Obj} {rest : List Value} {Q : Unit → Shared → Prop}
    (hC : h.get? C = some (excClassObj nm q C N bs (.ref P :: bmE) hdct sn sub ab col dd k0 k1 k2 k3 k5 "Exception.__new__")) (he : h.get? e = some oe) (hcls : oe.cls = .ref C) (hq : Q () ⟨h, g, d, t, os⟩) :
    wpAny M A (checkBuiltinCall "Exception.__init__" ⟨.ref e :: rest, []⟩) Q E ⟨h, g, d, t, os⟩ := by
  have F := PySem.F.excBase_Exception
  have hshort := F.noStar
  have hcB : (Value.ref C :: .ref P :: bmE).contains (.type "Exception") = true := rfl
  simp only [checkBuiltinCall, F.initKind, F.initSplit, F.initRow]
  repeat (first | (with_reducible refine wpAny_loadPart_at he ?_; rw [hcls]) | with_reducible refine wpAny_loadPart_at hC ?_ | (with_reducible refine wpAny_isSubtype_exc hC ?_; rw [hcB]) | wp_step)
  refine wpAny_onRaise ?_
  rw [show ∀ (a b : String) (n : Nat), Bind.check ⟨.positional, "*", "Exception", .self, [⟨"args", .varPos, false⟩]⟩ a b n (List.map (fun x => x.fst) ({ pos := Value.ref e :: rest } : Args).kw) = pure () from
    fun a b n => check_star_args _ _ _ _ _ _]
  exact wpAny_pure hq
end
section
variable {prog : Program} {w : World} {A : Around} {E : Value → Shared → Prop} {h : Heap} {g : Array GenState} {d : Drawn} {t : Nat} {os : OsState}
variable {nm q : Str} {C N P : Addr} {bs : List Value} {hdct : Bool} {sn : List Str} {sub : List Value} {ab : Bool} {col : Option Bool} {dd : Option Addr} {k0 k1 k2 k3 k5 : Option Value}
theorem exc_init_call {e a0 : Addr} {od : Option Addr} {osl : Array (Option Value)} {rest : List Value} {Q : Value → Shared → Prop}
    (hC : h.get? C = some (excClassObj nm q C N bs (.ref P :: bmE) hdct sn sub ab col dd k0 k1 k2 k3 k5 "Exception.__new__"))
    (he : h.get? e = some { cls := .ref C, dict := od, data := .fields #[.ref a0, .none, .none, .none, .bool false, .none], slots := osl })
    (hq : ∀ h' D, Heap.ExtBut e h h' → h'.get? e = some { cls := .ref C, dict := od, data := .fields #[.ref D, .none, .none, .none, .bool false, .none], slots := osl } → Q .none ⟨h', g, d, t, os⟩) (hrest : rest.length ≤ sizeLine := by size_fits) :
    wpAny (model prog w) A (call (.builtin "Exception.__init__") (.ref e :: rest)) Q E ⟨h, g, d, t, os⟩ := by
  have F := PySem.F.excBase_Exception
  refine wpAny_call (codeAny_call_builtin F.init.plain F.initEntry (check_init hC he rfl ?_))
  unfold Builtin.«BaseException.__init__»
  wp_walk
  refine hq _ h.objs.size (fun b o hb e' => ?_) ?_
  · rw [Heap.get?_update_other _ _ (Ne.symm hb)]
    exact Heap.get?_push_of_some _ e'
  · rw [Heap.get?_update_self _ (Heap.get?_push_of_some _ he) rfl]
    rfl
end
section
variable {prog : Program} {w : World} {A : Around} {E : Value → Shared → Prop} {s : Shared} {K : Frag} {C P x : Addr} {cd : ClassData} {oe : Obj} {name : Str} {v : Value}
theorem set_exc {Q : Unit → Shared → Prop} (X : K.In s.heap) (hx : s.heap.get? x = some oe) (hc : oe.cls = .ref C) (hdn : oe.dict = none) (hno : notCls oe = true)
    (hcl : clsIn K C = some cd) (hm : cd.mro = [.ref C, .ref P, .type "Exception", .type "BaseException", .type "object"]) (hh : cd.hasDict = true)
    (hs : findIn K (.ref C) "__setattr__" = some (some (.builtin "object.__setattr__"))) (hf : findIn K (.ref C) name = some none)
    (hq : ∀ h' tk' d, Heap.ExtBut x s.heap h' → h'.get? x = some { oe with dict := some d } → Q () { s with heap := h', toks := tk' }) :
    wpAny (model prog w) A (setAttr (.ref x) name v) Q E s := by
  have I : InstAt s.heap x oe C none := ⟨hx, hc, hno, by rw [hdn]; trivial⟩
  refine set_plain X I hs ?_
  have SF := PySem.F.store_object
  have ne : cd.mro.isEmpty = false := by rw [hm]; rfl
  have hob : cd.mro.contains (.type "object") = true := by rw [hm]; rfl
  have sub : Looks (model prog w) s.heap (isInstance (.ref x) (.type "object")) true := I.type.andThen (looks_mroIn X (by unfold mroIn; rw [hcl, Option.bind_some, if_neg (by rw [ne]; decide), hob]))
  refine codeAny_call_builtin SF.slot.plain SF.entry (@check_slot (model prog w) _ _ { s with toks := s.toks + 1 } "object.__setattr__" "object" "__setattr__" (.ref x) [.str name s.toks, v] [] _ SF.kind SF.split sub (SF.args (.ref x) (.str name s.toks) v) ?_)
  rw [osa_eq, refuse_eq]
  have I' : InstAt ({ s with toks := s.toks + 1 } : Shared).heap x oe C none := I
  have X' : K.In ({ s with toks := s.toks + 1 } : Shared).heap := X
  have hmr : Looks (model prog w) ({ s with toks := s.toks + 1 } : Shared).heap (mroOf (.ref C)) cd.mro := (looks_clsIn X' hcl).andThen .now
  refine wpAny_bind (wpAny_bind (I'.type.here (wpAny_bind (hmr.here ?_))))
  rw [hm, refuseLoop_ref, refuseLoop_ref, PySem.F.store_Exception.passes]
  refine wpAny_pure (wpAny_bind (I'.type.here (wpAny_bind ((looks_findIn X' hf).here (wpAny_bind (wpAny_pure ?_))))))
  dsimp only
  obtain ⟨oc, odi, oda, osl⟩ := oe
  dsimp only at hc hdn hno hq
  subst hc hdn
  refine wpAny_bind (wpAny_pure (wpAny_bind (wpAny_bind (wpAny_loadPart hx (wpAny_bind ((looks_clsIn X' hcl).here ?_))))))
  rw [hh]
  dsimp only
  rw [if_neg (by decide), if_neg (by simp [typeHasDict])]
  obtain ⟨h, g, d, t, os⟩ := s
  dsimp only at hx hq ⊢
  have key : wpAny (model prog w) A.in1 (do
        let d ← alloc { cls := Value.type "dict", data := Data.dict #[] }
        update x fun o => { cls := o.cls, dict := some d, data := o.data, slots := o.slots }
        dictMade (Value.ref C) x d)
      (fun a s' => wpAny (model prog w) A.in1
        (match a with
        | some d => Builtin.ObjectAttr.storeInDict d (Value.str name t) name v
        | none => Builtin.ObjectAttr.noDictFor (Value.ref x) (Value.ref C) name false)
        (fun fin s' => match fin with
          | Fin.done f => (match Except.ok f with
            | Except.ok (Flow.ret _) => Q () s'
            | Except.ok _ => False
            | Except.error e => E e s')
          | Fin.again c' => c'.quiet = true ∧ codeAny (model prog w) A c' (fun r s' => match r with
                  | Except.ok (Flow.ret _) => Q () s'
                  | Except.ok _ => False
                  | Except.error e => E e s') s')
        (fun e s' => E e s') s') (fun e s' => E e s') ⟨h, g, d, t + 1, os⟩ := by
    have hx₁ : (h.push { cls := .type "dict", data := .dict #[] }).get? x = some { cls := Value.ref C, data := oda, slots := osl } := Heap.get?_push_of_some _ hx
    have hxs : x ≠ h.objs.size := Nat.ne_of_lt (Heap.lt_size hx)
    refine wpAny_bind (wpAny_alloc' ?_)
    refine wpAny_bind (wpAny_update' hx₁ ?_)
    refine wpAny_pure ?_
    have hgd : ((h.push { cls := .type "dict", data := .dict #[] }).update x fun o => { cls := o.cls, dict := some h.objs.size, data := o.data, slots := o.slots }).get? h.objs.size
        = some { cls := .type "dict", data := .dict #[] } := (Heap.get?_update_ne _ _ _ _ hxs.symm).trans (Heap.get?_push_at rfl rfl)
    have hnd : ((h.push { cls := .type "dict", data := .dict #[] }).update x fun o => { cls := o.cls, dict := some h.objs.size, data := o.data, slots := o.slots }).Ns h.objs.size (fun _ => none) :=
      ⟨_, #[], _, hgd, rfl, fun e he => absurd he (by simp), fun _ => rfl⟩
    show wpAny _ _ (Builtin.ObjectAttr.storeInDict h.objs.size (.str name t) name v) _ _ _
    unfold Builtin.ObjectAttr.storeInDict Builtin.ObjectAttr.newKeyGuard
    refine wpAny_bind (wpAny_pure (wpAny_bind (wpAny_nsSet1 (Heap.Ns1.of_empty hnd) fun h' hn' hs' => ?_)))
    obtain ⟨oD, esD, epD, hoD, hdD, hcD⟩ := hn'.count (Within.cons name v Within.nil)
    refine wpAny_bind (wpAny_lookBehind hoD (by rw [hdD]; exact pastItsLine_dict (Nat.le_trans hcD (by rw [List.length_cons, List.length_nil, sizeLine_eq]; omega))) ?_)
    wp_walk
    refine hq h' _ h.objs.size (fun b o hb hbo => (hs'.2 b (Nat.ne_of_lt (Heap.lt_size hbo))).trans ((Heap.get?_update_ne _ _ _ _ hb).trans (Heap.get?_push_of_some _ hbo))) ?_
    refine (hs'.2 x hxs).trans (Heap.get?_update_self _ hx₁ ?_)
    have hfr := (Heap.get?_some_iff.mp hx).2
    cases oda <;> first | rfl | exact hfr
  cases oda with
  | cls c => cases hno
  | _ => exact key
end
section
variable {M : Model} {A : Around} {E : Value → Shared → Prop} {s : Shared} {env : Env}
variable {nm q : Str} {C N P : Addr} {bs : List Value} {hdct : Bool} {sn : List Str} {sub : List Value} {ab : Bool} {col : Option Bool} {dd : Option Addr} {k0 k1 k2 k3 k5 : Option Value}
/-- raise of an own exception's object, new, no traceback yet -/
theorem Raise_own {e : PySem.Expr} {pos : Pos} {Q : Flow → Shared → Prop} (hh : A.handled = none)
    (h : wpAny M A (eval e env) (fun v s₁ => ∃ a t od osl, v = .ref a ∧ s₁.heap.get? C = some (excClassObj nm q C N bs (.ref P :: bmE) hdct sn sub ab col dd k0 k1 k2 k3 k5 "Exception.__new__") ∧
      s₁.heap.get? a = some { cls := .ref C, dict := od, data := .fields #[.ref t, .none, .none, .none, .bool false, .none], slots := osl } ∧ E (.ref a) s₁) E s) : wpAny M A (exec (.Raise (some e) none pos) env) Q E s := by
  have hcB : (Value.ref C :: .ref P :: bmE).contains (.type "BaseException") = true := rfl
  show wpAny M A (do standAt pos; raiseStmt env (some (do let v ← eval e env; standAt pos; pure v)) none) Q E s
  refine wpAny_bind (wpAny_standAt ?_)
  unfold raiseStmt
  dsimp only
  refine wpAny_bind (wpAny_bind (wpAny_mono h (fun v s₁ h₁ => wpAny_bind (wpAny_standAt (wpAny_pure ?_))) fun _ _ x => x))
  obtain ⟨e, t, od, osl, rfl, hC, he, hE⟩ := h₁
  obtain ⟨hp, g, d, tk, os⟩ := s₁
  iterate 45 (first | with_reducible refine wpAny_loadPart_at he ?_ | with_reducible refine wpAny_loadPart_at hC ?_ | (with_reducible refine wpAny_isSubtype_exc hC ?_; rw [hcB]) | wp_step)
  rw [if_pos (show ((excClassObj nm q C N bs (.ref P :: bmE) hdct sn sub ab col dd k0 k1 k2 k3 k5 "Exception.__new__").cls == Value.type "type") = true from beq_self_eq_true _)]
  iterate 14 (first | with_reducible refine wpAny_loadPart_at he ?_ | wp_step)
  exact wpAny_raiseNew_none hh hE
end
section
variable {h₀ h h' : Heap} {L d : Addr} {m : Str → Option Value} {news : List (Addr × Obj)} {o o' : Obj}
theorem fr_ext (F : Fr h₀ L h m) (x : Heap.ExtBut d h h') (hL : d ≠ L) (hn : h₀.get? d = none) : Fr h₀ L h' m := by
  obtain ⟨oL, a1, a2, hoL, a3⟩ := F.ns
  refine ⟨⟨oL, a1, a2, x L _ hL.symm hoL, a3⟩, fun b y e => x b y ?_ (F.keep b y e), F.above⟩
  rintro rfl
  rw [hn] at e
  cases e
theorem news_ext (N : News h₀ L h ((d, o) :: news)) (hap : ∀ p ∈ news, p.1 ≠ d) (x : Heap.ExtBut d h h') (ho : h'.get? d = some o') : News h₀ L h' ((d, o') :: news) := by
  intro p hp
  rcases List.mem_cons.mp hp with rfl | hp
  · exact ⟨ho, (N _ (.head _)).2⟩
  · exact ⟨x _ _ (hap p hp) (N p (.tail _ hp)).1, (N p (.tail _ hp)).2⟩
theorem allLt_ne {news : List (Addr × Obj)} (h : AllLt d news) (p : Addr × Obj) (hp : p ∈ news) : p.1 ≠ d := Nat.ne_of_lt (ktn_ltOf h p hp)
end
section
variable {M : Model} {A : Around} {E : Value → Shared → Prop} {s' : Shared} {base g : Heap} {outer : List Env} {L a e : Addr} {m : Str → Option Value} {name : Str} {scope : Scope} {cd : Value} {Q : Unit → Shared → Prop} {news : List (Addr × Obj)}
/-- leaving a def's frame by an exception that the ledger bears -/
theorem leave_own {cls a0 : Value} {oe : Obj} {vs : Array Value} (K : Below A base outer g) (F : Fr g L s'.heap m) (N : News g L s'.heap ((e, oe) :: news)) (hap : ∀ p ∈ news, p.1 ≠ e)
    (hc : oe.cls = cls) (hd : oe.data = .fields vs) (h1 : vs[1]? = some .none) (h0 : vs[0]? = some a0)
    (hQ : ∀ h', RaisedN base outer e cls news h' → g.UpToSlots h' → Q () { s' with heap := h' }) (hk : scope.kind = .function := by rfl) :
    wpAny M (A.deeper (envOf name scope L a cd)) (leaving (envOf name scope L a cd) (.ref e)) Q E s' := by
  have K' := K.push (name := name) (a := a) (cd := cd) F hk
  have he := (N _ (.head _)).1
  have hge : base.get? e = none := fresh_of_stays K.stays (N _ (.head _)).2.2
  have hin : ∀ env ∈ (envOf name scope L a cd :: outer), ∀ b, env.frame = some b → b ∈ e :: (envOf name scope L a cd :: outer).filterMap (·.frame) := fun env he b hb => .tail _ (List.mem_filterMap.mpr ⟨env, he, hb⟩)
  have st : base.StaysIn (hideAll s'.heap (e :: (envOf name scope L a cd :: outer).filterMap (·.frame))) := fun b o q => hideAll_get _ (K'.stays b o q) fun hm => by
    rcases List.mem_cons.mp hm with rfl | hm
    · rw [hge] at q; cases q
    · rw [(K'.frames.mem hm).1] at q; cases q
  have hl : ∀ q ∈ news, (hideAll s'.heap (e :: (envOf name scope L a cd :: outer).filterMap (·.frame))).get? q.1 = some q.2 ∧ base.get? q.1 = none := fun q hq => by
    have Nq := N q (.tail _ hq)
    refine ⟨hideAll_get _ Nq.1 fun hm => ?_, fresh_of_stays K.stays Nq.2.2⟩
    rcases List.mem_cons.mp hm with e' | hm
    · exact hap q hq e'
    · obtain ⟨env, he, hf⟩ := List.mem_filterMap.mp hm
      rcases List.mem_cons.mp he with rfl | he
      · exact Nq.2.1 (Option.some.inj hf).symm
      · obtain ⟨o, ho, _⟩ := (K.frames.mem (List.mem_filterMap.mpr ⟨env, he, hf⟩)).2
        rw [Nq.2.2] at ho; cases ho
  have hen : (hideAll s'.heap (e :: (envOf name scope L a cd :: outer).filterMap (·.frame))).get? e = none := hideAll_none _ (.head _)
  refine wpAny_leaving_firstW (a0 := a0) K'.stack (funFrames_hide K'.frames hin) rfl he (fun b o hb => of_hideAll _ hb) hen hd h1 h0 fun h' hL => ?_
  obtain ⟨k1, ⟨_, _, k2⟩, k3, k4⟩ := hL
  exact hQ h' ⟨_, a0, st, hl, k1, hen, k2, by rw [← hc]; exact k3⟩ ((Heap.UpToSlots.of_keeps F.keep).trans k4)
end
end

section
open PySem PySem.W PyProof.Rows
local macro_rules | `(tactic| walk_at "getMethod type:Exception") => `(tactic| k_extra "own getMethod type:Exception")
local macro_rules | `(tactic| walk_at "call builtin:Exception.__init__") => `(tactic| k_extra "own call builtin:Exception.__init__")
local macro_rules | `(tactic| walk_at "setAttr ref") => `(tactic| k_extra "own setAttr ref")
local macro_rules | `(tactic| walk_at "call builtin:divmod") => `(tactic| k_extra "own call builtin:divmod")
local macro_rules | `(tactic| walk_at "call ref") => `(tactic| k_extra "own call ref")
local macro_rules | `(tactic| walk_at "binaryOp Mult int int") => `(tactic| k_extra "own binaryOp Mult int int")
local macro_rules | `(tactic| walk_at "binaryOp Pow int int") => `(tactic| k_extra "own binaryOp Pow int int")
local macro_rules | `(tactic| walk_at "binaryOp FloorDiv int int") => `(tactic| k_extra "own binaryOp FloorDiv int int")
local macro_rules | `(tactic| walk_at "exec Raise some none") => `(tactic| k_extra "own exec Raise some none")
local macro_rules | `(tactic| walk_at "Exists") => `(tactic| k_extra "own Exists")
local macro_rules | `(tactic| walk_at "leaving ref") => `(tactic| k_extra "own leaving ref")
local macro_rules | `(tactic| walk_at "eval Call") => `(tactic| k_extra "own eval Call")
local macro_rules | `(tactic| walk_at "CompEnd") => `(tactic| k_extra "own CompEnd")
local macro_rules | `(tactic| walk_at "CompRestT") => `(tactic| k_extra "own CompRestT")
local macro_rules | `(tactic| walk_at "KCiEl") => `(tactic| k_extra "own KCiEl")
local macro_rules | `(tactic| walk_at "KCiNo") => `(tactic| k_extra "own KCiNo")
local macro_rules | `(tactic| walk_at "compareOp NotEq ref ref") => `(tactic| k_extra "own compareOp NotEq ref ref")
local macro_rules | `(tactic| walk_at "eval Dict") => `(tactic| k_extra "own eval Dict")
local macro_rules | `(tactic| walk_at "subscriptTail") => `(tactic| k_extra "own subscriptTail")
local macro_rules | `(tactic| walk_at "exec Try") => `(tactic| k_extra "own exec Try")
local macro_rules | `(tactic| walk_at "noteFrame ref") => `(tactic| k_extra "own noteFrame ref")
local macro_rules | `(tactic| walk_at "callWith ref") => `(tactic| k_extra "own callWith ref")
local macro_rules | `(tactic| walk_at "CompRest") => `(tactic| k_extra "own CompRest")
local macro_rules | `(tactic| walk_at "eval Subscript") => `(tactic| k_extra "own eval Subscript")
local macro_rules | `(tactic| walk_at "execs cons") => `(tactic| k_extra "own execs cons")
local macro_rules | `(tactic| k_mem) => `(tactic| (show (_ ∈ (_ : List (PySem.Addr × PySem.Obj))); first | with_reducible assumption | ktr_member))

section
open PySem PySem.W PyProof.Rows
theorem meta_Exception : typeOf (Value.type "Exception") = pure (Value.type "type") := by
  first | rfl | kernel_rfl | decide +kernel

abbrev excO (t : Addr) : Obj := { cls := .ref 44, data := .fields #[.ref t, .none, .none, .none, .bool false, .none] }
abbrev excD (t d : Addr) : Obj := { cls := .ref 44, dict := some d, data := .fields #[.ref t, .none, .none, .none, .bool false, .none] }
abbrev rfObj : Obj := excClassObj (Str.ofString "RunFault") (Str.ofString "RunFault") 44 43 [.ref 31] (.ref 31 :: bmE) true [] [] false none none (some (.ref 35)) none (some (.str (Str.ofString "RunFault") 218)) (some (.str (Str.ofString "RunFault") 226)) (some (.bool true)) "Exception.__new__"
section
variable {w : World} {A : Around} {E : Value → Shared → Prop} {s : Shared} {h₀ : Heap} {L e t d : Addr} {m : Str → Option Value} {news : List (Addr × Obj)} {name : Str} {v : Value}
theorem rf_in : (hd.heap_1 w.params).lookup 44 = some rfObj := by first | rfl | kernel_rfl
theorem init_K {rest : List Value} {Q : Value → Shared → Prop} (F : Fr h₀ L s.heap m) (X : (hd.heap_1 w.params).In h₀) (N : News h₀ L s.heap ((e, excO t) :: news)) (hap : ∀ p ∈ news, p.1 ≠ e)
    (hq : ∀ h' D, Fr h₀ L h' m → News h₀ L h' ((e, excO D) :: news) → Q .none { s with heap := h' }) (hr : rest.length ≤ sizeLine := by size_fits) :
    wpAny (model PySem.Challenge.rw_no0261_01.row.prog w) A (call (.builtin "Exception.__init__") (.ref e :: rest)) Q E s :=
  exc_init_call (h := s.heap) ((X.keeps F.keep) _ _ rf_in) (N _ (.head _)).1 (fun h' D x o => hq h' D (fr_ext F x (N _ (.head _)).2.1 (N _ (.head _)).2.2) (news_ext N hap x o)) hr
theorem set_K {Q : Unit → Shared → Prop} (F : Fr h₀ L s.heap m) (X : (hd.heap_1 w.params).In h₀) (N : News h₀ L s.heap ((e, excO t) :: news)) (hap : ∀ p ∈ news, p.1 ≠ e)
    (hs : findIn (hd.heap_1 w.params) (.ref 44) "__setattr__" = some (some (.builtin "object.__setattr__"))) (hf : findIn (hd.heap_1 w.params) (.ref 44) name = some none)
    (hq : ∀ h' tk' d, Fr h₀ L h' m → News h₀ L h' ((e, excD t d) :: news) → Q () { s with heap := h', toks := tk' }) :
    wpAny (model PySem.Challenge.rw_no0261_01.row.prog w) A (setAttr (.ref e) name v) Q E s :=
  set_exc (P := 31) (X.keeps F.keep) (N _ (.head _)).1 rfl rfl rfl (cd := { name := Str.ofString "RunFault", bases := [.ref 31], mro := .ref 44 :: .ref 31 :: bmE, ns := 43, qualname := Str.ofString "RunFault" }) (by unfold clsIn; rw [rf_in]) rfl rfl hs hf
    fun h' tk' d x o => hq h' tk' d (fr_ext F x (N _ (.head _)).2.1 (N _ (.head _)).2.2) (news_ext N hap x o)
end


theorem init_t {w : World} {x : Str} {u : Tok} {e t : Addr} {mean : ExcName → Option Value} {mg mb : Str → Option Value} {dp un : Nat} {gd : Option (List Code)} {cn : Str} {cs : Scope} {a : Addr} {ccd : Value} {cl : List (Str × Addr)} {outer : List Env} {A₀ : Around} {base h₀ : Heap} {L : Addr} {m : Str → Option Value} {news : List (Addr × Obj)} {s : Shared}
    {Q E : Value → Shared → Prop} (B : Below A₀ base outer h₀) (F : Fr h₀ L s.heap m) (X : (hd.heap_1 w.params).In h₀) (N : News h₀ L s.heap ((e, excO t) :: news)) (T : Top vw (looseW vw []) mean mg mb h₀) (hk : cs.kind = .function) (hdp : dp + 1 < recursionLimit) (hun : un + 8 * 1 < cLine) (hap : ∀ p ∈ news, p.1 ≠ e)
    (hq : ∀ h' tk' D d, Fr h₀ L h' m → News h₀ L h' ((e, excD D d) :: news) → Q (.ref e) { s with heap := h', toks := tk' }) :
    wpAny (model PySem.Challenge.rw_no0261_01.row.prog w) ((ktrTop dp un gd cn cs L a ccd cl outer).under (.builtin "type.__call__" ⟨[.ref 44, .str x u], []⟩)) (call (.ref 28) [.ref e, .str x u]) (fun r s' => r = .none ∧ Q (.ref e) s') E s := by
  w_top off
  (k_with_none; (k_with "own getMethod type:Exception" => (k_here; refine method_type (by k_asm) (by k_asm) meta_Exception (by decide +kernel) (by k_dflt k_is) (by k_handed) ?_)); (k_with "own call builtin:Exception.__init__" => (k_here; refine init_K (by k_asm) (by k_asm) (by k_asm) (by assumption) ?_; intro h' D' F' N'; (try k_sweep))); (k_with "own setAttr ref" => (k_here; refine set_K (by k_asm) (by k_asm) (by k_asm) (by assumption) (by k_dflt k_is) (by k_dflt k_is) ?_; intro h' tk' d' F' N'; (try k_sweep))))
  revert X
  k_fill
  intro X
  refine wpAny_call ?_
  k_dflt ktr_enter
  k_steps
  exact hq _ _ _ _ (by k_asm) (by k_asm)
section
variable {K : Frag} {h : Heap} {N : Addr} {mg : Str → Option Value} {n : Str} {v : Value}
theorem ns_some_of (X : K.In h) (G : h.Ns N mg) (e : nsIn K N n = some (some v)) : mg n = some v := by
  obtain ⟨o, es, ep, ho, hd, _, hf⟩ := G
  unfold nsIn at e
  split at e
  · rename_i c d es' n' sl q
    have := X _ _ q
    rw [ho] at this
    cases this
    cases hd
    split at e
    · rename_i he
      rw [← hf]
      unfold nsFind findBy
      rw [← Array.find?_toList, he]
      exact Option.some.inj e
    · split at e <;> cases e
  · cases e
end
abbrev cd31 : ClassData := { name := Str.ofString "F77Error", bases := [.type "Exception"], mro := .ref 31 :: bmE, ns := 30, qualname := Str.ofString "F77Error", subclasses := [.ref 44] }
theorem p31_in {w : World} : (hd.heap_1 w.params).lookup 31 = some { cls := .type "type", dict := none, data := .cls cd31, slots := #[some (.ref 15), none, some (.str (Str.ofString "F77Error") 189), some (.str (Str.ofString "F77Error") 197), some (.builtin "Exception.__new__"), some (.bool true)] } := by first | rfl | kernel_rfl
theorem exc_K {w : World} {x : Str} {u : Tok} {mean : ExcName → Option Value} {mg mb : Str → Option Value} {dp un : Nat} {gd : Option (List Code)} {cn : Str} {cs : Scope} {a : Addr} {ccd : Value} {cl : List (Str × Addr)} {outer : List Env} {A₀ : Around} {base h₀ : Heap} {L : Addr} {m : Str → Option Value} {news : List (Addr × Obj)} {s : Shared}
    {Q E : Value → Shared → Prop} (B : Below A₀ base outer h₀) (F : Fr h₀ L s.heap m) (X : (hd.heap_1 w.params).In h₀) (N : News h₀ L s.heap news) (T : Top vw (looseW vw []) mean mg mb h₀) (hk : cs.kind = .function) (hdp : dp + 1 < recursionLimit) (hun : un + 8 * 1 < cLine)
    (hq : ∀ h' tk' e D d, Fr h₀ L h' m → News h₀ L h' ((e, excD D d) :: news) → (∀ p ∈ news, p.1 ≠ e) → Q (.ref e) { s with heap := h', toks := tk' }) :
    wpAny (model PySem.Challenge.rw_no0261_01.row.prog w) (ktrTop dp un gd cn cs L a ccd cl outer) (call (.ref 44) [.str x u]) Q E s := by
  have X' := X.keeps F.keep
  obtain ⟨o28, e28, c28⟩ : ∃ o, (hd.heap_1 w.params).lookup 28 = some o ∧ o.cls = .type "function" := ⟨_, rfl, rfl⟩
  refine call_two (h := s.heap) (X' _ _ rf_in) (N := 43) (.of_isNs (isNs_of_in X' (by kernel_rfl))) (P := 31) (X' _ _ p31_in) (.of_isNs (isNs_of_in X' (by kernel_rfl)))
    (nsMap_none_of_in X' (by kernel_rfl) (by kernel_rfl)) (ns_some_of X' (.of_isNs (isNs_of_in X' (by kernel_rfl))) (v := .ref 28) (by kernel_rfl)) (fI := 28) (X' _ _ e28) c28 (fun h' e hm => ?_)
  obtain ⟨t, he, htn, ht⟩ := hm.there
  have F' : Fr h₀ L h' m := F.keeps hm.keeps
  have hap : ∀ p ∈ news, p.1 ≠ e := fun p hp e' => by have := (N p hp).1; rw [e', hm.new] at this; cases this
  have N' : News h₀ L h' ((e, excO t) :: news) := fun p hp => by
    rcases List.mem_cons.mp hp with rfl | hp
    · refine ⟨he, fun e' => ?_, ?_⟩
      · obtain ⟨o, _, _, ho, _⟩ := F.ns
        have := hm.new
        rw [show e = L from e', ho] at this
        cases this
      · cases q : h₀.get? e with
        | none => rfl
        | some o => have := F.keep e o q; rw [hm.new] at this; cases this
    · exact ⟨hm.keeps _ _ (N p hp).1, (N p hp).2⟩
  exact init_t (s := { s with heap := h' }) B F' X N' T hk hdp hun hap fun h'' tk'' D d F'' N'' => hq h'' tk'' e D d F'' N'' hap
theorem Raise_rf {M : Model} {A : Around} {E : Value → Shared → Prop} {s : Shared} {env : Env} {e : PySem.Expr} {pos : Pos} {Q : Flow → Shared → Prop} (hh : A.handled = none)
    (h : wpAny M A (eval e env) (fun v s₁ => ∃ a t od osl, v = .ref a ∧ s₁.heap.get? 44 = some rfObj ∧
      s₁.heap.get? a = some { cls := .ref 44, dict := od, data := .fields #[.ref t, .none, .none, .none, .bool false, .none], slots := osl } ∧ E (.ref a) s₁) E s) : wpAny M A (exec (.Raise (some e) none pos) env) Q E s := Raise_own hh h
theorem raisable_of {w : World} {h : Heap} {h₀ : Heap} {L e D d : Addr} {m : Str → Option Value} {news : List (Addr × Obj)} {R : Addr → Prop} (F : Fr h₀ L h m) (X : (hd.heap_1 w.params).In h₀) (N : News h₀ L h ((e, excD D d) :: news)) (hR : R e) :
    ∃ a t od osl, Value.ref e = .ref a ∧ h.get? 44 = some rfObj ∧ h.get? a = some { cls := .ref 44, dict := od, data := .fields #[.ref t, .none, .none, .none, .bool false, .none], slots := osl } ∧ R a :=
  ⟨_, _, _, _, rfl, (X.keeps F.keep) _ _ rf_in, (N _ (.head _)).1, hR⟩
end

section
open PySem PySem.W PyProof.Rows
section
variable {w : World} {A A₀ : Around} {E : Value → Shared → Prop} {s : Shared} {env : Env}
/-- a clause «except RunFault» at an object of it -/
theorem handleBy_rf {e : Addr} {t : PySem.Expr} {b₀ : Stmt} {suite : List Stmt} {pos : Pos} {rest : List ExceptHandler} {Q : Flow → Shared → Prop}
    (h : wpAny (model PySem.Challenge.rw_no0261_01.row.prog w) (A.mark (some (.ref e))) (eval t env) (fun c s₁ => c = .ref 44 ∧ s₁.heap.get? 44 = some rfObj ∧ (∃ oe, s₁.heap.get? e = some oe ∧ oe.cls = .ref 44) ∧
      wpAny (model PySem.Challenge.rw_no0261_01.row.prog w) (A.mark (some (.ref e))) (setFlight (.ref e) none) (fun _ s₂ => wpAny (model PySem.Challenge.rw_no0261_01.row.prog w) (A.mark (some (.ref e))) (execs (b₀ :: suite) env) Q (notedBy (model PySem.Challenge.rw_no0261_01.row.prog w) (A.mark (some (.ref e))) env (cameBackBy (model PySem.Challenge.rw_no0261_01.row.prog w) A env E)) s₂) (notedBy (model PySem.Challenge.rw_no0261_01.row.prog w) (A.mark (some (.ref e))) env (cameBackBy (model PySem.Challenge.rw_no0261_01.row.prog w) A env E)) s₁) (notedBy (model PySem.Challenge.rw_no0261_01.row.prog w) (A.mark (some (.ref e))) env (cameBackBy (model PySem.Challenge.rw_no0261_01.row.prog w) A env E)) s) :
    wpAny (model PySem.Challenge.rw_no0261_01.row.prog w) A (handleBy (.ref e) env (.ExceptHandler (some t) none (b₀ :: suite) pos :: rest)) Q E s := by
  refine wpAny_handleBy_cons (codeAny_handlers_test (wpAny_mono h (fun c s₁ h₁ => ?_) fun _ _ x => x)) (by intro q; cases q)
  obtain ⟨rfl, hC, ⟨oe, he, hcls⟩, hk⟩ := h₁
  obtain ⟨hh, g, d, tk, os⟩ := s₁
  exact wpAny_excMatches_sub_self hC he hcls (show (Value.ref 31 :: bmE).contains (.type "BaseException") = true from rfl) (codeAny_handlers_suite hk)
end
section
variable {w : World} {A₀ : Around} {E : Value → Shared → Prop} {s' : Shared} {h₀ h : Heap} {outer : List Env} {L a e : Addr} {m : Str → Option Value} {cn : Str} {cs : Scope} {ccd : Value} {cl : List (Str × Addr)}
  {b₀ : Stmt} {suite : List Stmt} {pos np : Pos} {rest : List ExceptHandler} {Q : Flow → Shared → Prop} {news : List (Addr × Obj)} {p : Program} {loose : List Str} {mg mb : Str → Option Value}
/-- RunFault flies into the frame's own try -/
theorem caught_rf (K : Below A₀ h₀ outer h₀) (F : Fr h₀ L h m) (hsm : h.UpToSlots s'.heap) (R : RaisedN h₀ (envX cn cs L a ccd cl :: outer) e (.ref 44) news s'.heap)
    (X : (hd.heap_1 w.params).In h₀) (T : TopRead p loose mg mb h₀)
    (k : ∀ h', Fr h₀ L h' m → News h₀ L h' news →
      wpAny (model PySem.Challenge.rw_no0261_01.row.prog w) ((A₀.deeper (envX cn cs L a ccd cl)).mark (some (.ref e))) (execs (b₀ :: suite) (envX cn cs L a ccd cl)) Q E { s' with heap := h' })
    (hE : PassesOwnAt (model PySem.Challenge.rw_no0261_01.row.prog w) ((A₀.deeper (envX cn cs L a ccd cl)).mark (some (.ref e))) (A₀.deeper (envX cn cs L a ccd cl)) (envX cn cs L a ccd cl) E)
    (hk : cs.kind = .function := by rfl) (hx : (envX cn cs L a ccd cl).kindOf ("RunFault" : Str) = some .globalImplicit := by rfl) :
    wpAny (model PySem.Challenge.rw_no0261_01.row.prog w) (A₀.deeper (envX cn cs L a ccd cl)) (noteFrame (.ref e) (envX cn cs L a ccd cl))
      (fun _ s₂ => wpAny (model PySem.Challenge.rw_no0261_01.row.prog w) (A₀.deeper (envX cn cs L a ccd cl)) (setFlight (.ref e) none) (fun _ s₃ =>
        wpAny (model PySem.Challenge.rw_no0261_01.row.prog w) (A₀.deeper (envX cn cs L a ccd cl)) (handleBy (.ref e) (envX cn cs L a ccd cl) (.ExceptHandler (some (.Name ("RunFault" : Str) np)) none (b₀ :: suite) pos :: rest)) Q E s₃) E s₂) E s' := by
  obtain ⟨B, a0, hB, hl, hfl⟩ := R
  have hL : B.get? L = none := by
    obtain ⟨_, ⟨L', _, hf, hn', _⟩, _⟩ := hfl.2.2.1
    obtain rfl : L = L' := Option.some.inj hf
    exact hn'
  refine wpAny_looks_onW (Around.frames_deeper K.stack) rfl hfl fun h₄ hheld₄ hsm₄ => ?_
  refine wpAny_landsW hheld₄ fun h₅ hheld hsm₅' => ?_
  have hsm₅ := hsm₄.trans hsm₅'
  have hheld' := flyingW_base hB hheld
  have F₅ := F.of_stays hheld'.1 (hsm.trans hsm₅)
  obtain ⟨ob, hob, hobc⟩ := hheld'.there
  refine handleBy_rf (nameX_K (v := .ref 44) F₅ X T (by kernel_rfl) ⟨rfl, (X.keeps F₅.keep) _ _ rf_in, ⟨ob, hob, hobc⟩, ?_⟩ hk hx (by decide))
  refine lands_againW hheld fun h₆ hfl₆ hsm₆ => ?_
  have F₆ := F.of_stays (flyingW_base hB hfl₆).1 ((hsm.trans hsm₅).trans hsm₆)
  exact wpAny_passesOwnAt hE (k h₆ F₆ fun q hq => ⟨hfl₆.1 _ _ (hl q hq).1, (fun z => by have := (hl q hq).1; rw [z, hL] at this; cases this), (hl q hq).2⟩)
end
end

section
open PySem PySem.W PyProof.Rows

theorem c_count (w : World) (n : Int) (t : Tok) (news : List (Addr × Obj)) : Calls w 138 1 news [.int n t] (.int (cdZ n)) := by
  ((k_with_none; (k_with "own call builtin:divmod" => ((with_reducible show wpAny _ _ (call (Value.builtin _) [Value.int _ _, Value.int _ _]) _ _ _); (first | refine divmod_N (by k_asm) (by k_asm) (pow10Z_ne _) ?_ (Or.inl (noPy_pow (by omega))) | refine divmod_N (by k_asm) (by k_asm) (by assumption) ?_ (Or.inl (noPy (by assumption)))); intro _ _ _))); w_top off; unfold Calls; k_fill; intro mean mg mb dp un gd cn cs a ccd cl outer A₀ base h₀ L m s Q E B F X N T hk hdp hun hret; refine wpAny_call ?_; k_dflt ktr_enter)
  k_with "state" => first | exact ⟨by split <;> omega, by rw [cdZ_abs]; omega⟩ | exact cdZ_div9 (by assumption) (by assumption) (by assumption) | exact cdZ_div (by assumption) (by assumption) (by assumption) | exact ⟨by assumption, by assumption⟩
  k_with "measure" => exact fdiv_less (by decide) (by omega)
  k_with "exec While Compare cons nil" => k_while (fun _ a c => 0 ≤ a ∧ c + cdZ a = cdZ n) (fun _ a _ => a.toNat) "n" "count"
  k_steps
  all_goals (refine ret_int (hret) (by k_asm) (by k_asm) (by first | exact fun _ h => h | exact fun _ h => .tail _ h | exact fun _ h => .tail _ (.tail _ h) | exact fun _ h => .tail _ (.tail _ (.tail _ h)) | exact fun _ h => .tail _ (.tail _ (.tail _ (.tail _ h))) | kcj_all | with_reducible assumption | exact sub2 (by with_reducible assumption) (by with_reducible assumption) | exact sub3 (by with_reducible assumption) (by with_reducible assumption) (by with_reducible assumption)) ?_; (exact cdZ_end (by assumption) (by assumption) (by assumption)))
theorem c_strip (w : World) (x y : Int) (t u : Tok) (news : List (Addr × Obj)) : Calls w 145 1 news [.int x t, .int y u] (.pair (strip x y).1 (strip x y).2) := by
  ((k_with_none; (k_with "own call builtin:divmod" => ((with_reducible show wpAny _ _ (call (Value.builtin _) [Value.int _ _, Value.int _ _]) _ _ _); (first | refine divmod_N (by k_asm) (by k_asm) (pow10Z_ne _) ?_ (Or.inl (noPy_pow (by omega))) | refine divmod_N (by k_asm) (by k_asm) (by assumption) ?_ (Or.inl (noPy (by assumption)))); intro _ _ _))); w_top off; unfold Calls; k_fill; intro mean mg mb dp un gd cn cs a ccd cl outer A₀ base h₀ L m s Q E B F X N T hk hdp hun hret; refine wpAny_call ?_; k_dflt ktr_enter)
  k_with "state" => first | exact ⟨by assumption, rfl⟩ | exact strip_turn (by assumption) (by assumption) (by omega)
  k_with "measure" => exact strip_less (by assumption) (by omega)
  k_with "exec While Compare cons nil" => k_while (fun _ a b => a ≠ 0 ∧ strip a b = strip x y) (fun _ a _ => a.natAbs) "m" "e"
  k_steps
  · subst x
    (refine ret_old (hret.2) (by k_asm) (by k_asm) (by first | exact fun _ h => h | exact fun _ h => .tail _ h | exact fun _ h => .tail _ (.tail _ h) | exact fun _ h => .tail _ (.tail _ (.tail _ h)) | exact fun _ h => .tail _ (.tail _ (.tail _ (.tail _ h))) | kcj_all | with_reducible assumption | exact sub2 (by with_reducible assumption) (by with_reducible assumption) | exact sub3 (by with_reducible assumption) (by with_reducible assumption) (by with_reducible assumption)) ?_ ?_; (focus (exact congrArg Prod.fst (strip_zero _))); (focus (exact congrArg Prod.snd (strip_zero _))))
  · (refine ret_new (hret.1) (by k_asm) (by first | exact ⟨by k_asm, .head _⟩ | kcu_news) (by first | exact fun _ h => h | exact fun _ h => .tail _ h | exact fun _ h => .tail _ (.tail _ h) | exact fun _ h => .tail _ (.tail _ (.tail _ h)) | exact fun _ h => .tail _ (.tail _ (.tail _ (.tail _ h))) | kcj_all | with_reducible assumption | exact sub2 (by with_reducible assumption) (by with_reducible assumption) | exact sub3 (by with_reducible assumption) (by with_reducible assumption) (by with_reducible assumption)) (by first | with_reducible assumption | exact And.right (by with_reducible assumption) | exact And.right (And.right (by with_reducible assumption)) | exact And.right (And.right (And.right (by with_reducible assumption))) | kcu_lt) ?_ ?_; (focus (exact strip_end1 (by assumption) (by assumption) (by assumption))); (focus (exact strip_end2 (by assumption) (by assumption) (by assumption))))


theorem c_round (w : World) (x y d : Int) (t u v : Tok) (news : List (Addr × Obj)) (h1 : 0 ≤ d) (h2 : cdZ x ≤ 1900) : Calls w 152 2 news [.int x t, .int y u, .int d v] (.pair (roundD x y d).1 (roundD x y d).2) := by
  ((k_with_none; (k_with "own call builtin:divmod" => ((with_reducible show wpAny _ _ (call (Value.builtin _) [Value.int _ _, Value.int _ _]) _ _ _); (first | refine divmod_N (by k_asm) (by k_asm) (pow10Z_ne _) ?_ (Or.inl (noPy_pow (by omega))) | refine divmod_N (by k_asm) (by k_asm) (by assumption) ?_ (Or.inl (noPy (by assumption)))); intro _ _ _)); (k_with "own call ref" => (k_here; k_dflt (refine use_calls (by k_asm) (by k_asm) (by k_asm) (by k_asm) (by k_asm) (by first | exact rfl | assumption) (c_count _ _ _ _) (by ktr_room) (by ktr_units) ?_; dsimp only [RetAt]; intro t9 h9 tk9 F9 N9; (try dsimp only); (try k_sweep); (try k_fold)))); (k_with "own call ref" => (k_here; k_dflt (refine use_calls (by k_asm) (by k_asm) (by k_asm) (by k_asm) (by k_asm) (by first | exact rfl | assumption) (c_strip _ _ _ _ _ _) (by ktr_room) (by ktr_units) ?_; dsimp only [RetAt]; (refine And.intro ?_ ?_); (focus (intro D9 t9 u9 c9 h9 tk9 F9 N9 l9; (try simp only [AllLt, and_true] at l9); (try dsimp only); (try k_sweep); (try k_fold))); rotate_left; (focus (intro e8 e9 h9 tk9 F9 N9; (try dsimp only); (try k_sweep); (try k_fold))); rotate_right)))); w_top off; unfold Calls; k_fill; intro mean mg mb dp un gd cn cs a ccd cl outer A₀ base h₀ L m s Q E B F X N T hk hdp hun hret; refine wpAny_call ?_; k_dflt ktr_enter)
  k_steps
  all_goals first
    | (refine ret_old (hret.2) (by k_asm) (by k_asm) (by first | exact fun _ h => h | exact fun _ h => .tail _ h | exact fun _ h => .tail _ (.tail _ h) | exact fun _ h => .tail _ (.tail _ (.tail _ h)) | exact fun _ h => .tail _ (.tail _ (.tail _ (.tail _ h))) | kcj_all | with_reducible assumption | exact sub2 (by with_reducible assumption) (by with_reducible assumption) | exact sub3 (by with_reducible assumption) (by with_reducible assumption) (by with_reducible assumption)) ?_ ?_; (focus ((first | rw [roundD_no (by assumption)] | rw [roundD_pos (by assumption) (by assumption) (by (first | exact rhe_up1 (by assumption) | exact rhe_up2 (by assumption) (by assumption) (by assumption) | exact rhe_dn1 (by assumption) (by assumption) (by assumption) | exact rhe_dn2 (by assumption) (by assumption)))] | rw [roundD_neg (by assumption) (by assumption) (by (first | exact rhe_up1 (by assumption) | exact rhe_up2 (by assumption) (by assumption) (by assumption) | exact rhe_dn1 (by assumption) (by assumption) (by assumption) | exact rhe_dn2 (by assumption) (by assumption)))]); assumption)); (focus ((first | rw [roundD_no (by assumption)] | rw [roundD_pos (by assumption) (by assumption) (by (first | exact rhe_up1 (by assumption) | exact rhe_up2 (by assumption) (by assumption) (by assumption) | exact rhe_dn1 (by assumption) (by assumption) (by assumption) | exact rhe_dn2 (by assumption) (by assumption)))] | rw [roundD_neg (by assumption) (by assumption) (by (first | exact rhe_up1 (by assumption) | exact rhe_up2 (by assumption) (by assumption) (by assumption) | exact rhe_dn1 (by assumption) (by assumption) (by assumption) | exact rhe_dn2 (by assumption) (by assumption)))]); assumption)))
    | (refine ret_new (hret.1) (by k_asm) (by first | exact ⟨by k_asm, .head _⟩ | kcu_news) (by first | exact fun _ h => h | exact fun _ h => .tail _ h | exact fun _ h => .tail _ (.tail _ h) | exact fun _ h => .tail _ (.tail _ (.tail _ h)) | exact fun _ h => .tail _ (.tail _ (.tail _ (.tail _ h))) | kcj_all | with_reducible assumption | exact sub2 (by with_reducible assumption) (by with_reducible assumption) | exact sub3 (by with_reducible assumption) (by with_reducible assumption) (by with_reducible assumption)) (by first | with_reducible assumption | exact And.right (by with_reducible assumption) | exact And.right (And.right (by with_reducible assumption)) | exact And.right (And.right (And.right (by with_reducible assumption))) | kcu_lt) ?_ ?_; (focus ((first | rw [roundD_no (by assumption)] | rw [roundD_pos (by assumption) (by assumption) (by (first | exact rhe_up1 (by assumption) | exact rhe_up2 (by assumption) (by assumption) (by assumption) | exact rhe_dn1 (by assumption) (by assumption) (by assumption) | exact rhe_dn2 (by assumption) (by assumption)))] | rw [roundD_neg (by assumption) (by assumption) (by (first | exact rhe_up1 (by assumption) | exact rhe_up2 (by assumption) (by assumption) (by assumption) | exact rhe_dn1 (by assumption) (by assumption) (by assumption) | exact rhe_dn2 (by assumption) (by assumption)))]))); (focus ((first | rw [roundD_no (by assumption)] | rw [roundD_pos (by assumption) (by assumption) (by (first | exact rhe_up1 (by assumption) | exact rhe_up2 (by assumption) (by assumption) (by assumption) | exact rhe_dn1 (by assumption) (by assumption) (by assumption) | exact rhe_dn2 (by assumption) (by assumption)))] | rw [roundD_neg (by assumption) (by assumption) (by (first | exact rhe_up1 (by assumption) | exact rhe_up2 (by assumption) (by assumption) (by assumption) | exact rhe_dn1 (by assumption) (by assumption) (by assumption) | exact rhe_dn2 (by assumption) (by assumption)))]))))
end

section
open PySem PySem.W PyProof.Rows











theorem c_roundR (w : World) (x y d top : Int) (t u v z : Tok) (news : List (Addr × Obj)) (h1 : 0 ≤ d) (h2 : cdZ x ≤ 1900) : Calls w 159 3 news [.int x t, .int y u, .int d v, .int top z] (resP (roundR x y d top)) := by
  ((k_with_none; (k_with "own binaryOp Mult int int" => (k_here; refine mul_int ?_ (mulOk_bd (by (repeat (first | assumption | with_reducible apply bd_abs | with_reducible apply bd_mul | with_reducible apply bd_add | with_reducible apply bd_sub | with_reducible apply bd_neg | with_reducible apply bd_fd | exact bd_pow (by first | omega | (split <;> omega)) | exact bd_lit (by decide)))) (by (repeat (first | assumption | with_reducible apply bd_abs | with_reducible apply bd_mul | with_reducible apply bd_add | with_reducible apply bd_sub | with_reducible apply bd_neg | with_reducible apply bd_fd | exact bd_pow (by first | omega | (split <;> omega)) | exact bd_lit (by decide)))) (by decide) (by decide)); (try dsimp only))); (k_with "own call builtin:divmod" => ((with_reducible show wpAny _ _ (call (Value.builtin _) [Value.int _ _, Value.int _ _]) _ _ _); (first | refine divmod_N (by k_asm) (by k_asm) (pow10Z_ne _) ?_ (Or.inl (noPy_pow (by omega))) | refine divmod_N (by k_asm) (by k_asm) (by first | exact abs_ne (by assumption) | assumption) ?_ (Or.inl (noPy_bd (by (repeat (first | assumption | with_reducible apply bd_abs | with_reducible apply bd_mul | with_reducible apply bd_add | with_reducible apply bd_sub | with_reducible apply bd_neg | with_reducible apply bd_fd | exact bd_pow (by first | omega | (split <;> omega)) | exact bd_lit (by decide)))) (by decide)))); intro _ _ _)); (k_with "own binaryOp Pow int int" => (k_here; refine pow_int_small (by first | omega | (split <;> omega)) (by first | omega | (split <;> omega)) (by first | decide | omega) ?_; (try dsimp only))); (k_with "own binaryOp FloorDiv int int" => (k_here; (first | refine floordiv_int (pow10Z_ne _) ?_ (Or.inl (noPy_pow (by omega))) | refine floordiv_int (by first | exact abs_ne (by assumption) | exact mulpow_ne (by assumption) _ | assumption | omega) ?_ (Or.inl (noPy_bd (by (repeat (first | assumption | with_reducible apply bd_abs | with_reducible apply bd_mul | with_reducible apply bd_add | with_reducible apply bd_sub | with_reducible apply bd_neg | with_reducible apply bd_fd | exact bd_pow (by first | omega | (split <;> omega)) | exact bd_lit (by decide)))) (by decide)))); (try dsimp only))); (k_with "own exec Raise some none" => (k_here; (with_reducible show wpAny _ _ (exec (Stmt.Raise (some (Expr.Call (Expr.Name ("RunFault" : Str) _) _ _ _)) none _) _) _ _ _); refine Raise_rf rfl ?_)); (k_with "own call ref" => (k_here; refine exc_K (by k_asm) (by k_asm) (by k_asm) (by k_asm) (by k_asm) (by first | exact rfl | assumption) (by ktr_room) (by ktr_units) ?_; intro h9 tk9 e9 D9 d9 F9 N9 p9; (try dsimp only); (try k_sweep))); (k_with "own Exists" => (refine raisable_of (by k_asm) (by k_asm) (by k_asm) ?_)); (k_with "own leaving ref" => (k_here; refine leave_own (by assumption) (by k_asm) (by k_asm) (by assumption) rfl rfl rfl rfl ?_; intro h' R' U'; (try dsimp only at R' U' ⊢))); (k_with "own call ref" => (k_here; k_dflt (refine use_calls (by k_asm) (by k_asm) (by k_asm) (by k_asm) (by k_asm) (by first | exact rfl | assumption) (c_count _ _ _ _) (by ktr_room) (by ktr_units) ?_; dsimp only [RetAt]; intro t9 h9 tk9 F9 N9; (try dsimp only); (try k_sweep); (try k_fold)))); (k_with "own call ref" => (k_here; k_dflt (refine use_calls (by k_asm) (by k_asm) (by k_asm) (by k_asm) (by k_asm) (by first | exact rfl | assumption) (c_round _ _ _ _ _ _ _ _ (by assumption) (by assumption)) (by ktr_room) (by ktr_units) ?_; dsimp only [RetAt]; (refine And.intro ?_ ?_); (focus (intro D9 t9 u9 c9 h9 tk9 F9 N9 l9; (try simp only [AllLt, and_true] at l9); (try dsimp only); (try k_sweep); (try k_fold))); rotate_left; (focus (intro e8 e9 h9 tk9 F9 N9; (try dsimp only); (try k_sweep); (try k_fold))); rotate_right)))); w_top off; unfold Calls; k_fill; intro mean mg mb dp un gd cn cs a ccd cl outer A₀ base h₀ L m s Q E B F X N T hk hdp hun hret; refine wpAny_call ?_; k_dflt ktr_enter)
  k_steps
  all_goals first
    | (refine ret_old ((retAt_of (resP_some (p := (0, 0)) (by first | exact roundR_nil1 (by assumption) | exact roundR_nil2 (by assumption) (by assumption))) hret).2) (by k_asm) (by k_asm) (by first | exact fun _ h => h | exact fun _ h => .tail _ h | exact fun _ h => .tail _ (.tail _ h) | exact fun _ h => .tail _ (.tail _ (.tail _ h)) | exact fun _ h => .tail _ (.tail _ (.tail _ (.tail _ h))) | kcj_all | with_reducible assumption | exact sub2 (by with_reducible assumption) (by with_reducible assumption) | exact sub3 (by with_reducible assumption) (by with_reducible assumption) (by with_reducible assumption)) ?_ ?_; (focus (rfl)); (focus (rfl)))
    | exact ret_raised (retAt_of (resP_none (roundR_none (by assumption) (by assumption) (by assumption))) hret) (by k_asm) (by k_asm) (by assumption) (by first | exact fun _ h => h | exact fun _ h => .tail _ h | exact fun _ h => .tail _ (.tail _ h) | exact fun _ h => .tail _ (.tail _ (.tail _ h)) | exact fun _ h => .tail _ (.tail _ (.tail _ (.tail _ h))) | kcj_all | with_reducible assumption | exact sub2 (by with_reducible assumption) (by with_reducible assumption) | exact sub3 (by with_reducible assumption) (by with_reducible assumption) (by with_reducible assumption))
    | (refine ret_new ((retAt_of (resP_some (roundR_some (by assumption) (by assumption) (by assumption))) hret).1) (by k_asm) (by first | exact ⟨by k_asm, .head _⟩ | kcu_news) (by first | exact fun _ h => h | exact fun _ h => .tail _ h | exact fun _ h => .tail _ (.tail _ h) | exact fun _ h => .tail _ (.tail _ (.tail _ h)) | exact fun _ h => .tail _ (.tail _ (.tail _ (.tail _ h))) | kcj_all | with_reducible assumption | exact sub2 (by with_reducible assumption) (by with_reducible assumption) | exact sub3 (by with_reducible assumption) (by with_reducible assumption) (by with_reducible assumption)) (by first | with_reducible assumption | exact And.right (by with_reducible assumption) | exact And.right (And.right (by with_reducible assumption)) | exact And.right (And.right (And.right (by with_reducible assumption))) | kcu_lt) ?_ ?_; (focus (rfl)); (focus (rfl)))
end

section
open PySem PySem.W PyProof.Rows










theorem c_add (w : World) (x1 x2 y1 y2 : Int) (V W : Value) (news : List (Addr × Obj)) (hV : PairV news V x1 x2) (hW : PairV news W y1 y2) (b1 : x2 - y2 ≤ 1000) (b2 : y2 - x2 ≤ 1000) (m1 : Bd x1 20) (m2 : Bd y1 20) :
    Calls w 166 1 news [V, W] (.fresh (exactAdd x1 x2 y1 y2).1 (exactAdd x1 x2 y1 y2).2) := by
  cases hV <;> cases hW
  all_goals (
    ((k_with_none; (k_with "own binaryOp Mult int int" => (k_here; refine mul_int ?_ (mulOk_bd (by (repeat (first | assumption | with_reducible apply bd_abs | with_reducible apply bd_mul | with_reducible apply bd_add | with_reducible apply bd_sub | with_reducible apply bd_neg | with_reducible apply bd_fd | exact bd_pow (by first | omega | (split <;> omega)) | exact bd_lit (by decide)))) (by (repeat (first | assumption | with_reducible apply bd_abs | with_reducible apply bd_mul | with_reducible apply bd_add | with_reducible apply bd_sub | with_reducible apply bd_neg | with_reducible apply bd_fd | exact bd_pow (by first | omega | (split <;> omega)) | exact bd_lit (by decide)))) (by decide) (by decide)); (try dsimp only))); (k_with "own call builtin:divmod" => ((with_reducible show wpAny _ _ (call (Value.builtin _) [Value.int _ _, Value.int _ _]) _ _ _); (first | refine divmod_N (by k_asm) (by k_asm) (pow10Z_ne _) ?_ (Or.inl (noPy_pow (by omega))) | refine divmod_N (by k_asm) (by k_asm) (by first | exact abs_ne (by assumption) | assumption) ?_ (Or.inl (noPy_bd (by (repeat (first | assumption | with_reducible apply bd_abs | with_reducible apply bd_mul | with_reducible apply bd_add | with_reducible apply bd_sub | with_reducible apply bd_neg | with_reducible apply bd_fd | exact bd_pow (by first | omega | (split <;> omega)) | exact bd_lit (by decide)))) (by decide)))); intro _ _ _)); (k_with "own binaryOp Pow int int" => (k_here; refine pow_int_small (by first | omega | (split <;> omega)) (by first | omega | (split <;> omega)) (by first | decide | omega) ?_; (try dsimp only))); (k_with "own binaryOp FloorDiv int int" => (k_here; (first | refine floordiv_int (pow10Z_ne _) ?_ (Or.inl (noPy_pow (by omega))) | refine floordiv_int (by first | exact abs_ne (by assumption) | exact mulpow_ne (by assumption) _ | assumption | omega) ?_ (Or.inl (noPy_bd (by (repeat (first | assumption | with_reducible apply bd_abs | with_reducible apply bd_mul | with_reducible apply bd_add | with_reducible apply bd_sub | with_reducible apply bd_neg | with_reducible apply bd_fd | exact bd_pow (by first | omega | (split <;> omega)) | exact bd_lit (by decide)))) (by decide)))); (try dsimp only))); (k_with "own exec Raise some none" => (k_here; (with_reducible show wpAny _ _ (exec (Stmt.Raise (some (Expr.Call (Expr.Name ("RunFault" : Str) _) _ _ _)) none _) _) _ _ _); refine Raise_rf rfl ?_)); (k_with "own call ref" => (k_here; refine exc_K (by k_asm) (by k_asm) (by k_asm) (by k_asm) (by k_asm) (by first | exact rfl | assumption) (by ktr_room) (by ktr_units) ?_; intro h9 tk9 e9 D9 d9 F9 N9 p9; (try dsimp only); (try k_sweep))); (k_with "own Exists" => (refine raisable_of (by k_asm) (by k_asm) (by k_asm) ?_)); (k_with "own leaving ref" => (k_here; refine leave_own (by assumption) (by k_asm) (by k_asm) (by assumption) rfl rfl rfl rfl ?_; intro h' R' U'; (try dsimp only at R' U' ⊢))); (k_with "own call ref" => (k_here; k_dflt (refine use_calls (by k_asm) (by k_asm) (by k_asm) (by k_asm) (by k_asm) (by first | exact rfl | assumption) (c_count _ _ _ _) (by ktr_room) (by ktr_units) ?_; dsimp only [RetAt]; intro t9 h9 tk9 F9 N9; (try dsimp only); (try k_sweep); (try k_fold))))); w_top off; unfold Calls; k_fill; intro mean mg mb dp un gd cn cs a ccd cl outer A₀ base h₀ L m s Q E B F X N T hk hdp hun hret; refine wpAny_call ?_; k_dflt ktr_enter)
    k_steps
    (refine ret_new (hret) (by k_asm) (by first | exact ⟨by k_asm, .head _⟩ | kcu_news) (by first | exact fun _ h => h | exact fun _ h => .tail _ h | exact fun _ h => .tail _ (.tail _ h) | exact fun _ h => .tail _ (.tail _ (.tail _ h)) | exact fun _ h => .tail _ (.tail _ (.tail _ (.tail _ h))) | kcj_all | with_reducible assumption | exact sub2 (by with_reducible assumption) (by with_reducible assumption) | exact sub3 (by with_reducible assumption) (by with_reducible assumption) (by with_reducible assumption)) (by first | with_reducible assumption | exact And.right (by with_reducible assumption) | exact And.right (And.right (by with_reducible assumption)) | exact And.right (And.right (And.right (by with_reducible assumption))) | kcu_lt) ?_ ?_; (focus (rfl)); (focus (rfl))))
theorem c_neg (w : World) (x1 x2 : Int) (V : Value) (news : List (Addr × Obj)) (hV : PairV news V x1 x2) : Calls w 180 1 news [V] (.fresh (-x1) x2) := by
  cases hV
  all_goals (
    ((k_with_none; (k_with "own binaryOp Mult int int" => (k_here; refine mul_int ?_ (mulOk_bd (by (repeat (first | assumption | with_reducible apply bd_abs | with_reducible apply bd_mul | with_reducible apply bd_add | with_reducible apply bd_sub | with_reducible apply bd_neg | with_reducible apply bd_fd | exact bd_pow (by first | omega | (split <;> omega)) | exact bd_lit (by decide)))) (by (repeat (first | assumption | with_reducible apply bd_abs | with_reducible apply bd_mul | with_reducible apply bd_add | with_reducible apply bd_sub | with_reducible apply bd_neg | with_reducible apply bd_fd | exact bd_pow (by first | omega | (split <;> omega)) | exact bd_lit (by decide)))) (by decide) (by decide)); (try dsimp only))); (k_with "own call builtin:divmod" => ((with_reducible show wpAny _ _ (call (Value.builtin _) [Value.int _ _, Value.int _ _]) _ _ _); (first | refine divmod_N (by k_asm) (by k_asm) (pow10Z_ne _) ?_ (Or.inl (noPy_pow (by omega))) | refine divmod_N (by k_asm) (by k_asm) (by first | exact abs_ne (by assumption) | assumption) ?_ (Or.inl (noPy_bd (by (repeat (first | assumption | with_reducible apply bd_abs | with_reducible apply bd_mul | with_reducible apply bd_add | with_reducible apply bd_sub | with_reducible apply bd_neg | with_reducible apply bd_fd | exact bd_pow (by first | omega | (split <;> omega)) | exact bd_lit (by decide)))) (by decide)))); intro _ _ _)); (k_with "own binaryOp Pow int int" => (k_here; refine pow_int_small (by first | omega | (split <;> omega)) (by first | omega | (split <;> omega)) (by first | decide | omega) ?_; (try dsimp only))); (k_with "own binaryOp FloorDiv int int" => (k_here; (first | refine floordiv_int (pow10Z_ne _) ?_ (Or.inl (noPy_pow (by omega))) | refine floordiv_int (by first | exact abs_ne (by assumption) | exact mulpow_ne (by assumption) _ | assumption | omega) ?_ (Or.inl (noPy_bd (by (repeat (first | assumption | with_reducible apply bd_abs | with_reducible apply bd_mul | with_reducible apply bd_add | with_reducible apply bd_sub | with_reducible apply bd_neg | with_reducible apply bd_fd | exact bd_pow (by first | omega | (split <;> omega)) | exact bd_lit (by decide)))) (by decide)))); (try dsimp only))); (k_with "own exec Raise some none" => (k_here; (with_reducible show wpAny _ _ (exec (Stmt.Raise (some (Expr.Call (Expr.Name ("RunFault" : Str) _) _ _ _)) none _) _) _ _ _); refine Raise_rf rfl ?_)); (k_with "own call ref" => (k_here; refine exc_K (by k_asm) (by k_asm) (by k_asm) (by k_asm) (by k_asm) (by first | exact rfl | assumption) (by ktr_room) (by ktr_units) ?_; intro h9 tk9 e9 D9 d9 F9 N9 p9; (try dsimp only); (try k_sweep))); (k_with "own Exists" => (refine raisable_of (by k_asm) (by k_asm) (by k_asm) ?_)); (k_with "own leaving ref" => (k_here; refine leave_own (by assumption) (by k_asm) (by k_asm) (by assumption) rfl rfl rfl rfl ?_; intro h' R' U'; (try dsimp only at R' U' ⊢))); (k_with "own call ref" => (k_here; k_dflt (refine use_calls (by k_asm) (by k_asm) (by k_asm) (by k_asm) (by k_asm) (by first | exact rfl | assumption) (c_count _ _ _ _) (by ktr_room) (by ktr_units) ?_; dsimp only [RetAt]; intro t9 h9 tk9 F9 N9; (try dsimp only); (try k_sweep); (try k_fold))))); w_top off; unfold Calls; k_fill; intro mean mg mb dp un gd cn cs a ccd cl outer A₀ base h₀ L m s Q E B F X N T hk hdp hun hret; refine wpAny_call ?_; k_dflt ktr_enter)
    k_steps
    (refine ret_new (hret) (by k_asm) (by first | exact ⟨by k_asm, .head _⟩ | kcu_news) (by first | exact fun _ h => h | exact fun _ h => .tail _ h | exact fun _ h => .tail _ (.tail _ h) | exact fun _ h => .tail _ (.tail _ (.tail _ h)) | exact fun _ h => .tail _ (.tail _ (.tail _ (.tail _ h))) | kcj_all | with_reducible assumption | exact sub2 (by with_reducible assumption) (by with_reducible assumption) | exact sub3 (by with_reducible assumption) (by with_reducible assumption) (by with_reducible assumption)) (by first | with_reducible assumption | exact And.right (by with_reducible assumption) | exact And.right (And.right (by with_reducible assumption)) | exact And.right (And.right (And.right (by with_reducible assumption))) | kcu_lt) ?_ ?_; (focus (rfl)); (focus (rfl))))
theorem c_quot (w : World) (o u e d : Int) (t1 t2 t3 t4 : Tok) (news : List (Addr × Obj)) (m1 : Bd o 20) (m2 : Bd u 20) (hu : u ≠ 0) (hd : d ≤ 10) : Calls w 187 2 news [.int o t1, .int u t2, .int e t3, .int d t4] (.fresh (quotM o u d) (quotE o u e d)) := by
  have hc := cdZ_nonneg o
  have hc' := cdZ_bd m2
  ((k_with_none; (k_with "own binaryOp Mult int int" => (k_here; refine mul_int ?_ (mulOk_bd (by (repeat (first | assumption | with_reducible apply bd_abs | with_reducible apply bd_mul | with_reducible apply bd_add | with_reducible apply bd_sub | with_reducible apply bd_neg | with_reducible apply bd_fd | exact bd_pow (by first | omega | (split <;> omega)) | exact bd_lit (by decide)))) (by (repeat (first | assumption | with_reducible apply bd_abs | with_reducible apply bd_mul | with_reducible apply bd_add | with_reducible apply bd_sub | with_reducible apply bd_neg | with_reducible apply bd_fd | exact bd_pow (by first | omega | (split <;> omega)) | exact bd_lit (by decide)))) (by decide) (by decide)); (try dsimp only))); (k_with "own call builtin:divmod" => ((with_reducible show wpAny _ _ (call (Value.builtin _) [Value.int _ _, Value.int _ _]) _ _ _); (first | refine divmod_N (by k_asm) (by k_asm) (pow10Z_ne _) ?_ (Or.inl (noPy_pow (by omega))) | refine divmod_N (by k_asm) (by k_asm) (by first | exact abs_ne (by assumption) | assumption) ?_ (Or.inl (noPy_bd (by (repeat (first | assumption | with_reducible apply bd_abs | with_reducible apply bd_mul | with_reducible apply bd_add | with_reducible apply bd_sub | with_reducible apply bd_neg | with_reducible apply bd_fd | exact bd_pow (by first | omega | (split <;> omega)) | exact bd_lit (by decide)))) (by decide)))); intro _ _ _)); (k_with "own binaryOp Pow int int" => (k_here; refine pow_int_small (by first | omega | (split <;> omega)) (by first | omega | (split <;> omega)) (by first | decide | omega) ?_; (try dsimp only))); (k_with "own binaryOp FloorDiv int int" => (k_here; (first | refine floordiv_int (pow10Z_ne _) ?_ (Or.inl (noPy_pow (by omega))) | refine floordiv_int (by first | exact abs_ne (by assumption) | exact mulpow_ne (by assumption) _ | assumption | omega) ?_ (Or.inl (noPy_bd (by (repeat (first | assumption | with_reducible apply bd_abs | with_reducible apply bd_mul | with_reducible apply bd_add | with_reducible apply bd_sub | with_reducible apply bd_neg | with_reducible apply bd_fd | exact bd_pow (by first | omega | (split <;> omega)) | exact bd_lit (by decide)))) (by decide)))); (try dsimp only))); (k_with "own exec Raise some none" => (k_here; (with_reducible show wpAny _ _ (exec (Stmt.Raise (some (Expr.Call (Expr.Name ("RunFault" : Str) _) _ _ _)) none _) _) _ _ _); refine Raise_rf rfl ?_)); (k_with "own call ref" => (k_here; refine exc_K (by k_asm) (by k_asm) (by k_asm) (by k_asm) (by k_asm) (by first | exact rfl | assumption) (by ktr_room) (by ktr_units) ?_; intro h9 tk9 e9 D9 d9 F9 N9 p9; (try dsimp only); (try k_sweep))); (k_with "own Exists" => (refine raisable_of (by k_asm) (by k_asm) (by k_asm) ?_)); (k_with "own leaving ref" => (k_here; refine leave_own (by assumption) (by k_asm) (by k_asm) (by assumption) rfl rfl rfl rfl ?_; intro h' R' U'; (try dsimp only at R' U' ⊢))); (k_with "own call ref" => (k_here; k_dflt (refine use_calls (by k_asm) (by k_asm) (by k_asm) (by k_asm) (by k_asm) (by first | exact rfl | assumption) (c_count _ _ _ _) (by ktr_room) (by ktr_units) ?_; dsimp only [RetAt]; intro t9 h9 tk9 F9 N9; (try dsimp only); (try k_sweep); (try k_fold))))); w_top off; unfold Calls; k_fill; intro mean mg mb dp un gd cn cs a ccd cl outer A₀ base h₀ L m s Q E B F X N T hk hdp hun hret; refine wpAny_call ?_; k_dflt ktr_enter)
  k_steps
  all_goals (refine ret_new (hret) (by k_asm) (by first | exact ⟨by k_asm, .head _⟩ | kcu_news) (by first | exact fun _ h => h | exact fun _ h => .tail _ h | exact fun _ h => .tail _ (.tail _ h) | exact fun _ h => .tail _ (.tail _ (.tail _ h)) | exact fun _ h => .tail _ (.tail _ (.tail _ (.tail _ h))) | kcj_all | with_reducible assumption | exact sub2 (by with_reducible assumption) (by with_reducible assumption) | exact sub3 (by with_reducible assumption) (by with_reducible assumption) (by with_reducible assumption)) (by first | with_reducible assumption | exact And.right (by with_reducible assumption) | exact And.right (And.right (by with_reducible assumption)) | exact And.right (And.right (And.right (by with_reducible assumption))) | kcu_lt) ?_ ?_; (focus (first | exact quotM_a (by assumption) (by assumption) | exact quotM_b (by assumption) (by assumption) | exact quotM_c (by assumption) (by assumption) | exact quotM_d (by assumption) (by assumption))); (focus (rfl)))
theorem c_toint (w : World) (x1 x2 : Int) (V : Value) (news : List (Addr × Obj)) (hV : PairV news V x1 x2) (b1 : x2 ≤ 1000) (b2 : -1000 ≤ x2) (m1 : Bd x1 20) : Calls w 229 1 news [V] (.int (toInt x1 x2)) := by
  cases hV
  all_goals (
    ((k_with_none; (k_with "own binaryOp Mult int int" => (k_here; refine mul_int ?_ (mulOk_bd (by (repeat (first | assumption | with_reducible apply bd_abs | with_reducible apply bd_mul | with_reducible apply bd_add | with_reducible apply bd_sub | with_reducible apply bd_neg | with_reducible apply bd_fd | exact bd_pow (by first | omega | (split <;> omega)) | exact bd_lit (by decide)))) (by (repeat (first | assumption | with_reducible apply bd_abs | with_reducible apply bd_mul | with_reducible apply bd_add | with_reducible apply bd_sub | with_reducible apply bd_neg | with_reducible apply bd_fd | exact bd_pow (by first | omega | (split <;> omega)) | exact bd_lit (by decide)))) (by decide) (by decide)); (try dsimp only))); (k_with "own call builtin:divmod" => ((with_reducible show wpAny _ _ (call (Value.builtin _) [Value.int _ _, Value.int _ _]) _ _ _); (first | refine divmod_N (by k_asm) (by k_asm) (pow10Z_ne _) ?_ (Or.inl (noPy_pow (by omega))) | refine divmod_N (by k_asm) (by k_asm) (by first | exact abs_ne (by assumption) | assumption) ?_ (Or.inl (noPy_bd (by (repeat (first | assumption | with_reducible apply bd_abs | with_reducible apply bd_mul | with_reducible apply bd_add | with_reducible apply bd_sub | with_reducible apply bd_neg | with_reducible apply bd_fd | exact bd_pow (by first | omega | (split <;> omega)) | exact bd_lit (by decide)))) (by decide)))); intro _ _ _)); (k_with "own binaryOp Pow int int" => (k_here; refine pow_int_small (by first | omega | (split <;> omega)) (by first | omega | (split <;> omega)) (by first | decide | omega) ?_; (try dsimp only))); (k_with "own binaryOp FloorDiv int int" => (k_here; (first | refine floordiv_int (pow10Z_ne _) ?_ (Or.inl (noPy_pow (by omega))) | refine floordiv_int (by first | exact abs_ne (by assumption) | exact mulpow_ne (by assumption) _ | assumption | omega) ?_ (Or.inl (noPy_bd (by (repeat (first | assumption | with_reducible apply bd_abs | with_reducible apply bd_mul | with_reducible apply bd_add | with_reducible apply bd_sub | with_reducible apply bd_neg | with_reducible apply bd_fd | exact bd_pow (by first | omega | (split <;> omega)) | exact bd_lit (by decide)))) (by decide)))); (try dsimp only))); (k_with "own exec Raise some none" => (k_here; (with_reducible show wpAny _ _ (exec (Stmt.Raise (some (Expr.Call (Expr.Name ("RunFault" : Str) _) _ _ _)) none _) _) _ _ _); refine Raise_rf rfl ?_)); (k_with "own call ref" => (k_here; refine exc_K (by k_asm) (by k_asm) (by k_asm) (by k_asm) (by k_asm) (by first | exact rfl | assumption) (by ktr_room) (by ktr_units) ?_; intro h9 tk9 e9 D9 d9 F9 N9 p9; (try dsimp only); (try k_sweep))); (k_with "own Exists" => (refine raisable_of (by k_asm) (by k_asm) (by k_asm) ?_)); (k_with "own leaving ref" => (k_here; refine leave_own (by assumption) (by k_asm) (by k_asm) (by assumption) rfl rfl rfl rfl ?_; intro h' R' U'; (try dsimp only at R' U' ⊢))); (k_with "own call ref" => (k_here; k_dflt (refine use_calls (by k_asm) (by k_asm) (by k_asm) (by k_asm) (by k_asm) (by first | exact rfl | assumption) (c_count _ _ _ _) (by ktr_room) (by ktr_units) ?_; dsimp only [RetAt]; intro t9 h9 tk9 F9 N9; (try dsimp only); (try k_sweep); (try k_fold))))); w_top off; unfold Calls; k_fill; intro mean mg mb dp un gd cn cs a ccd cl outer A₀ base h₀ L m s Q E B F X N T hk hdp hun hret; refine wpAny_call ?_; k_dflt ktr_enter)
    k_steps
    all_goals (refine ret_int (hret) (by k_asm) (by k_asm) (by first | exact fun _ h => h | exact fun _ h => .tail _ h | exact fun _ h => .tail _ (.tail _ h) | exact fun _ h => .tail _ (.tail _ (.tail _ h)) | exact fun _ h => .tail _ (.tail _ (.tail _ (.tail _ h))) | kcj_all | with_reducible assumption | exact sub2 (by with_reducible assumption) (by with_reducible assumption) | exact sub3 (by with_reducible assumption) (by with_reducible assumption) (by with_reducible assumption)) ?_; (first | exact toInt_a (by assumption) | exact toInt_b (by assumption) (by assumption) | exact toInt_c (by assumption) (by assumption) | rfl)))




theorem c_radd (w : World) (x1 x2 y1 y2 d top : Int) (V W : Value) (t u : Tok) (news : List (Addr × Obj)) (hV : PairV news V x1 x2) (hW : PairV news W y1 y2) (b1 : x2 - y2 ≤ 1000) (b2 : y2 - x2 ≤ 1000) (m1 : Bd x1 20) (m2 : Bd y1 20) (d0 : 0 ≤ d) :
    Calls w 194 4 news [V, W, .int d t, .int top u] (resP (rAdd x1 x2 y1 y2 d top)) := by
  ((k_with_none; (k_with "own binaryOp Mult int int" => (k_here; refine mul_int ?_ (mulOk_bd (by (repeat (first | assumption | with_reducible apply bd_abs | with_reducible apply bd_mul | with_reducible apply bd_add | with_reducible apply bd_sub | with_reducible apply bd_neg | with_reducible apply bd_fd | exact bd_pow (by first | omega | (split <;> omega)) | exact bd_lit (by decide)))) (by (repeat (first | assumption | with_reducible apply bd_abs | with_reducible apply bd_mul | with_reducible apply bd_add | with_reducible apply bd_sub | with_reducible apply bd_neg | with_reducible apply bd_fd | exact bd_pow (by first | omega | (split <;> omega)) | exact bd_lit (by decide)))) (by decide) (by decide)); (try dsimp only))); (k_with "own call builtin:divmod" => ((with_reducible show wpAny _ _ (call (Value.builtin _) [Value.int _ _, Value.int _ _]) _ _ _); (first | refine divmod_N (by k_asm) (by k_asm) (pow10Z_ne _) ?_ (Or.inl (noPy_pow (by omega))) | refine divmod_N (by k_asm) (by k_asm) (by first | exact abs_ne (by assumption) | assumption) ?_ (Or.inl (noPy_bd (by (repeat (first | assumption | with_reducible apply bd_abs | with_reducible apply bd_mul | with_reducible apply bd_add | with_reducible apply bd_sub | with_reducible apply bd_neg | with_reducible apply bd_fd | exact bd_pow (by first | omega | (split <;> omega)) | exact bd_lit (by decide)))) (by decide)))); intro _ _ _)); (k_with "own binaryOp Pow int int" => (k_here; refine pow_int_small (by first | omega | (split <;> omega)) (by first | omega | (split <;> omega)) (by first | decide | omega) ?_; (try dsimp only))); (k_with "own binaryOp FloorDiv int int" => (k_here; (first | refine floordiv_int (pow10Z_ne _) ?_ (Or.inl (noPy_pow (by omega))) | refine floordiv_int (by first | exact abs_ne (by assumption) | exact mulpow_ne (by assumption) _ | assumption | omega) ?_ (Or.inl (noPy_bd (by (repeat (first | assumption | with_reducible apply bd_abs | with_reducible apply bd_mul | with_reducible apply bd_add | with_reducible apply bd_sub | with_reducible apply bd_neg | with_reducible apply bd_fd | exact bd_pow (by first | omega | (split <;> omega)) | exact bd_lit (by decide)))) (by decide)))); (try dsimp only))); (k_with "own exec Raise some none" => (k_here; (with_reducible show wpAny _ _ (exec (Stmt.Raise (some (Expr.Call (Expr.Name ("RunFault" : Str) _) _ _ _)) none _) _) _ _ _); refine Raise_rf rfl ?_)); (k_with "own call ref" => (k_here; refine exc_K (by k_asm) (by k_asm) (by k_asm) (by k_asm) (by k_asm) (by first | exact rfl | assumption) (by ktr_room) (by ktr_units) ?_; intro h9 tk9 e9 D9 d9 F9 N9 p9; (try dsimp only); (try k_sweep))); (k_with "own Exists" => (refine raisable_of (by k_asm) (by k_asm) (by k_asm) ?_)); (k_with "own leaving ref" => (k_here; refine leave_own (by assumption) (by k_asm) (by k_asm) (by assumption) rfl rfl rfl rfl ?_; intro h' R' U'; (try dsimp only at R' U' ⊢))); (k_with "own call ref" => (k_here; k_dflt (refine use_calls (by k_asm) (by k_asm) (by k_asm) (by k_asm) (by k_asm) (by first | exact rfl | assumption) (c_count _ _ _ _) (by ktr_room) (by ktr_units) ?_; dsimp only [RetAt]; intro t9 h9 tk9 F9 N9; (try dsimp only); (try k_sweep); (try k_fold)))); (k_with "own call ref" => (k_here; k_dflt (refine use_calls (by k_asm) (by k_asm) (by k_asm) (by k_asm) (by k_asm) (by first | exact rfl | assumption) (c_add _ _ _ _ _ _ _ _ (by first | assumption | exact .new (by k_mem) | exact PairV.up (by assumption) | exact PairV.up (PairV.up (by assumption)) | exact PairV.up (PairV.up (PairV.up (by assumption)))) (by first | assumption | exact .new (by k_mem) | exact PairV.up (by assumption) | exact PairV.up (PairV.up (by assumption)) | exact PairV.up (PairV.up (PairV.up (by assumption)))) (by assumption) (by assumption) (by assumption) (by first | assumption | exact bd_neg (by assumption))) (by ktr_room) (by ktr_units) ?_; dsimp only [RetAt]; intro D9 t9 u9 c9 h9 tk9 F9 N9 l9; (try simp only [AllLt, and_true] at l9); (try dsimp only); (try k_sweep); (try k_fold)))); (k_with "own call ref" => (k_here; k_dflt (refine use_calls (by k_asm) (by k_asm) (by k_asm) (by k_asm) (by k_asm) (by first | exact rfl | assumption) (c_neg _ _ _ _ _ (by first | assumption | exact .new (by k_mem) | exact PairV.up (by assumption) | exact PairV.up (PairV.up (by assumption)) | exact PairV.up (PairV.up (PairV.up (by assumption))))) (by ktr_room) (by ktr_units) ?_; dsimp only [RetAt]; intro D9 t9 u9 c9 h9 tk9 F9 N9 l9; (try simp only [AllLt, and_true] at l9); (try dsimp only); (try k_sweep); (try k_fold)))); (k_with "own call ref" => (k_here; k_dflt (refine use_calls (by k_asm) (by k_asm) (by k_asm) (by k_asm) (by k_asm) (by first | exact rfl | assumption) (c_quot _ _ _ _ _ _ _ _ _ _ (by assumption) (by assumption) (by assumption) (by assumption)) (by ktr_room) (by ktr_units) ?_; dsimp only [RetAt]; intro D9 t9 u9 c9 h9 tk9 F9 N9 l9; (try simp only [AllLt, and_true] at l9); (try dsimp only); (try k_sweep); (try k_fold)))); (k_with "own call ref" => (k_here; k_dflt (refine use_calls (by k_asm) (by k_asm) (by k_asm) (by k_asm) (by k_asm) (by first | exact rfl | assumption) (c_roundR _ _ _ _ _ _ _ _ _ _ (by assumption) (by first | exact cdZ_bd' (bd_exactAdd (by assumption) (by first | assumption | exact bd_neg (by assumption)) (by assumption) (by assumption)) (by decide) | exact cdZ_bd' (bd_quotM (by assumption) (by assumption) (by assumption) (by assumption)) (by decide))) (by ktr_room) (by ktr_units) ?_; dsimp only [resP]; split; (focus (dsimp only [RetAt]; intro e9 g9 h9 tk9 F9 R9 U9; (try dsimp only); (try k_fold))); rotate_left; dsimp only [RetAt]; (refine And.intro ?_ ?_); (focus (intro D9 t9 u9 c9 h9 tk9 F9 N9 l9; (try simp only [AllLt, and_true] at l9); (try dsimp only); (try k_sweep); (try k_fold))); rotate_left; (focus (intro e8 e9 h9 tk9 F9 N9; (try dsimp only); (try k_sweep); (try k_fold))); rotate_right)))); w_top off; unfold Calls; k_fill; intro mean mg mb dp un gd cn cs a ccd cl outer A₀ base h₀ L m s Q E B F X N T hk hdp hun hret; refine wpAny_call ?_; k_dflt ktr_enter)
  k_steps
  all_goals first
    | (refine ret_old ((retAt_of (resP_some (by assumption)) hret).2) (by k_asm) (by k_asm) (by first | exact fun _ h => h | exact fun _ h => .tail _ h | exact fun _ h => .tail _ (.tail _ h) | exact fun _ h => .tail _ (.tail _ (.tail _ h)) | exact fun _ h => .tail _ (.tail _ (.tail _ (.tail _ h))) | kcj_all | with_reducible assumption | exact sub2 (by with_reducible assumption) (by with_reducible assumption) | exact sub3 (by with_reducible assumption) (by with_reducible assumption) (by with_reducible assumption)) ?_ ?_; (focus (assumption)); (focus (assumption)))
    | exact ret_raised (retAt_of (resP_none (by assumption)) hret) (by k_asm) (by k_asm) (by assumption) (by first | exact fun _ h => h | exact fun _ h => .tail _ h | exact fun _ h => .tail _ (.tail _ h) | exact fun _ h => .tail _ (.tail _ (.tail _ h)) | exact fun _ h => .tail _ (.tail _ (.tail _ (.tail _ h))) | kcj_all | with_reducible assumption | exact sub2 (by with_reducible assumption) (by with_reducible assumption) | exact sub3 (by with_reducible assumption) (by with_reducible assumption) (by with_reducible assumption))
    | (refine ret_new ((retAt_of (resP_some (by assumption)) hret).1) (by k_asm) (by first | exact ⟨by k_asm, .head _⟩ | kcu_news) (by first | exact fun _ h => h | exact fun _ h => .tail _ h | exact fun _ h => .tail _ (.tail _ h) | exact fun _ h => .tail _ (.tail _ (.tail _ h)) | exact fun _ h => .tail _ (.tail _ (.tail _ (.tail _ h))) | kcj_all | with_reducible assumption | exact sub2 (by with_reducible assumption) (by with_reducible assumption) | exact sub3 (by with_reducible assumption) (by with_reducible assumption) (by with_reducible assumption)) (by first | with_reducible assumption | exact And.right (by with_reducible assumption) | exact And.right (And.right (by with_reducible assumption)) | exact And.right (And.right (And.right (by with_reducible assumption))) | kcu_lt) ?_ ?_; (focus (rfl)); (focus (rfl)))
theorem c_rsub (w : World) (x1 x2 y1 y2 d top : Int) (V W : Value) (t u : Tok) (news : List (Addr × Obj)) (hV : PairV news V x1 x2) (hW : PairV news W y1 y2) (b1 : x2 - y2 ≤ 1000) (b2 : y2 - x2 ≤ 1000) (m1 : Bd x1 20) (m2 : Bd y1 20) (d0 : 0 ≤ d) :
    Calls w 201 4 news [V, W, .int d t, .int top u] (resP (rSub x1 x2 y1 y2 d top)) := by
  ((k_with_none; (k_with "own binaryOp Mult int int" => (k_here; refine mul_int ?_ (mulOk_bd (by (repeat (first | assumption | with_reducible apply bd_abs | with_reducible apply bd_mul | with_reducible apply bd_add | with_reducible apply bd_sub | with_reducible apply bd_neg | with_reducible apply bd_fd | exact bd_pow (by first | omega | (split <;> omega)) | exact bd_lit (by decide)))) (by (repeat (first | assumption | with_reducible apply bd_abs | with_reducible apply bd_mul | with_reducible apply bd_add | with_reducible apply bd_sub | with_reducible apply bd_neg | with_reducible apply bd_fd | exact bd_pow (by first | omega | (split <;> omega)) | exact bd_lit (by decide)))) (by decide) (by decide)); (try dsimp only))); (k_with "own call builtin:divmod" => ((with_reducible show wpAny _ _ (call (Value.builtin _) [Value.int _ _, Value.int _ _]) _ _ _); (first | refine divmod_N (by k_asm) (by k_asm) (pow10Z_ne _) ?_ (Or.inl (noPy_pow (by omega))) | refine divmod_N (by k_asm) (by k_asm) (by first | exact abs_ne (by assumption) | assumption) ?_ (Or.inl (noPy_bd (by (repeat (first | assumption | with_reducible apply bd_abs | with_reducible apply bd_mul | with_reducible apply bd_add | with_reducible apply bd_sub | with_reducible apply bd_neg | with_reducible apply bd_fd | exact bd_pow (by first | omega | (split <;> omega)) | exact bd_lit (by decide)))) (by decide)))); intro _ _ _)); (k_with "own binaryOp Pow int int" => (k_here; refine pow_int_small (by first | omega | (split <;> omega)) (by first | omega | (split <;> omega)) (by first | decide | omega) ?_; (try dsimp only))); (k_with "own binaryOp FloorDiv int int" => (k_here; (first | refine floordiv_int (pow10Z_ne _) ?_ (Or.inl (noPy_pow (by omega))) | refine floordiv_int (by first | exact abs_ne (by assumption) | exact mulpow_ne (by assumption) _ | assumption | omega) ?_ (Or.inl (noPy_bd (by (repeat (first | assumption | with_reducible apply bd_abs | with_reducible apply bd_mul | with_reducible apply bd_add | with_reducible apply bd_sub | with_reducible apply bd_neg | with_reducible apply bd_fd | exact bd_pow (by first | omega | (split <;> omega)) | exact bd_lit (by decide)))) (by decide)))); (try dsimp only))); (k_with "own exec Raise some none" => (k_here; (with_reducible show wpAny _ _ (exec (Stmt.Raise (some (Expr.Call (Expr.Name ("RunFault" : Str) _) _ _ _)) none _) _) _ _ _); refine Raise_rf rfl ?_)); (k_with "own call ref" => (k_here; refine exc_K (by k_asm) (by k_asm) (by k_asm) (by k_asm) (by k_asm) (by first | exact rfl | assumption) (by ktr_room) (by ktr_units) ?_; intro h9 tk9 e9 D9 d9 F9 N9 p9; (try dsimp only); (try k_sweep))); (k_with "own Exists" => (refine raisable_of (by k_asm) (by k_asm) (by k_asm) ?_)); (k_with "own leaving ref" => (k_here; refine leave_own (by assumption) (by k_asm) (by k_asm) (by assumption) rfl rfl rfl rfl ?_; intro h' R' U'; (try dsimp only at R' U' ⊢))); (k_with "own call ref" => (k_here; k_dflt (refine use_calls (by k_asm) (by k_asm) (by k_asm) (by k_asm) (by k_asm) (by first | exact rfl | assumption) (c_count _ _ _ _) (by ktr_room) (by ktr_units) ?_; dsimp only [RetAt]; intro t9 h9 tk9 F9 N9; (try dsimp only); (try k_sweep); (try k_fold)))); (k_with "own call ref" => (k_here; k_dflt (refine use_calls (by k_asm) (by k_asm) (by k_asm) (by k_asm) (by k_asm) (by first | exact rfl | assumption) (c_add _ _ _ _ _ _ _ _ (by first | assumption | exact .new (by k_mem) | exact PairV.up (by assumption) | exact PairV.up (PairV.up (by assumption)) | exact PairV.up (PairV.up (PairV.up (by assumption)))) (by first | assumption | exact .new (by k_mem) | exact PairV.up (by assumption) | exact PairV.up (PairV.up (by assumption)) | exact PairV.up (PairV.up (PairV.up (by assumption)))) (by assumption) (by assumption) (by assumption) (by first | assumption | exact bd_neg (by assumption))) (by ktr_room) (by ktr_units) ?_; dsimp only [RetAt]; intro D9 t9 u9 c9 h9 tk9 F9 N9 l9; (try simp only [AllLt, and_true] at l9); (try dsimp only); (try k_sweep); (try k_fold)))); (k_with "own call ref" => (k_here; k_dflt (refine use_calls (by k_asm) (by k_asm) (by k_asm) (by k_asm) (by k_asm) (by first | exact rfl | assumption) (c_neg _ _ _ _ _ (by first | assumption | exact .new (by k_mem) | exact PairV.up (by assumption) | exact PairV.up (PairV.up (by assumption)) | exact PairV.up (PairV.up (PairV.up (by assumption))))) (by ktr_room) (by ktr_units) ?_; dsimp only [RetAt]; intro D9 t9 u9 c9 h9 tk9 F9 N9 l9; (try simp only [AllLt, and_true] at l9); (try dsimp only); (try k_sweep); (try k_fold)))); (k_with "own call ref" => (k_here; k_dflt (refine use_calls (by k_asm) (by k_asm) (by k_asm) (by k_asm) (by k_asm) (by first | exact rfl | assumption) (c_quot _ _ _ _ _ _ _ _ _ _ (by assumption) (by assumption) (by assumption) (by assumption)) (by ktr_room) (by ktr_units) ?_; dsimp only [RetAt]; intro D9 t9 u9 c9 h9 tk9 F9 N9 l9; (try simp only [AllLt, and_true] at l9); (try dsimp only); (try k_sweep); (try k_fold)))); (k_with "own call ref" => (k_here; k_dflt (refine use_calls (by k_asm) (by k_asm) (by k_asm) (by k_asm) (by k_asm) (by first | exact rfl | assumption) (c_roundR _ _ _ _ _ _ _ _ _ _ (by assumption) (by first | exact cdZ_bd' (bd_exactAdd (by assumption) (by first | assumption | exact bd_neg (by assumption)) (by assumption) (by assumption)) (by decide) | exact cdZ_bd' (bd_quotM (by assumption) (by assumption) (by assumption) (by assumption)) (by decide))) (by ktr_room) (by ktr_units) ?_; dsimp only [resP]; split; (focus (dsimp only [RetAt]; intro e9 g9 h9 tk9 F9 R9 U9; (try dsimp only); (try k_fold))); rotate_left; dsimp only [RetAt]; (refine And.intro ?_ ?_); (focus (intro D9 t9 u9 c9 h9 tk9 F9 N9 l9; (try simp only [AllLt, and_true] at l9); (try dsimp only); (try k_sweep); (try k_fold))); rotate_left; (focus (intro e8 e9 h9 tk9 F9 N9; (try dsimp only); (try k_sweep); (try k_fold))); rotate_right)))); w_top off; unfold Calls; k_fill; intro mean mg mb dp un gd cn cs a ccd cl outer A₀ base h₀ L m s Q E B F X N T hk hdp hun hret; refine wpAny_call ?_; k_dflt ktr_enter)
  k_steps
  all_goals first
    | (refine ret_old ((retAt_of (resP_some (by assumption)) hret).2) (by k_asm) (by k_asm) (by first | exact fun _ h => h | exact fun _ h => .tail _ h | exact fun _ h => .tail _ (.tail _ h) | exact fun _ h => .tail _ (.tail _ (.tail _ h)) | exact fun _ h => .tail _ (.tail _ (.tail _ (.tail _ h))) | kcj_all | with_reducible assumption | exact sub2 (by with_reducible assumption) (by with_reducible assumption) | exact sub3 (by with_reducible assumption) (by with_reducible assumption) (by with_reducible assumption)) ?_ ?_; (focus (assumption)); (focus (assumption)))
    | exact ret_raised (retAt_of (resP_none (by assumption)) hret) (by k_asm) (by k_asm) (by assumption) (by first | exact fun _ h => h | exact fun _ h => .tail _ h | exact fun _ h => .tail _ (.tail _ h) | exact fun _ h => .tail _ (.tail _ (.tail _ h)) | exact fun _ h => .tail _ (.tail _ (.tail _ (.tail _ h))) | kcj_all | with_reducible assumption | exact sub2 (by with_reducible assumption) (by with_reducible assumption) | exact sub3 (by with_reducible assumption) (by with_reducible assumption) (by with_reducible assumption))
    | (refine ret_new ((retAt_of (resP_some (by assumption)) hret).1) (by k_asm) (by first | exact ⟨by k_asm, .head _⟩ | kcu_news) (by first | exact fun _ h => h | exact fun _ h => .tail _ h | exact fun _ h => .tail _ (.tail _ h) | exact fun _ h => .tail _ (.tail _ (.tail _ h)) | exact fun _ h => .tail _ (.tail _ (.tail _ (.tail _ h))) | kcj_all | with_reducible assumption | exact sub2 (by with_reducible assumption) (by with_reducible assumption) | exact sub3 (by with_reducible assumption) (by with_reducible assumption) (by with_reducible assumption)) (by first | with_reducible assumption | exact And.right (by with_reducible assumption) | exact And.right (And.right (by with_reducible assumption)) | exact And.right (And.right (And.right (by with_reducible assumption))) | kcu_lt) ?_ ?_; (focus (rfl)); (focus (rfl)))
theorem c_rdiv (w : World) (x1 x2 y1 y2 d top : Int) (V W : Value) (t u : Tok) (news : List (Addr × Obj)) (hV : PairV news V x1 x2) (hW : PairV news W y1 y2) (m1 : Bd x1 20) (m2 : Bd y1 20) (hu : y1 ≠ 0) (d0 : 0 ≤ d) (hd : d ≤ 10) :
    Calls w 215 4 news [V, W, .int d t, .int top u] (resP (rDiv x1 x2 y1 y2 d top)) := by
  cases hV <;> cases hW
  all_goals first
    | exact absurd rfl hu
    | (
    ((k_with_none; (k_with "own binaryOp Mult int int" => (k_here; refine mul_int ?_ (mulOk_bd (by (repeat (first | assumption | with_reducible apply bd_abs | with_reducible apply bd_mul | with_reducible apply bd_add | with_reducible apply bd_sub | with_reducible apply bd_neg | with_reducible apply bd_fd | exact bd_pow (by first | omega | (split <;> omega)) | exact bd_lit (by decide)))) (by (repeat (first | assumption | with_reducible apply bd_abs | with_reducible apply bd_mul | with_reducible apply bd_add | with_reducible apply bd_sub | with_reducible apply bd_neg | with_reducible apply bd_fd | exact bd_pow (by first | omega | (split <;> omega)) | exact bd_lit (by decide)))) (by decide) (by decide)); (try dsimp only))); (k_with "own call builtin:divmod" => ((with_reducible show wpAny _ _ (call (Value.builtin _) [Value.int _ _, Value.int _ _]) _ _ _); (first | refine divmod_N (by k_asm) (by k_asm) (pow10Z_ne _) ?_ (Or.inl (noPy_pow (by omega))) | refine divmod_N (by k_asm) (by k_asm) (by first | exact abs_ne (by assumption) | assumption) ?_ (Or.inl (noPy_bd (by (repeat (first | assumption | with_reducible apply bd_abs | with_reducible apply bd_mul | with_reducible apply bd_add | with_reducible apply bd_sub | with_reducible apply bd_neg | with_reducible apply bd_fd | exact bd_pow (by first | omega | (split <;> omega)) | exact bd_lit (by decide)))) (by decide)))); intro _ _ _)); (k_with "own binaryOp Pow int int" => (k_here; refine pow_int_small (by first | omega | (split <;> omega)) (by first | omega | (split <;> omega)) (by first | decide | omega) ?_; (try dsimp only))); (k_with "own binaryOp FloorDiv int int" => (k_here; (first | refine floordiv_int (pow10Z_ne _) ?_ (Or.inl (noPy_pow (by omega))) | refine floordiv_int (by first | exact abs_ne (by assumption) | exact mulpow_ne (by assumption) _ | assumption | omega) ?_ (Or.inl (noPy_bd (by (repeat (first | assumption | with_reducible apply bd_abs | with_reducible apply bd_mul | with_reducible apply bd_add | with_reducible apply bd_sub | with_reducible apply bd_neg | with_reducible apply bd_fd | exact bd_pow (by first | omega | (split <;> omega)) | exact bd_lit (by decide)))) (by decide)))); (try dsimp only))); (k_with "own exec Raise some none" => (k_here; (with_reducible show wpAny _ _ (exec (Stmt.Raise (some (Expr.Call (Expr.Name ("RunFault" : Str) _) _ _ _)) none _) _) _ _ _); refine Raise_rf rfl ?_)); (k_with "own call ref" => (k_here; refine exc_K (by k_asm) (by k_asm) (by k_asm) (by k_asm) (by k_asm) (by first | exact rfl | assumption) (by ktr_room) (by ktr_units) ?_; intro h9 tk9 e9 D9 d9 F9 N9 p9; (try dsimp only); (try k_sweep))); (k_with "own Exists" => (refine raisable_of (by k_asm) (by k_asm) (by k_asm) ?_)); (k_with "own leaving ref" => (k_here; refine leave_own (by assumption) (by k_asm) (by k_asm) (by assumption) rfl rfl rfl rfl ?_; intro h' R' U'; (try dsimp only at R' U' ⊢))); (k_with "own call ref" => (k_here; k_dflt (refine use_calls (by k_asm) (by k_asm) (by k_asm) (by k_asm) (by k_asm) (by first | exact rfl | assumption) (c_count _ _ _ _) (by ktr_room) (by ktr_units) ?_; dsimp only [RetAt]; intro t9 h9 tk9 F9 N9; (try dsimp only); (try k_sweep); (try k_fold)))); (k_with "own call ref" => (k_here; k_dflt (refine use_calls (by k_asm) (by k_asm) (by k_asm) (by k_asm) (by k_asm) (by first | exact rfl | assumption) (c_add _ _ _ _ _ _ _ _ (by first | assumption | exact .new (by k_mem) | exact PairV.up (by assumption) | exact PairV.up (PairV.up (by assumption)) | exact PairV.up (PairV.up (PairV.up (by assumption)))) (by first | assumption | exact .new (by k_mem) | exact PairV.up (by assumption) | exact PairV.up (PairV.up (by assumption)) | exact PairV.up (PairV.up (PairV.up (by assumption)))) (by assumption) (by assumption) (by assumption) (by first | assumption | exact bd_neg (by assumption))) (by ktr_room) (by ktr_units) ?_; dsimp only [RetAt]; intro D9 t9 u9 c9 h9 tk9 F9 N9 l9; (try simp only [AllLt, and_true] at l9); (try dsimp only); (try k_sweep); (try k_fold)))); (k_with "own call ref" => (k_here; k_dflt (refine use_calls (by k_asm) (by k_asm) (by k_asm) (by k_asm) (by k_asm) (by first | exact rfl | assumption) (c_neg _ _ _ _ _ (by first | assumption | exact .new (by k_mem) | exact PairV.up (by assumption) | exact PairV.up (PairV.up (by assumption)) | exact PairV.up (PairV.up (PairV.up (by assumption))))) (by ktr_room) (by ktr_units) ?_; dsimp only [RetAt]; intro D9 t9 u9 c9 h9 tk9 F9 N9 l9; (try simp only [AllLt, and_true] at l9); (try dsimp only); (try k_sweep); (try k_fold)))); (k_with "own call ref" => (k_here; k_dflt (refine use_calls (by k_asm) (by k_asm) (by k_asm) (by k_asm) (by k_asm) (by first | exact rfl | assumption) (c_quot _ _ _ _ _ _ _ _ _ _ (by assumption) (by assumption) (by assumption) (by assumption)) (by ktr_room) (by ktr_units) ?_; dsimp only [RetAt]; intro D9 t9 u9 c9 h9 tk9 F9 N9 l9; (try simp only [AllLt, and_true] at l9); (try dsimp only); (try k_sweep); (try k_fold)))); (k_with "own call ref" => (k_here; k_dflt (refine use_calls (by k_asm) (by k_asm) (by k_asm) (by k_asm) (by k_asm) (by first | exact rfl | assumption) (c_roundR _ _ _ _ _ _ _ _ _ _ (by assumption) (by first | exact cdZ_bd' (bd_exactAdd (by assumption) (by first | assumption | exact bd_neg (by assumption)) (by assumption) (by assumption)) (by decide) | exact cdZ_bd' (bd_quotM (by assumption) (by assumption) (by assumption) (by assumption)) (by decide))) (by ktr_room) (by ktr_units) ?_; dsimp only [resP]; split; (focus (dsimp only [RetAt]; intro e9 g9 h9 tk9 F9 R9 U9; (try dsimp only); (try k_fold))); rotate_left; dsimp only [RetAt]; (refine And.intro ?_ ?_); (focus (intro D9 t9 u9 c9 h9 tk9 F9 N9 l9; (try simp only [AllLt, and_true] at l9); (try dsimp only); (try k_sweep); (try k_fold))); rotate_left; (focus (intro e8 e9 h9 tk9 F9 N9; (try dsimp only); (try k_sweep); (try k_fold))); rotate_right)))); w_top off; unfold Calls; k_fill; intro mean mg mb dp un gd cn cs a ccd cl outer A₀ base h₀ L m s Q E B F X N T hk hdp hun hret; refine wpAny_call ?_; k_dflt ktr_enter)
    k_steps
    all_goals first
      | exact absurd (by with_reducible assumption) hu
      | (refine ret_old ((retAt_of (resP_some (by assumption)) hret).2) (by k_asm) (by k_asm) (by first | exact fun _ h => h | exact fun _ h => .tail _ h | exact fun _ h => .tail _ (.tail _ h) | exact fun _ h => .tail _ (.tail _ (.tail _ h)) | exact fun _ h => .tail _ (.tail _ (.tail _ (.tail _ h))) | kcj_all | with_reducible assumption | exact sub2 (by with_reducible assumption) (by with_reducible assumption) | exact sub3 (by with_reducible assumption) (by with_reducible assumption) (by with_reducible assumption)) ?_ ?_; (focus (assumption)); (focus (assumption)))
      | exact ret_raised (retAt_of (resP_none (by assumption)) hret) (by k_asm) (by k_asm) (by assumption) (by first | exact fun _ h => h | exact fun _ h => .tail _ h | exact fun _ h => .tail _ (.tail _ h) | exact fun _ h => .tail _ (.tail _ (.tail _ h)) | exact fun _ h => .tail _ (.tail _ (.tail _ (.tail _ h))) | kcj_all | with_reducible assumption | exact sub2 (by with_reducible assumption) (by with_reducible assumption) | exact sub3 (by with_reducible assumption) (by with_reducible assumption) (by with_reducible assumption))
      | (refine ret_new ((retAt_of (resP_some (by assumption)) hret).1) (by k_asm) (by first | exact ⟨by k_asm, .head _⟩ | kcu_news) (by first | exact fun _ h => h | exact fun _ h => .tail _ h | exact fun _ h => .tail _ (.tail _ h) | exact fun _ h => .tail _ (.tail _ (.tail _ h)) | exact fun _ h => .tail _ (.tail _ (.tail _ (.tail _ h))) | kcj_all | with_reducible assumption | exact sub2 (by with_reducible assumption) (by with_reducible assumption) | exact sub3 (by with_reducible assumption) (by with_reducible assumption) (by with_reducible assumption)) (by first | with_reducible assumption | exact And.right (by with_reducible assumption) | exact And.right (And.right (by with_reducible assumption)) | exact And.right (And.right (And.right (by with_reducible assumption))) | kcu_lt) ?_ ?_; (focus (rfl)); (focus (rfl)))
      | exact absurd (by assumption) hu)
end

section
open PySem PySem.W PyProof.Rows









theorem c_fit (w : World) (n k : Int) (t u : Tok) (news : List (Addr × Obj)) (k0 : 1 ≤ k) (k1 : k ≤ 30) : Calls w 53 3 news [.int n t, .int k u] (resI (fitI n k)) := by
  ((k_with_none; (k_with "own binaryOp Mult int int" => (k_here; refine mul_int ?_ (mulOk_bd (by (repeat (first | assumption | with_reducible apply bd_abs | with_reducible apply bd_mul | with_reducible apply bd_add | with_reducible apply bd_sub | with_reducible apply bd_neg | with_reducible apply bd_fd | exact bd_pow (by first | omega | (split <;> omega)) | exact bd_lit (by decide)))) (by (repeat (first | assumption | with_reducible apply bd_abs | with_reducible apply bd_mul | with_reducible apply bd_add | with_reducible apply bd_sub | with_reducible apply bd_neg | with_reducible apply bd_fd | exact bd_pow (by first | omega | (split <;> omega)) | exact bd_lit (by decide)))) (by decide) (by decide)); (try dsimp only))); (k_with "own call builtin:divmod" => ((with_reducible show wpAny _ _ (call (Value.builtin _) [Value.int _ _, Value.int _ _]) _ _ _); (first | refine divmod_N (by k_asm) (by k_asm) (pow10Z_ne _) ?_ (Or.inl (noPy_pow (by omega))) | refine divmod_N (by k_asm) (by k_asm) (by first | exact abs_ne (by assumption) | assumption) ?_ (Or.inl (noPy_bd (by (repeat (first | assumption | with_reducible apply bd_abs | with_reducible apply bd_mul | with_reducible apply bd_add | with_reducible apply bd_sub | with_reducible apply bd_neg | with_reducible apply bd_fd | exact bd_pow (by first | omega | (split <;> omega)) | exact bd_lit (by decide)))) (by decide)))); intro _ _ _)); (k_with "own binaryOp Pow int int" => (k_here; refine pow_int_small (by first | omega | (split <;> omega)) (by first | omega | (split <;> omega)) (by first | decide | omega) ?_; (try dsimp only))); (k_with "own binaryOp FloorDiv int int" => (k_here; (first | refine floordiv_int (pow10Z_ne _) ?_ (Or.inl (noPy_pow (by omega))) | refine floordiv_int (by first | exact abs_ne (by assumption) | exact mulpow_ne (by assumption) _ | assumption | omega) ?_ (Or.inl (noPy_bd (by (repeat (first | assumption | with_reducible apply bd_abs | with_reducible apply bd_mul | with_reducible apply bd_add | with_reducible apply bd_sub | with_reducible apply bd_neg | with_reducible apply bd_fd | exact bd_pow (by first | omega | (split <;> omega)) | exact bd_lit (by decide)))) (by decide)))); (try dsimp only))); (k_with "own exec Raise some none" => (k_here; (with_reducible show wpAny _ _ (exec (Stmt.Raise (some (Expr.Call (Expr.Name ("RunFault" : Str) _) _ _ _)) none _) _) _ _ _); refine Raise_rf rfl ?_)); (k_with "own call ref" => (k_here; refine exc_K (by k_asm) (by k_asm) (by k_asm) (by k_asm) (by k_asm) (by first | exact rfl | assumption) (by ktr_room) (by ktr_units) ?_; intro h9 tk9 e9 D9 d9 F9 N9 p9; (try dsimp only); (try k_sweep))); (k_with "own Exists" => (refine raisable_of (by k_asm) (by k_asm) (by k_asm) ?_)); (k_with "own leaving ref" => (k_here; refine leave_own (by assumption) (by k_asm) (by k_asm) (by assumption) rfl rfl rfl rfl ?_; intro h' R' U'; (try dsimp only at R' U' ⊢)))); w_top off; unfold Calls; k_fill; intro mean mg mb dp un gd cn cs a ccd cl outer A₀ base h₀ L m s Q E B F X N T hk hdp hun hret; refine wpAny_call ?_; k_dflt ktr_enter)
  k_steps
  all_goals first
    | exact ret_raised (retAt_of (resI_none (by first | exact fitI_a (by assumption) | exact fitI_b (by assumption) (by assumption))) hret) (by k_asm) (by k_asm) (by assumption) (by first | exact fun _ h => h | exact fun _ h => .tail _ h | exact fun _ h => .tail _ (.tail _ h) | exact fun _ h => .tail _ (.tail _ (.tail _ h)) | exact fun _ h => .tail _ (.tail _ (.tail _ (.tail _ h))) | kcj_all | with_reducible assumption | exact sub2 (by with_reducible assumption) (by with_reducible assumption) | exact sub3 (by with_reducible assumption) (by with_reducible assumption) (by with_reducible assumption))
    | (refine ret_int (retAt_of (resI_some (fitI_c (by assumption) (by assumption))) hret) (by k_asm) (by k_asm) (by first | exact fun _ h => h | exact fun _ h => .tail _ h | exact fun _ h => .tail _ (.tail _ h) | exact fun _ h => .tail _ (.tail _ (.tail _ h)) | exact fun _ h => .tail _ (.tail _ (.tail _ (.tail _ h))) | kcj_all | with_reducible assumption | exact sub2 (by with_reducible assumption) (by with_reducible assumption) | exact sub3 (by with_reducible assumption) (by with_reducible assumption) (by with_reducible assumption)) ?_; (rfl))
theorem c_cut (w : World) (x y : Int) (t u : Tok) (news : List (Addr × Obj)) (hy : y ≠ 0) (b : Bd y 20) : Calls w 81 1 news [.int x t, .int y u] (.int (cutQ x y)) := by
  ((k_with_none; (k_with "own binaryOp Mult int int" => (k_here; refine mul_int ?_ (mulOk_bd (by (repeat (first | assumption | with_reducible apply bd_abs | with_reducible apply bd_mul | with_reducible apply bd_add | with_reducible apply bd_sub | with_reducible apply bd_neg | with_reducible apply bd_fd | exact bd_pow (by first | omega | (split <;> omega)) | exact bd_lit (by decide)))) (by (repeat (first | assumption | with_reducible apply bd_abs | with_reducible apply bd_mul | with_reducible apply bd_add | with_reducible apply bd_sub | with_reducible apply bd_neg | with_reducible apply bd_fd | exact bd_pow (by first | omega | (split <;> omega)) | exact bd_lit (by decide)))) (by decide) (by decide)); (try dsimp only))); (k_with "own call builtin:divmod" => ((with_reducible show wpAny _ _ (call (Value.builtin _) [Value.int _ _, Value.int _ _]) _ _ _); (first | refine divmod_N (by k_asm) (by k_asm) (pow10Z_ne _) ?_ (Or.inl (noPy_pow (by omega))) | refine divmod_N (by k_asm) (by k_asm) (by first | exact abs_ne (by assumption) | assumption) ?_ (Or.inl (noPy_bd (by (repeat (first | assumption | with_reducible apply bd_abs | with_reducible apply bd_mul | with_reducible apply bd_add | with_reducible apply bd_sub | with_reducible apply bd_neg | with_reducible apply bd_fd | exact bd_pow (by first | omega | (split <;> omega)) | exact bd_lit (by decide)))) (by decide)))); intro _ _ _)); (k_with "own binaryOp Pow int int" => (k_here; refine pow_int_small (by first | omega | (split <;> omega)) (by first | omega | (split <;> omega)) (by first | decide | omega) ?_; (try dsimp only))); (k_with "own binaryOp FloorDiv int int" => (k_here; (first | refine floordiv_int (pow10Z_ne _) ?_ (Or.inl (noPy_pow (by omega))) | refine floordiv_int (by first | exact abs_ne (by assumption) | exact mulpow_ne (by assumption) _ | assumption | omega) ?_ (Or.inl (noPy_bd (by (repeat (first | assumption | with_reducible apply bd_abs | with_reducible apply bd_mul | with_reducible apply bd_add | with_reducible apply bd_sub | with_reducible apply bd_neg | with_reducible apply bd_fd | exact bd_pow (by first | omega | (split <;> omega)) | exact bd_lit (by decide)))) (by decide)))); (try dsimp only))); (k_with "own exec Raise some none" => (k_here; (with_reducible show wpAny _ _ (exec (Stmt.Raise (some (Expr.Call (Expr.Name ("RunFault" : Str) _) _ _ _)) none _) _) _ _ _); refine Raise_rf rfl ?_)); (k_with "own call ref" => (k_here; refine exc_K (by k_asm) (by k_asm) (by k_asm) (by k_asm) (by k_asm) (by first | exact rfl | assumption) (by ktr_room) (by ktr_units) ?_; intro h9 tk9 e9 D9 d9 F9 N9 p9; (try dsimp only); (try k_sweep))); (k_with "own Exists" => (refine raisable_of (by k_asm) (by k_asm) (by k_asm) ?_)); (k_with "own leaving ref" => (k_here; refine leave_own (by assumption) (by k_asm) (by k_asm) (by assumption) rfl rfl rfl rfl ?_; intro h' R' U'; (try dsimp only at R' U' ⊢)))); w_top off; unfold Calls; k_fill; intro mean mg mb dp un gd cn cs a ccd cl outer A₀ base h₀ L m s Q E B F X N T hk hdp hun hret; refine wpAny_call ?_; k_dflt ktr_enter)
  k_steps
  all_goals (refine ret_int (hret) (by k_asm) (by k_asm) (by first | exact fun _ h => h | exact fun _ h => .tail _ h | exact fun _ h => .tail _ (.tail _ h) | exact fun _ h => .tail _ (.tail _ (.tail _ h)) | exact fun _ h => .tail _ (.tail _ (.tail _ (.tail _ h))) | kcj_all | with_reducible assumption | exact sub2 (by with_reducible assumption) (by with_reducible assumption) | exact sub3 (by with_reducible assumption) (by with_reducible assumption) (by with_reducible assumption)) ?_; (first | exact cutQ_a (by assumption) | exact cutQ_b (by assumption)))
theorem c_iszero_i (w : World) (x : Int) (t : Tok) (news : List (Addr × Obj)) : Calls w 264 1 news [.int x t] (.bool (x == 0)) := by
  ((k_with_none; (k_with "own binaryOp Mult int int" => (k_here; refine mul_int ?_ (mulOk_bd (by (repeat (first | assumption | with_reducible apply bd_abs | with_reducible apply bd_mul | with_reducible apply bd_add | with_reducible apply bd_sub | with_reducible apply bd_neg | with_reducible apply bd_fd | exact bd_pow (by first | omega | (split <;> omega)) | exact bd_lit (by decide)))) (by (repeat (first | assumption | with_reducible apply bd_abs | with_reducible apply bd_mul | with_reducible apply bd_add | with_reducible apply bd_sub | with_reducible apply bd_neg | with_reducible apply bd_fd | exact bd_pow (by first | omega | (split <;> omega)) | exact bd_lit (by decide)))) (by decide) (by decide)); (try dsimp only))); (k_with "own call builtin:divmod" => ((with_reducible show wpAny _ _ (call (Value.builtin _) [Value.int _ _, Value.int _ _]) _ _ _); (first | refine divmod_N (by k_asm) (by k_asm) (pow10Z_ne _) ?_ (Or.inl (noPy_pow (by omega))) | refine divmod_N (by k_asm) (by k_asm) (by first | exact abs_ne (by assumption) | assumption) ?_ (Or.inl (noPy_bd (by (repeat (first | assumption | with_reducible apply bd_abs | with_reducible apply bd_mul | with_reducible apply bd_add | with_reducible apply bd_sub | with_reducible apply bd_neg | with_reducible apply bd_fd | exact bd_pow (by first | omega | (split <;> omega)) | exact bd_lit (by decide)))) (by decide)))); intro _ _ _)); (k_with "own binaryOp Pow int int" => (k_here; refine pow_int_small (by first | omega | (split <;> omega)) (by first | omega | (split <;> omega)) (by first | decide | omega) ?_; (try dsimp only))); (k_with "own binaryOp FloorDiv int int" => (k_here; (first | refine floordiv_int (pow10Z_ne _) ?_ (Or.inl (noPy_pow (by omega))) | refine floordiv_int (by first | exact abs_ne (by assumption) | exact mulpow_ne (by assumption) _ | assumption | omega) ?_ (Or.inl (noPy_bd (by (repeat (first | assumption | with_reducible apply bd_abs | with_reducible apply bd_mul | with_reducible apply bd_add | with_reducible apply bd_sub | with_reducible apply bd_neg | with_reducible apply bd_fd | exact bd_pow (by first | omega | (split <;> omega)) | exact bd_lit (by decide)))) (by decide)))); (try dsimp only))); (k_with "own exec Raise some none" => (k_here; (with_reducible show wpAny _ _ (exec (Stmt.Raise (some (Expr.Call (Expr.Name ("RunFault" : Str) _) _ _ _)) none _) _) _ _ _); refine Raise_rf rfl ?_)); (k_with "own call ref" => (k_here; refine exc_K (by k_asm) (by k_asm) (by k_asm) (by k_asm) (by k_asm) (by first | exact rfl | assumption) (by ktr_room) (by ktr_units) ?_; intro h9 tk9 e9 D9 d9 F9 N9 p9; (try dsimp only); (try k_sweep))); (k_with "own Exists" => (refine raisable_of (by k_asm) (by k_asm) (by k_asm) ?_)); (k_with "own leaving ref" => (k_here; refine leave_own (by assumption) (by k_asm) (by k_asm) (by assumption) rfl rfl rfl rfl ?_; intro h' R' U'; (try dsimp only at R' U' ⊢)))); w_top off; unfold Calls; k_fill; intro mean mg mb dp un gd cn cs a ccd cl outer A₀ base h₀ L m s Q E B F X N T hk hdp hun hret; refine wpAny_call ?_; k_dflt ktr_enter)
  k_steps
  all_goals (refine ret_bool (hret) (by k_asm) (by k_asm) (by first | exact fun _ h => h | exact fun _ h => .tail _ h | exact fun _ h => .tail _ (.tail _ h) | exact fun _ h => .tail _ (.tail _ (.tail _ h)) | exact fun _ h => .tail _ (.tail _ (.tail _ (.tail _ h))) | kcj_all | with_reducible assumption | exact sub2 (by with_reducible assumption) (by with_reducible assumption) | exact sub3 (by with_reducible assumption) (by with_reducible assumption) (by with_reducible assumption)) ?_; (rfl))
theorem c_iszero_p (w : World) (x1 x2 : Int) (V : Value) (news : List (Addr × Obj)) (hV : PairV news V x1 x2) : Calls w 264 1 news [V] (.bool (x1 == 0)) := by
  cases hV
  all_goals (
    ((k_with_none; (k_with "own binaryOp Mult int int" => (k_here; refine mul_int ?_ (mulOk_bd (by (repeat (first | assumption | with_reducible apply bd_abs | with_reducible apply bd_mul | with_reducible apply bd_add | with_reducible apply bd_sub | with_reducible apply bd_neg | with_reducible apply bd_fd | exact bd_pow (by first | omega | (split <;> omega)) | exact bd_lit (by decide)))) (by (repeat (first | assumption | with_reducible apply bd_abs | with_reducible apply bd_mul | with_reducible apply bd_add | with_reducible apply bd_sub | with_reducible apply bd_neg | with_reducible apply bd_fd | exact bd_pow (by first | omega | (split <;> omega)) | exact bd_lit (by decide)))) (by decide) (by decide)); (try dsimp only))); (k_with "own call builtin:divmod" => ((with_reducible show wpAny _ _ (call (Value.builtin _) [Value.int _ _, Value.int _ _]) _ _ _); (first | refine divmod_N (by k_asm) (by k_asm) (pow10Z_ne _) ?_ (Or.inl (noPy_pow (by omega))) | refine divmod_N (by k_asm) (by k_asm) (by first | exact abs_ne (by assumption) | assumption) ?_ (Or.inl (noPy_bd (by (repeat (first | assumption | with_reducible apply bd_abs | with_reducible apply bd_mul | with_reducible apply bd_add | with_reducible apply bd_sub | with_reducible apply bd_neg | with_reducible apply bd_fd | exact bd_pow (by first | omega | (split <;> omega)) | exact bd_lit (by decide)))) (by decide)))); intro _ _ _)); (k_with "own binaryOp Pow int int" => (k_here; refine pow_int_small (by first | omega | (split <;> omega)) (by first | omega | (split <;> omega)) (by first | decide | omega) ?_; (try dsimp only))); (k_with "own binaryOp FloorDiv int int" => (k_here; (first | refine floordiv_int (pow10Z_ne _) ?_ (Or.inl (noPy_pow (by omega))) | refine floordiv_int (by first | exact abs_ne (by assumption) | exact mulpow_ne (by assumption) _ | assumption | omega) ?_ (Or.inl (noPy_bd (by (repeat (first | assumption | with_reducible apply bd_abs | with_reducible apply bd_mul | with_reducible apply bd_add | with_reducible apply bd_sub | with_reducible apply bd_neg | with_reducible apply bd_fd | exact bd_pow (by first | omega | (split <;> omega)) | exact bd_lit (by decide)))) (by decide)))); (try dsimp only))); (k_with "own exec Raise some none" => (k_here; (with_reducible show wpAny _ _ (exec (Stmt.Raise (some (Expr.Call (Expr.Name ("RunFault" : Str) _) _ _ _)) none _) _) _ _ _); refine Raise_rf rfl ?_)); (k_with "own call ref" => (k_here; refine exc_K (by k_asm) (by k_asm) (by k_asm) (by k_asm) (by k_asm) (by first | exact rfl | assumption) (by ktr_room) (by ktr_units) ?_; intro h9 tk9 e9 D9 d9 F9 N9 p9; (try dsimp only); (try k_sweep))); (k_with "own Exists" => (refine raisable_of (by k_asm) (by k_asm) (by k_asm) ?_)); (k_with "own leaving ref" => (k_here; refine leave_own (by assumption) (by k_asm) (by k_asm) (by assumption) rfl rfl rfl rfl ?_; intro h' R' U'; (try dsimp only at R' U' ⊢)))); w_top off; unfold Calls; k_fill; intro mean mg mb dp un gd cn cs a ccd cl outer A₀ base h₀ L m s Q E B F X N T hk hdp hun hret; refine wpAny_call ?_; k_dflt ktr_enter)
    k_steps
    all_goals (refine ret_bool (hret) (by k_asm) (by k_asm) (by first | exact fun _ h => h | exact fun _ h => .tail _ h | exact fun _ h => .tail _ (.tail _ h) | exact fun _ h => .tail _ (.tail _ (.tail _ h)) | exact fun _ h => .tail _ (.tail _ (.tail _ (.tail _ h))) | kcj_all | with_reducible assumption | exact sub2 (by with_reducible assumption) (by with_reducible assumption) | exact sub3 (by with_reducible assumption) (by with_reducible assumption) (by with_reducible assumption)) ?_; (rfl)))



theorem c_iadd (w : World) (x y k : Int) (t u v : Tok) (news : List (Addr × Obj)) (k0 : 1 ≤ k) (k1 : k ≤ 30) : Calls w 60 4 news [.int x t, .int y u, .int k v] (resI (fitI (x + y) k)) := by
  ((k_with_none; (k_with "own binaryOp Mult int int" => (k_here; refine mul_int ?_ (mulOk_bd (by (repeat (first | assumption | with_reducible apply bd_abs | with_reducible apply bd_mul | with_reducible apply bd_add | with_reducible apply bd_sub | with_reducible apply bd_neg | with_reducible apply bd_fd | exact bd_pow (by first | omega | (split <;> omega)) | exact bd_lit (by decide)))) (by (repeat (first | assumption | with_reducible apply bd_abs | with_reducible apply bd_mul | with_reducible apply bd_add | with_reducible apply bd_sub | with_reducible apply bd_neg | with_reducible apply bd_fd | exact bd_pow (by first | omega | (split <;> omega)) | exact bd_lit (by decide)))) (by decide) (by decide)); (try dsimp only))); (k_with "own call builtin:divmod" => ((with_reducible show wpAny _ _ (call (Value.builtin _) [Value.int _ _, Value.int _ _]) _ _ _); (first | refine divmod_N (by k_asm) (by k_asm) (pow10Z_ne _) ?_ (Or.inl (noPy_pow (by omega))) | refine divmod_N (by k_asm) (by k_asm) (by first | exact abs_ne (by assumption) | assumption) ?_ (Or.inl (noPy_bd (by (repeat (first | assumption | with_reducible apply bd_abs | with_reducible apply bd_mul | with_reducible apply bd_add | with_reducible apply bd_sub | with_reducible apply bd_neg | with_reducible apply bd_fd | exact bd_pow (by first | omega | (split <;> omega)) | exact bd_lit (by decide)))) (by decide)))); intro _ _ _)); (k_with "own binaryOp Pow int int" => (k_here; refine pow_int_small (by first | omega | (split <;> omega)) (by first | omega | (split <;> omega)) (by first | decide | omega) ?_; (try dsimp only))); (k_with "own binaryOp FloorDiv int int" => (k_here; (first | refine floordiv_int (pow10Z_ne _) ?_ (Or.inl (noPy_pow (by omega))) | refine floordiv_int (by first | exact abs_ne (by assumption) | exact mulpow_ne (by assumption) _ | assumption | omega) ?_ (Or.inl (noPy_bd (by (repeat (first | assumption | with_reducible apply bd_abs | with_reducible apply bd_mul | with_reducible apply bd_add | with_reducible apply bd_sub | with_reducible apply bd_neg | with_reducible apply bd_fd | exact bd_pow (by first | omega | (split <;> omega)) | exact bd_lit (by decide)))) (by decide)))); (try dsimp only))); (k_with "own exec Raise some none" => (k_here; (with_reducible show wpAny _ _ (exec (Stmt.Raise (some (Expr.Call (Expr.Name ("RunFault" : Str) _) _ _ _)) none _) _) _ _ _); refine Raise_rf rfl ?_)); (k_with "own call ref" => (k_here; refine exc_K (by k_asm) (by k_asm) (by k_asm) (by k_asm) (by k_asm) (by first | exact rfl | assumption) (by ktr_room) (by ktr_units) ?_; intro h9 tk9 e9 D9 d9 F9 N9 p9; (try dsimp only); (try k_sweep))); (k_with "own Exists" => (refine raisable_of (by k_asm) (by k_asm) (by k_asm) ?_)); (k_with "own leaving ref" => (k_here; refine leave_own (by assumption) (by k_asm) (by k_asm) (by assumption) rfl rfl rfl rfl ?_; intro h' R' U'; (try dsimp only at R' U' ⊢))); (k_with "own eval Call" => (k_here; (with_reducible show wpAny _ _ (eval (PySem.Expr.Call (PySem.Expr.Name _ _) _ [] _) _) _ _ _); k_dflt (refine Call_ ?_))); (k_with "own call ref" => (k_here; k_dflt (refine use_calls (by k_asm) (by k_asm) (by k_asm) (by k_asm) (by k_asm) (by first | exact rfl | assumption) (c_fit _ _ _ _ _ _ (by assumption) (by assumption)) (by ktr_room) (by ktr_units) ?_; dsimp only [resI]; split; (focus (dsimp only [RetAt]; intro e9 g9 h9 tk9 F9 R9 U9; (try dsimp only); (try k_fold))); rotate_left; (focus (dsimp only [RetAt]; intro t9 h9 tk9 F9 N9; (try dsimp only); (try k_sweep); (try k_fold))); rotate_right))); (k_with "own call ref" => (k_here; k_dflt (refine use_calls (by k_asm) (by k_asm) (by k_asm) (by k_asm) (by k_asm) (by first | exact rfl | assumption) (c_cut _ _ _ _ _ _ (by assumption) (by assumption)) (by ktr_room) (by ktr_units) ?_; dsimp only [RetAt]; intro t9 h9 tk9 F9 N9; (try dsimp only); (try k_sweep); (try k_fold))))); w_top off; unfold Calls; k_fill; intro mean mg mb dp un gd cn cs a ccd cl outer A₀ base h₀ L m s Q E B F X N T hk hdp hun hret; refine wpAny_call ?_; k_dflt ktr_enter)
  k_steps
  all_goals first
    | exact ret_raised (retAt_of (resI_none (by assumption)) hret) (by k_asm) (by k_asm) (by assumption) (by first | exact fun _ h => h | exact fun _ h => .tail _ h | exact fun _ h => .tail _ (.tail _ h) | exact fun _ h => .tail _ (.tail _ (.tail _ h)) | exact fun _ h => .tail _ (.tail _ (.tail _ (.tail _ h))) | kcj_all | with_reducible assumption | exact sub2 (by with_reducible assumption) (by with_reducible assumption) | exact sub3 (by with_reducible assumption) (by with_reducible assumption) (by with_reducible assumption))
    | (refine ret_int (retAt_of (resI_some (by assumption)) hret) (by k_asm) (by k_asm) (by first | exact fun _ h => h | exact fun _ h => .tail _ h | exact fun _ h => .tail _ (.tail _ h) | exact fun _ h => .tail _ (.tail _ (.tail _ h)) | exact fun _ h => .tail _ (.tail _ (.tail _ (.tail _ h))) | kcj_all | with_reducible assumption | exact sub2 (by with_reducible assumption) (by with_reducible assumption) | exact sub3 (by with_reducible assumption) (by with_reducible assumption) (by with_reducible assumption)) ?_; (rfl))
theorem c_isub (w : World) (x y k : Int) (t u v : Tok) (news : List (Addr × Obj)) (k0 : 1 ≤ k) (k1 : k ≤ 30) : Calls w 67 4 news [.int x t, .int y u, .int k v] (resI (fitI (x - y) k)) := by
  ((k_with_none; (k_with "own binaryOp Mult int int" => (k_here; refine mul_int ?_ (mulOk_bd (by (repeat (first | assumption | with_reducible apply bd_abs | with_reducible apply bd_mul | with_reducible apply bd_add | with_reducible apply bd_sub | with_reducible apply bd_neg | with_reducible apply bd_fd | exact bd_pow (by first | omega | (split <;> omega)) | exact bd_lit (by decide)))) (by (repeat (first | assumption | with_reducible apply bd_abs | with_reducible apply bd_mul | with_reducible apply bd_add | with_reducible apply bd_sub | with_reducible apply bd_neg | with_reducible apply bd_fd | exact bd_pow (by first | omega | (split <;> omega)) | exact bd_lit (by decide)))) (by decide) (by decide)); (try dsimp only))); (k_with "own call builtin:divmod" => ((with_reducible show wpAny _ _ (call (Value.builtin _) [Value.int _ _, Value.int _ _]) _ _ _); (first | refine divmod_N (by k_asm) (by k_asm) (pow10Z_ne _) ?_ (Or.inl (noPy_pow (by omega))) | refine divmod_N (by k_asm) (by k_asm) (by first | exact abs_ne (by assumption) | assumption) ?_ (Or.inl (noPy_bd (by (repeat (first | assumption | with_reducible apply bd_abs | with_reducible apply bd_mul | with_reducible apply bd_add | with_reducible apply bd_sub | with_reducible apply bd_neg | with_reducible apply bd_fd | exact bd_pow (by first | omega | (split <;> omega)) | exact bd_lit (by decide)))) (by decide)))); intro _ _ _)); (k_with "own binaryOp Pow int int" => (k_here; refine pow_int_small (by first | omega | (split <;> omega)) (by first | omega | (split <;> omega)) (by first | decide | omega) ?_; (try dsimp only))); (k_with "own binaryOp FloorDiv int int" => (k_here; (first | refine floordiv_int (pow10Z_ne _) ?_ (Or.inl (noPy_pow (by omega))) | refine floordiv_int (by first | exact abs_ne (by assumption) | exact mulpow_ne (by assumption) _ | assumption | omega) ?_ (Or.inl (noPy_bd (by (repeat (first | assumption | with_reducible apply bd_abs | with_reducible apply bd_mul | with_reducible apply bd_add | with_reducible apply bd_sub | with_reducible apply bd_neg | with_reducible apply bd_fd | exact bd_pow (by first | omega | (split <;> omega)) | exact bd_lit (by decide)))) (by decide)))); (try dsimp only))); (k_with "own exec Raise some none" => (k_here; (with_reducible show wpAny _ _ (exec (Stmt.Raise (some (Expr.Call (Expr.Name ("RunFault" : Str) _) _ _ _)) none _) _) _ _ _); refine Raise_rf rfl ?_)); (k_with "own call ref" => (k_here; refine exc_K (by k_asm) (by k_asm) (by k_asm) (by k_asm) (by k_asm) (by first | exact rfl | assumption) (by ktr_room) (by ktr_units) ?_; intro h9 tk9 e9 D9 d9 F9 N9 p9; (try dsimp only); (try k_sweep))); (k_with "own Exists" => (refine raisable_of (by k_asm) (by k_asm) (by k_asm) ?_)); (k_with "own leaving ref" => (k_here; refine leave_own (by assumption) (by k_asm) (by k_asm) (by assumption) rfl rfl rfl rfl ?_; intro h' R' U'; (try dsimp only at R' U' ⊢))); (k_with "own eval Call" => (k_here; (with_reducible show wpAny _ _ (eval (PySem.Expr.Call (PySem.Expr.Name _ _) _ [] _) _) _ _ _); k_dflt (refine Call_ ?_))); (k_with "own call ref" => (k_here; k_dflt (refine use_calls (by k_asm) (by k_asm) (by k_asm) (by k_asm) (by k_asm) (by first | exact rfl | assumption) (c_fit _ _ _ _ _ _ (by assumption) (by assumption)) (by ktr_room) (by ktr_units) ?_; dsimp only [resI]; split; (focus (dsimp only [RetAt]; intro e9 g9 h9 tk9 F9 R9 U9; (try dsimp only); (try k_fold))); rotate_left; (focus (dsimp only [RetAt]; intro t9 h9 tk9 F9 N9; (try dsimp only); (try k_sweep); (try k_fold))); rotate_right))); (k_with "own call ref" => (k_here; k_dflt (refine use_calls (by k_asm) (by k_asm) (by k_asm) (by k_asm) (by k_asm) (by first | exact rfl | assumption) (c_cut _ _ _ _ _ _ (by assumption) (by assumption)) (by ktr_room) (by ktr_units) ?_; dsimp only [RetAt]; intro t9 h9 tk9 F9 N9; (try dsimp only); (try k_sweep); (try k_fold))))); w_top off; unfold Calls; k_fill; intro mean mg mb dp un gd cn cs a ccd cl outer A₀ base h₀ L m s Q E B F X N T hk hdp hun hret; refine wpAny_call ?_; k_dflt ktr_enter)
  k_steps
  all_goals first
    | exact ret_raised (retAt_of (resI_none (by assumption)) hret) (by k_asm) (by k_asm) (by assumption) (by first | exact fun _ h => h | exact fun _ h => .tail _ h | exact fun _ h => .tail _ (.tail _ h) | exact fun _ h => .tail _ (.tail _ (.tail _ h)) | exact fun _ h => .tail _ (.tail _ (.tail _ (.tail _ h))) | kcj_all | with_reducible assumption | exact sub2 (by with_reducible assumption) (by with_reducible assumption) | exact sub3 (by with_reducible assumption) (by with_reducible assumption) (by with_reducible assumption))
    | (refine ret_int (retAt_of (resI_some (by assumption)) hret) (by k_asm) (by k_asm) (by first | exact fun _ h => h | exact fun _ h => .tail _ h | exact fun _ h => .tail _ (.tail _ h) | exact fun _ h => .tail _ (.tail _ (.tail _ h)) | exact fun _ h => .tail _ (.tail _ (.tail _ (.tail _ h))) | kcj_all | with_reducible assumption | exact sub2 (by with_reducible assumption) (by with_reducible assumption) | exact sub3 (by with_reducible assumption) (by with_reducible assumption) (by with_reducible assumption)) ?_; (rfl))
theorem c_idiv (w : World) (x y k : Int) (t u v : Tok) (news : List (Addr × Obj)) (hy : y ≠ 0) (b : Bd y 20) (k0 : 1 ≤ k) (k1 : k ≤ 30) : Calls w 88 4 news [.int x t, .int y u, .int k v] (resI (iDiv x y k)) := by
  ((k_with_none; (k_with "own binaryOp Mult int int" => (k_here; refine mul_int ?_ (mulOk_bd (by (repeat (first | assumption | with_reducible apply bd_abs | with_reducible apply bd_mul | with_reducible apply bd_add | with_reducible apply bd_sub | with_reducible apply bd_neg | with_reducible apply bd_fd | exact bd_pow (by first | omega | (split <;> omega)) | exact bd_lit (by decide)))) (by (repeat (first | assumption | with_reducible apply bd_abs | with_reducible apply bd_mul | with_reducible apply bd_add | with_reducible apply bd_sub | with_reducible apply bd_neg | with_reducible apply bd_fd | exact bd_pow (by first | omega | (split <;> omega)) | exact bd_lit (by decide)))) (by decide) (by decide)); (try dsimp only))); (k_with "own call builtin:divmod" => ((with_reducible show wpAny _ _ (call (Value.builtin _) [Value.int _ _, Value.int _ _]) _ _ _); (first | refine divmod_N (by k_asm) (by k_asm) (pow10Z_ne _) ?_ (Or.inl (noPy_pow (by omega))) | refine divmod_N (by k_asm) (by k_asm) (by first | exact abs_ne (by assumption) | assumption) ?_ (Or.inl (noPy_bd (by (repeat (first | assumption | with_reducible apply bd_abs | with_reducible apply bd_mul | with_reducible apply bd_add | with_reducible apply bd_sub | with_reducible apply bd_neg | with_reducible apply bd_fd | exact bd_pow (by first | omega | (split <;> omega)) | exact bd_lit (by decide)))) (by decide)))); intro _ _ _)); (k_with "own binaryOp Pow int int" => (k_here; refine pow_int_small (by first | omega | (split <;> omega)) (by first | omega | (split <;> omega)) (by first | decide | omega) ?_; (try dsimp only))); (k_with "own binaryOp FloorDiv int int" => (k_here; (first | refine floordiv_int (pow10Z_ne _) ?_ (Or.inl (noPy_pow (by omega))) | refine floordiv_int (by first | exact abs_ne (by assumption) | exact mulpow_ne (by assumption) _ | assumption | omega) ?_ (Or.inl (noPy_bd (by (repeat (first | assumption | with_reducible apply bd_abs | with_reducible apply bd_mul | with_reducible apply bd_add | with_reducible apply bd_sub | with_reducible apply bd_neg | with_reducible apply bd_fd | exact bd_pow (by first | omega | (split <;> omega)) | exact bd_lit (by decide)))) (by decide)))); (try dsimp only))); (k_with "own exec Raise some none" => (k_here; (with_reducible show wpAny _ _ (exec (Stmt.Raise (some (Expr.Call (Expr.Name ("RunFault" : Str) _) _ _ _)) none _) _) _ _ _); refine Raise_rf rfl ?_)); (k_with "own call ref" => (k_here; refine exc_K (by k_asm) (by k_asm) (by k_asm) (by k_asm) (by k_asm) (by first | exact rfl | assumption) (by ktr_room) (by ktr_units) ?_; intro h9 tk9 e9 D9 d9 F9 N9 p9; (try dsimp only); (try k_sweep))); (k_with "own Exists" => (refine raisable_of (by k_asm) (by k_asm) (by k_asm) ?_)); (k_with "own leaving ref" => (k_here; refine leave_own (by assumption) (by k_asm) (by k_asm) (by assumption) rfl rfl rfl rfl ?_; intro h' R' U'; (try dsimp only at R' U' ⊢))); (k_with "own eval Call" => (k_here; (with_reducible show wpAny _ _ (eval (PySem.Expr.Call (PySem.Expr.Name _ _) _ [] _) _) _ _ _); k_dflt (refine Call_ ?_))); (k_with "own call ref" => (k_here; k_dflt (refine use_calls (by k_asm) (by k_asm) (by k_asm) (by k_asm) (by k_asm) (by first | exact rfl | assumption) (c_fit _ _ _ _ _ _ (by assumption) (by assumption)) (by ktr_room) (by ktr_units) ?_; dsimp only [resI]; split; (focus (dsimp only [RetAt]; intro e9 g9 h9 tk9 F9 R9 U9; (try dsimp only); (try k_fold))); rotate_left; (focus (dsimp only [RetAt]; intro t9 h9 tk9 F9 N9; (try dsimp only); (try k_sweep); (try k_fold))); rotate_right))); (k_with "own call ref" => (k_here; k_dflt (refine use_calls (by k_asm) (by k_asm) (by k_asm) (by k_asm) (by k_asm) (by first | exact rfl | assumption) (c_cut _ _ _ _ _ _ (by assumption) (by assumption)) (by ktr_room) (by ktr_units) ?_; dsimp only [RetAt]; intro t9 h9 tk9 F9 N9; (try dsimp only); (try k_sweep); (try k_fold))))); w_top off; unfold Calls; k_fill; intro mean mg mb dp un gd cn cs a ccd cl outer A₀ base h₀ L m s Q E B F X N T hk hdp hun hret; refine wpAny_call ?_; k_dflt ktr_enter)
  k_steps
  all_goals first
    | exact absurd (by with_reducible assumption) hy
    | exact ret_raised (retAt_of (resI_none (by assumption)) hret) (by k_asm) (by k_asm) (by assumption) (by first | exact fun _ h => h | exact fun _ h => .tail _ h | exact fun _ h => .tail _ (.tail _ h) | exact fun _ h => .tail _ (.tail _ (.tail _ h)) | exact fun _ h => .tail _ (.tail _ (.tail _ (.tail _ h))) | kcj_all | with_reducible assumption | exact sub2 (by with_reducible assumption) (by with_reducible assumption) | exact sub3 (by with_reducible assumption) (by with_reducible assumption) (by with_reducible assumption))
    | (refine ret_int (retAt_of (resI_some (by assumption)) hret) (by k_asm) (by k_asm) (by first | exact fun _ h => h | exact fun _ h => .tail _ h | exact fun _ h => .tail _ (.tail _ h) | exact fun _ h => .tail _ (.tail _ (.tail _ h)) | exact fun _ h => .tail _ (.tail _ (.tail _ (.tail _ h))) | kcj_all | with_reducible assumption | exact sub2 (by with_reducible assumption) (by with_reducible assumption) | exact sub3 (by with_reducible assumption) (by with_reducible assumption) (by with_reducible assumption)) ?_; (rfl))
    | exact absurd (by with_reducible assumption) hy
end

section
open PySem PySem.W PyProof.Rows









theorem strlen {a : Int} (h : 0 < a) : ((Str.ofString (toString a)).length : Int) = cdZ a := by
  obtain ⟨n, rfl⟩ := Int.eq_ofNat_of_zero_le (Int.le_of_lt h)
  have h0 : 0 < n := by omega
  rw [PySem.ofString_length, cdZ, Int.natAbs_natCast]
  have e : (toString (n : Int)).length = n.repr.length := rfl
  rw [e]
  have hp := cd_pos' h0
  have h1 : n.repr.length ≤ cd n := (Nat.length_repr_le_iff hp).mpr cd_lt
  have h2 : cd n ≤ n.repr.length := by
    have := (Nat.length_repr_le_iff (n := n) (k := n.repr.length) Nat.length_repr_pos).mp (Nat.le_refl _)
    exact cd_le this
  omega
/-- None, or a new pair -/
def resN : Option (Int × Int) → Res
  | none => .none
  | some p => .fresh p.1 p.2
theorem resN_some {o : Option (Int × Int)} {p : Int × Int} (e : o = some p) : resN o = .fresh p.1 p.2 := by rw [e]; rfl
theorem resN_none {o : Option (Int × Int)} (e : o = none) : resN o = .none := by rw [e]; rfl
section
variable {o u d top P k : Int}
theorem lead_eq (hd : 1 ≤ d) (hu : 0 < u) (hP : IsPow o u d P) (hk : lawM (sizeR o P) (unitR u P) = k) : ((Str.ofString (toString k)).length : Int) = cdZ (lawM (sizeR o P) (unitR u P)) := by
  have h := quo_pos hd hu hP
  rw [hk]
  refine strlen ?_
  rw [← hk]
  unfold lawM
  split
  · omega
  · split
    · split <;> omega
    · omega
theorem lawR_a (hd : 1 ≤ d) (hu : 0 < u) (hP : IsPow o u d P) (hk : lawM (sizeR o P) (unitR u P) = k) (h : top < P + ((Str.ofString (toString k)).length : Int) - 1) : lawR o u top P = none := by
  rw [lead_eq hd hu hP hk] at h
  rw [lawR, if_pos h]
theorem lawR_b (hd : 1 ≤ d) (hu : 0 < u) (hP : IsPow o u d P) (hk : lawM (sizeR o P) (unitR u P) = k) (h : ¬ top < P + ((Str.ofString (toString k)).length : Int) - 1) (h2 : P + ((Str.ofString (toString k)).length : Int) - 1 < 0 - top) : lawR o u top P = some (0, 1) := by
  rw [lead_eq hd hu hP hk] at h h2
  rw [lawR, if_neg h, if_pos h2]
theorem lawR_c (hd : 1 ≤ d) (hu : 0 < u) (hP : IsPow o u d P) (hk : lawM (sizeR o P) (unitR u P) = k) (h : ¬ top < P + ((Str.ofString (toString k)).length : Int) - 1) (h2 : ¬ P + ((Str.ofString (toString k)).length : Int) - 1 < 0 - top) (ho : 0 < o) : lawR o u top P = some (k * 10 ^ (if 0 > P then 0 else P).toNat * 1, 10 ^ (if 0 > -P then 0 else -P).toNat) := by
  rw [lead_eq hd hu hP hk] at h h2
  rw [lawR, if_neg h, if_neg h2, hk, if_pos ho]
theorem lawR_d (hd : 1 ≤ d) (hu : 0 < u) (hP : IsPow o u d P) (hk : lawM (sizeR o P) (unitR u P) = k) (h : ¬ top < P + ((Str.ofString (toString k)).length : Int) - 1) (h2 : ¬ P + ((Str.ofString (toString k)).length : Int) - 1 < 0 - top) (ho : ¬ 0 < o) : lawR o u top P = some (k * 10 ^ (if 0 > P then 0 else P).toNat * (-1), 10 ^ (if 0 > -P then 0 else -P).toNat) := by
  rw [lead_eq hd hu hP hk] at h h2
  rw [lawR, if_neg h, if_neg h2, hk, if_neg ho]
end
theorem small_abs {a : Int} (h0 : 0 ≤ a) (h1 : a < 200000) : (if a < 0 then 0 - a else a) < 4611686018427387904 := by split <;> omega
theorem c_rounded (w : World) (o u d top P : Int) (t1 t2 t3 t4 : Tok) (news : List (Addr × Obj)) (o0 : o ≠ 0) (bo : Bd o 200) (bu : Bd u 200) (u0 : 0 < u) (d0 : 1 ≤ d) (d1 : d ≤ 5) (p0 : -250 ≤ P) (p1 : P ≤ 250) (hP : IsPow o u d P) :
    Calls w 408 2 news [.int o t1, .int u t2, .int d t3, .int top t4] (resN (lawR o u top P)) := by
  have hq := quo_small (by omega) d1 u0 hP
  ((k_with_none; (k_with "own binaryOp Mult int int" => (k_here; refine mul_int ?_ (mulOk_bd (by (repeat (first | assumption | with_reducible apply bd_abs | with_reducible apply bd_mul | with_reducible apply bd_add | with_reducible apply bd_sub | with_reducible apply bd_neg | with_reducible apply bd_fd | exact bd_pow (by first | omega | (split <;> omega)) | exact bd_lit (by decide)))) (by (repeat (first | assumption | with_reducible apply bd_abs | with_reducible apply bd_mul | with_reducible apply bd_add | with_reducible apply bd_sub | with_reducible apply bd_neg | with_reducible apply bd_fd | exact bd_pow (by first | omega | (split <;> omega)) | exact bd_lit (by decide)))) (by decide) (by decide)); (try dsimp only))); (k_with "own call builtin:divmod" => ((with_reducible show wpAny _ _ (call (Value.builtin _) [Value.int _ _, Value.int _ _]) _ _ _); (first | refine divmod_N (by k_asm) (by k_asm) (pow10Z_ne _) ?_ (Or.inl (noPy_pow (by omega))) | refine divmod_N (by k_asm) (by k_asm) (by first | exact abs_ne (by assumption) | assumption) ?_ (Or.inl (noPy_bd (by (repeat (first | assumption | with_reducible apply bd_abs | with_reducible apply bd_mul | with_reducible apply bd_add | with_reducible apply bd_sub | with_reducible apply bd_neg | with_reducible apply bd_fd | exact bd_pow (by first | omega | (split <;> omega)) | exact bd_lit (by decide)))) (by decide)))); intro _ _ _)); (k_with "own binaryOp Pow int int" => (k_here; refine pow_int_small (by first | omega | (split <;> omega)) (by first | omega | (split <;> omega)) (by first | decide | omega) ?_; (try dsimp only))); (k_with "own binaryOp FloorDiv int int" => (k_here; (first | refine floordiv_int (pow10Z_ne _) ?_ (Or.inl (noPy_pow (by omega))) | refine floordiv_int (by first | exact abs_ne (by assumption) | exact mulpow_ne (by assumption) _ | assumption | omega) ?_ (Or.inl (noPy_bd (by (repeat (first | assumption | with_reducible apply bd_abs | with_reducible apply bd_mul | with_reducible apply bd_add | with_reducible apply bd_sub | with_reducible apply bd_neg | with_reducible apply bd_fd | exact bd_pow (by first | omega | (split <;> omega)) | exact bd_lit (by decide)))) (by decide)))); (try dsimp only))); (k_with "own exec Raise some none" => (k_here; (with_reducible show wpAny _ _ (exec (Stmt.Raise (some (Expr.Call (Expr.Name ("RunFault" : Str) _) _ _ _)) none _) _) _ _ _); refine Raise_rf rfl ?_)); (k_with "own call ref" => (k_here; refine exc_K (by k_asm) (by k_asm) (by k_asm) (by k_asm) (by k_asm) (by first | exact rfl | assumption) (by ktr_room) (by ktr_units) ?_; intro h9 tk9 e9 D9 d9 F9 N9 p9; (try dsimp only); (try k_sweep))); (k_with "own Exists" => (refine raisable_of (by k_asm) (by k_asm) (by k_asm) ?_)); (k_with "own leaving ref" => (k_here; refine leave_own (by assumption) (by k_asm) (by k_asm) (by assumption) rfl rfl rfl rfl ?_; intro h' R' U'; (try dsimp only at R' U' ⊢)))); w_top off; unfold Calls; k_fill; intro mean mg mb dp un gd cn cs a ccd cl outer A₀ base h₀ L m s Q E B F X N T hk hdp hun hret; refine wpAny_call ?_; k_dflt ktr_enter)
  k_with "state" => first | omega | (have h9 := pow_lt hP (by omega) u0 (by assumption); omega) | (have h9 := pow_gt hP (by omega) u0 (by assumption); omega) | (have h9 := pow_ge hP (by omega) u0 (by assumption); omega)
  k_with "measure" => first | (have h9 := pow_lt hP (by omega) u0 (by assumption); (try dsimp only); (repeat' split) <;> omega) | (have h9 := pow_gt hP (by omega) u0 (by assumption); (try dsimp only); (repeat' split) <;> omega)
  k_with "call type:str" => (have g1 := (by assumption : P ≤ _ → P ≤ _) (pow_ge hP (by omega) u0 (by assumption)); have g2 := pow_le hP (by omega) u0 (by assumption); have g3 := Int.le_antisymm g1 g2; subst g3; refine str_of_int_fit (N := 4611686018427387904) (small_abs (by have h8 := hq; unfold sizeR unitR at h8; omega) (by have h8 := hq; unfold sizeR unitR at h8; omega)) (Int.le_refl _) ?_; intro hLen)
  k_with "exec While Compare cons nil" => k_while_given ["power!"] (fun p0 _ p => (0 ≤ p ∨ P ≤ p) ∧ (p ≤ 0 ∨ p ≤ P) ∧ (P ≤ p0 → P ≤ p)) (fun _ _ p => (if p < P then P - p else p - P).toNat) "power"
  k_steps
  all_goals (try clear hLen)
  all_goals first
    | exact absurd (by with_reducible assumption) o0
    | exact ret_none (retAt_of (resN_none (lawR_a (o := o) (u := u) (d := d) (by assumption) (by assumption) (by assumption) (by first | exact lm_up1 (by assumption) | exact lm_up2 (by assumption) (by assumption) (by assumption) | exact lm_dn1 (by assumption) (by assumption) (by assumption) | exact lm_dn2 (by assumption) (by assumption)) (by assumption))) hret) (by k_asm) (by k_asm) (by first | exact fun _ h => h | exact fun _ h => .tail _ h | exact fun _ h => .tail _ (.tail _ h) | exact fun _ h => .tail _ (.tail _ (.tail _ h)) | exact fun _ h => .tail _ (.tail _ (.tail _ (.tail _ h))) | kcj_all | with_reducible assumption | exact sub2 (by with_reducible assumption) (by with_reducible assumption) | exact sub3 (by with_reducible assumption) (by with_reducible assumption) (by with_reducible assumption))
    | (refine ret_new (retAt_of (resN_some (p := (0, 1)) (lawR_b (o := o) (u := u) (d := d) (by assumption) (by assumption) (by assumption) (by first | exact lm_up1 (by assumption) | exact lm_up2 (by assumption) (by assumption) (by assumption) | exact lm_dn1 (by assumption) (by assumption) (by assumption) | exact lm_dn2 (by assumption) (by assumption)) (by assumption) (by assumption))) hret) (by k_asm) (by first | exact ⟨by k_asm, .head _⟩ | kcu_news) (by first | exact fun _ h => h | exact fun _ h => .tail _ h | exact fun _ h => .tail _ (.tail _ h) | exact fun _ h => .tail _ (.tail _ (.tail _ h)) | exact fun _ h => .tail _ (.tail _ (.tail _ (.tail _ h))) | kcj_all | with_reducible assumption | exact sub2 (by with_reducible assumption) (by with_reducible assumption) | exact sub3 (by with_reducible assumption) (by with_reducible assumption) (by with_reducible assumption)) (by first | with_reducible assumption | exact And.right (by with_reducible assumption) | exact And.right (And.right (by with_reducible assumption)) | exact And.right (And.right (And.right (by with_reducible assumption))) | kcu_lt) ?_ ?_; (focus (rfl)); (focus (rfl)))
    | (refine ret_new (retAt_of (resN_some (lawR_c (o := o) (u := u) (d := d) (by assumption) (by assumption) (by assumption) (by first | exact lm_up1 (by assumption) | exact lm_up2 (by assumption) (by assumption) (by assumption) | exact lm_dn1 (by assumption) (by assumption) (by assumption) | exact lm_dn2 (by assumption) (by assumption)) (by assumption) (by assumption) (by assumption))) hret) (by k_asm) (by first | exact ⟨by k_asm, .head _⟩ | kcu_news) (by first | exact fun _ h => h | exact fun _ h => .tail _ h | exact fun _ h => .tail _ (.tail _ h) | exact fun _ h => .tail _ (.tail _ (.tail _ h)) | exact fun _ h => .tail _ (.tail _ (.tail _ (.tail _ h))) | kcj_all | with_reducible assumption | exact sub2 (by with_reducible assumption) (by with_reducible assumption) | exact sub3 (by with_reducible assumption) (by with_reducible assumption) (by with_reducible assumption)) (by first | with_reducible assumption | exact And.right (by with_reducible assumption) | exact And.right (And.right (by with_reducible assumption)) | exact And.right (And.right (And.right (by with_reducible assumption))) | kcu_lt) ?_ ?_; (focus (rfl)); (focus (rfl)))
    | (refine ret_new (retAt_of (resN_some (lawR_d (o := o) (u := u) (d := d) (by assumption) (by assumption) (by assumption) (by first | exact lm_up1 (by assumption) | exact lm_up2 (by assumption) (by assumption) (by assumption) | exact lm_dn1 (by assumption) (by assumption) (by assumption) | exact lm_dn2 (by assumption) (by assumption)) (by assumption) (by assumption) (by assumption))) hret) (by k_asm) (by first | exact ⟨by k_asm, .head _⟩ | kcu_news) (by first | exact fun _ h => h | exact fun _ h => .tail _ h | exact fun _ h => .tail _ (.tail _ h) | exact fun _ h => .tail _ (.tail _ (.tail _ h)) | exact fun _ h => .tail _ (.tail _ (.tail _ (.tail _ h))) | kcj_all | with_reducible assumption | exact sub2 (by with_reducible assumption) (by with_reducible assumption) | exact sub3 (by with_reducible assumption) (by with_reducible assumption) (by with_reducible assumption)) (by first | with_reducible assumption | exact And.right (by with_reducible assumption) | exact And.right (And.right (by with_reducible assumption)) | exact And.right (And.right (And.right (by with_reducible assumption))) | kcu_lt) ?_ ?_; (focus (rfl)); (focus (rfl)))
end

section
open PySem PySem.W PyProof.Rows









theorem c_rounded0 (w : World) (u d top : Int) (t1 t2 t3 t4 : Tok) (news : List (Addr × Obj)) : Calls w 408 2 news [.int 0 t1, .int u t2, .int d t3, .int top t4] (.fresh 0 1) := by
  ((k_with_none; (k_with "own binaryOp Mult int int" => (k_here; refine mul_int ?_ (mulOk_bd (by (repeat (first | assumption | with_reducible apply bd_abs | with_reducible apply bd_mul | with_reducible apply bd_add | with_reducible apply bd_sub | with_reducible apply bd_neg | with_reducible apply bd_fd | exact bd_pow (by first | omega | (split <;> omega)) | exact bd_lit (by decide)))) (by (repeat (first | assumption | with_reducible apply bd_abs | with_reducible apply bd_mul | with_reducible apply bd_add | with_reducible apply bd_sub | with_reducible apply bd_neg | with_reducible apply bd_fd | exact bd_pow (by first | omega | (split <;> omega)) | exact bd_lit (by decide)))) (by decide) (by decide)); (try dsimp only))); (k_with "own call builtin:divmod" => ((with_reducible show wpAny _ _ (call (Value.builtin _) [Value.int _ _, Value.int _ _]) _ _ _); (first | refine divmod_N (by k_asm) (by k_asm) (pow10Z_ne _) ?_ (Or.inl (noPy_pow (by omega))) | refine divmod_N (by k_asm) (by k_asm) (by first | exact abs_ne (by assumption) | assumption) ?_ (Or.inl (noPy_bd (by (repeat (first | assumption | with_reducible apply bd_abs | with_reducible apply bd_mul | with_reducible apply bd_add | with_reducible apply bd_sub | with_reducible apply bd_neg | with_reducible apply bd_fd | exact bd_pow (by first | omega | (split <;> omega)) | exact bd_lit (by decide)))) (by decide)))); intro _ _ _)); (k_with "own binaryOp Pow int int" => (k_here; refine pow_int_small (by first | omega | (split <;> omega)) (by first | omega | (split <;> omega)) (by first | decide | omega) ?_; (try dsimp only))); (k_with "own binaryOp FloorDiv int int" => (k_here; (first | refine floordiv_int (pow10Z_ne _) ?_ (Or.inl (noPy_pow (by omega))) | refine floordiv_int (by first | exact abs_ne (by assumption) | exact mulpow_ne (by assumption) _ | assumption | omega) ?_ (Or.inl (noPy_bd (by (repeat (first | assumption | with_reducible apply bd_abs | with_reducible apply bd_mul | with_reducible apply bd_add | with_reducible apply bd_sub | with_reducible apply bd_neg | with_reducible apply bd_fd | exact bd_pow (by first | omega | (split <;> omega)) | exact bd_lit (by decide)))) (by decide)))); (try dsimp only))); (k_with "own exec Raise some none" => (k_here; (with_reducible show wpAny _ _ (exec (Stmt.Raise (some (Expr.Call (Expr.Name ("RunFault" : Str) _) _ _ _)) none _) _) _ _ _); refine Raise_rf rfl ?_)); (k_with "own call ref" => (k_here; refine exc_K (by k_asm) (by k_asm) (by k_asm) (by k_asm) (by k_asm) (by first | exact rfl | assumption) (by ktr_room) (by ktr_units) ?_; intro h9 tk9 e9 D9 d9 F9 N9 p9; (try dsimp only); (try k_sweep))); (k_with "own Exists" => (refine raisable_of (by k_asm) (by k_asm) (by k_asm) ?_)); (k_with "own leaving ref" => (k_here; refine leave_own (by assumption) (by k_asm) (by k_asm) (by assumption) rfl rfl rfl rfl ?_; intro h' R' U'; (try dsimp only at R' U' ⊢)))); w_top off; unfold Calls; k_fill; intro mean mg mb dp un gd cn cs a ccd cl outer A₀ base h₀ L m s Q E B F X N T hk hdp hun hret; refine wpAny_call ?_; k_dflt ktr_enter)
  k_steps
  all_goals (refine ret_new (hret) (by k_asm) (by first | exact ⟨by k_asm, .head _⟩ | kcu_news) (by first | exact fun _ h => h | exact fun _ h => .tail _ h | exact fun _ h => .tail _ (.tail _ h) | exact fun _ h => .tail _ (.tail _ (.tail _ h)) | exact fun _ h => .tail _ (.tail _ (.tail _ (.tail _ h))) | kcj_all | with_reducible assumption | exact sub2 (by with_reducible assumption) (by with_reducible assumption) | exact sub3 (by with_reducible assumption) (by with_reducible assumption) (by with_reducible assumption)) (by first | with_reducible assumption | exact And.right (by with_reducible assumption) | exact And.right (And.right (by with_reducible assumption)) | exact And.right (And.right (And.right (by with_reducible assumption))) | kcu_lt) ?_ ?_; (focus (rfl)); (focus (rfl)))
theorem c_pair (w : World) (o k : Int) (j₀ : Nat) (D : Addr) (t1 t2 : Tok) (c : Nat) (news : List (Addr × Obj)) (hD : (D, pairObj o (10 ^ j₀) t1 t2 c) ∈ news) (hk : k = j₀) : Calls w 415 2 news [.ref D] (.fresh (strip o (-k)).1 (strip o (-k)).2) := by
  ((k_with_none; (k_with "own binaryOp Mult int int" => (k_here; refine mul_int ?_ (mulOk_bd (by (repeat (first | assumption | with_reducible apply bd_abs | with_reducible apply bd_mul | with_reducible apply bd_add | with_reducible apply bd_sub | with_reducible apply bd_neg | with_reducible apply bd_fd | exact bd_pow (by first | omega | (split <;> omega)) | exact bd_lit (by decide)))) (by (repeat (first | assumption | with_reducible apply bd_abs | with_reducible apply bd_mul | with_reducible apply bd_add | with_reducible apply bd_sub | with_reducible apply bd_neg | with_reducible apply bd_fd | exact bd_pow (by first | omega | (split <;> omega)) | exact bd_lit (by decide)))) (by decide) (by decide)); (try dsimp only))); (k_with "own call builtin:divmod" => ((with_reducible show wpAny _ _ (call (Value.builtin _) [Value.int _ _, Value.int _ _]) _ _ _); (first | refine divmod_N (by k_asm) (by k_asm) (pow10Z_ne _) ?_ (Or.inl (noPy_pow (by omega))) | refine divmod_N (by k_asm) (by k_asm) (by first | exact abs_ne (by assumption) | assumption) ?_ (Or.inl (noPy_bd (by (repeat (first | assumption | with_reducible apply bd_abs | with_reducible apply bd_mul | with_reducible apply bd_add | with_reducible apply bd_sub | with_reducible apply bd_neg | with_reducible apply bd_fd | exact bd_pow (by first | omega | (split <;> omega)) | exact bd_lit (by decide)))) (by decide)))); intro _ _ _)); (k_with "own binaryOp Pow int int" => (k_here; refine pow_int_small (by first | omega | (split <;> omega)) (by first | omega | (split <;> omega)) (by first | decide | omega) ?_; (try dsimp only))); (k_with "own binaryOp FloorDiv int int" => (k_here; (first | refine floordiv_int (pow10Z_ne _) ?_ (Or.inl (noPy_pow (by omega))) | refine floordiv_int (by first | exact abs_ne (by assumption) | exact mulpow_ne (by assumption) _ | assumption | omega) ?_ (Or.inl (noPy_bd (by (repeat (first | assumption | with_reducible apply bd_abs | with_reducible apply bd_mul | with_reducible apply bd_add | with_reducible apply bd_sub | with_reducible apply bd_neg | with_reducible apply bd_fd | exact bd_pow (by first | omega | (split <;> omega)) | exact bd_lit (by decide)))) (by decide)))); (try dsimp only))); (k_with "own exec Raise some none" => (k_here; (with_reducible show wpAny _ _ (exec (Stmt.Raise (some (Expr.Call (Expr.Name ("RunFault" : Str) _) _ _ _)) none _) _) _ _ _); refine Raise_rf rfl ?_)); (k_with "own call ref" => (k_here; refine exc_K (by k_asm) (by k_asm) (by k_asm) (by k_asm) (by k_asm) (by first | exact rfl | assumption) (by ktr_room) (by ktr_units) ?_; intro h9 tk9 e9 D9 d9 F9 N9 p9; (try dsimp only); (try k_sweep))); (k_with "own Exists" => (refine raisable_of (by k_asm) (by k_asm) (by k_asm) ?_)); (k_with "own leaving ref" => (k_here; refine leave_own (by assumption) (by k_asm) (by k_asm) (by assumption) rfl rfl rfl rfl ?_; intro h' R' U'; (try dsimp only at R' U' ⊢)))); w_top off; unfold Calls; k_fill; intro mean mg mb dp un gd cn cs a ccd cl outer A₀ base h₀ L m s Q E B F X N T hk hdp hun hret; refine wpAny_call ?_; k_dflt ktr_enter)
  k_with "state" => first | exact lp_turn (by assumption) (by assumption) | exact lp2_turn (by assumption) (by assumption) (by assumption) | exact ⟨j₀, rfl, by omega⟩ | (have h9 := lp_end (by assumption) (by assumption); subst h9; by_cases hx : o = 0; exact .inl ⟨hx, hx⟩; exact .inr ⟨hx, rfl⟩)
  k_with "measure" => first | exact fdiv_less (by decide) (by omega) | exact strip_less (by assumption) (by assumption)
  k_with "exec While BoolOp cons nil" => k_while (fun _ x y => (o = 0 ∧ x = 0) ∨ (x ≠ 0 ∧ strip x y = strip o (-k))) (fun _ x _ => x.natAbs) "over" "e"
  k_with "exec While Compare cons nil" => k_while (fun _ u e => ∃ j : Nat, u = 10 ^ j ∧ e = (j : Int) - k) (fun _ u _ => u.toNat) "under" "e"
  k_steps
  all_goals first
    | exact absurd (by with_reducible assumption) (by with_reducible assumption : _ ≠ _)
    | (refine ret_new (hret) (by k_asm) (by first | exact ⟨by k_asm, .head _⟩ | kcu_news) (by first | exact fun _ h => h | exact fun _ h => .tail _ h | exact fun _ h => .tail _ (.tail _ h) | exact fun _ h => .tail _ (.tail _ (.tail _ h)) | exact fun _ h => .tail _ (.tail _ (.tail _ (.tail _ h))) | kcj_all | with_reducible assumption | exact sub2 (by with_reducible assumption) (by with_reducible assumption) | exact sub3 (by with_reducible assumption) (by with_reducible assumption) (by with_reducible assumption)) (by first | with_reducible assumption | exact And.right (by with_reducible assumption) | exact And.right (And.right (by with_reducible assumption)) | exact And.right (And.right (And.right (by with_reducible assumption))) | kcu_lt) ?_ ?_; (focus (exact lp2_a (by assumption) (by assumption) (by assumption))); (focus (exact lp2_b (by assumption) (by assumption) (by assumption))))
    | (refine ret_new (hret) (by k_asm) (by first | exact ⟨by k_asm, .head _⟩ | kcu_news) (by first | exact fun _ h => h | exact fun _ h => .tail _ h | exact fun _ h => .tail _ (.tail _ h) | exact fun _ h => .tail _ (.tail _ (.tail _ h)) | exact fun _ h => .tail _ (.tail _ (.tail _ (.tail _ h))) | kcj_all | with_reducible assumption | exact sub2 (by with_reducible assumption) (by with_reducible assumption) | exact sub3 (by with_reducible assumption) (by with_reducible assumption) (by with_reducible assumption)) (by first | with_reducible assumption | exact And.right (by with_reducible assumption) | exact And.right (And.right (by with_reducible assumption)) | exact And.right (And.right (And.right (by with_reducible assumption))) | kcu_lt) ?_ ?_; (focus (rw [lp2_z (by assumption) (by assumption)])); (focus (rw [lp2_z (by assumption) (by assumption)])))
end

section
open PySem PySem.W PyProof.Rows









theorem c_roundF (w : World) (o u d top : Int) (t1 t2 t3 t4 : Tok) (news : List (Addr × Obj)) (bo : Bd o 200) (bu : Bd u 200) (u0 : 0 < u) (d0 : 1 ≤ d) (d1 : d ≤ 5) : Calls w 408 2 news [.int o t1, .int u t2, .int d t3, .int top t4] (resN (lawF o u d top)) := by
  by_cases h : o = 0
  · subst h
    rw [lawF_zero]
    exact c_rounded0 w u d top t1 t2 t3 t4 news
  · rw [lawF_ne h]
    have hb := powF_bounds (d := d) bo bu (by omega) d1
    exact c_rounded w o u d top (powF o u d) t1 t2 t3 t4 news h bo bu u0 d0 d1 (by omega) (by omega) (isPow_powF h u0 (by omega))

theorem three_at {a b c : Int} {t1 t2 t3 : Tok} : ∀ (i : Nat) (v : Value), i < 3 → (#[Value.int a t1, Value.int b t2].push (Value.int c t3))[i]? = some v → ∃ (k : Int) (t : Tok), [a, b, c][i]? = some k ∧ v = .int k t
  | 0, _, _, e => ⟨a, t1, rfl, (Option.some.inj e).symm⟩
  | 1, _, _, e => ⟨b, t2, rfl, (Option.some.inj e).symm⟩
  | 2, _, _, e => ⟨c, t3, rfl, (Option.some.inj e).symm⟩
  | n + 3, _, h, _ => absurd h (by omega)
theorem outs_yes {H x : Int} {l : List Int} (h : 0 - H ≤ x) (h' : x < H) : outs H l x = l := if_pos ⟨h, h'⟩
theorem outs_no {H x : Int} {l : List Int} (h : ¬ (0 - H ≤ x)) : outs H l x = l ++ [x] := if_neg (fun e => h e.1)
theorem outs_no' {H x : Int} {l : List Int} (h : ¬ (x < H)) : outs H l x = l ++ [x] := if_neg (fun e => h e.2)
theorem outs_grows (H : Int) : KPfGrows (outs H) := by
  intro l x
  unfold outs
  split <;> simp

theorem frozen (P : Prop) (h : id P) : P := h



theorem ne_lst {prog : Program} {w : World} {A : Around} {E : Value → Shared → Prop} {s : Shared} {Q : Value → Shared → Prop} {h₀ : Heap} {L D b : Addr} {all : List (Addr × Obj)} {xs : List Value} {ns : List Int} {n : Nat} (N : News h₀ L s.heap all) (m1 : (D, LCg.lst xs) ∈ all) (m2 : (b, W.listOf #[] n) ∈ all) (hi : IntsAre xs ns) (hu : A.units + 64 < cLine) (h : Q (.bool (!decide (ns = []))) s) :
    wpAny (model prog w) A (compareOp .NotEq (.ref D) (.ref b)) Q E s :=
  ke_ne_ints (ys := []) (News.isList N m1) (News.isList N m2) hi .nil hu h

def resD : Option Int → Res
  | none => .none
  | some x => .int x
theorem resD_some {o : Option Int} {x : Int} (e : o = some x) : resD o = .int x := by rw [e]; rfl
theorem resD_none {o : Option Int} (e : o = none) : resD o = .none := by rw [e]; rfl
section
variable {f l st k : Int}
theorem dueI_z (h : st = 0) : dueI f l st k = none := if_pos h
theorem dueI_pn (h : ¬ st = 0) (h1 : (decide (l - f + st < 0) == decide (st < 0)) = true) (h2 : ¬ List.foldl (outs (2 ^ (k - 1).toNat)) [] [l - f, l - f + st, (if l - f + st < 0 then -(l - f + st) else l - f + st).fdiv (if st < 0 then -st else st) * 1] = []) : dueI f l st k = none := by
  rw [dueI, if_neg h, if_pos h1, if_neg h2]
theorem dueI_ps (h : ¬ st = 0) (h1 : (decide (l - f + st < 0) == decide (st < 0)) = true) (h2 : List.foldl (outs (2 ^ (k - 1).toNat)) [] [l - f, l - f + st, (if l - f + st < 0 then -(l - f + st) else l - f + st).fdiv (if st < 0 then -st else st) * 1] = []) : dueI f l st k = some (if 0 > (if l - f + st < 0 then -(l - f + st) else l - f + st).fdiv (if st < 0 then -st else st) * 1 then 0 else (if l - f + st < 0 then -(l - f + st) else l - f + st).fdiv (if st < 0 then -st else st) * 1) := by
  rw [dueI, if_neg h, if_pos h1, if_pos h2]
theorem dueI_mn (h : ¬ st = 0) (h1 : (decide (l - f + st < 0) == decide (st < 0)) = false) (h2 : ¬ List.foldl (outs (2 ^ (k - 1).toNat)) [] [l - f, l - f + st, (if l - f + st < 0 then -(l - f + st) else l - f + st).fdiv (if st < 0 then -st else st) * -1] = []) : dueI f l st k = none := by
  rw [dueI, if_neg h, if_neg (by rw [h1]; decide), if_neg h2]
theorem dueI_ms (h : ¬ st = 0) (h1 : (decide (l - f + st < 0) == decide (st < 0)) = false) (h2 : List.foldl (outs (2 ^ (k - 1).toNat)) [] [l - f, l - f + st, (if l - f + st < 0 then -(l - f + st) else l - f + st).fdiv (if st < 0 then -st else st) * -1] = []) : dueI f l st k = some (if 0 > (if l - f + st < 0 then -(l - f + st) else l - f + st).fdiv (if st < 0 then -st else st) * -1 then 0 else (if l - f + st < 0 then -(l - f + st) else l - f + st).fdiv (if st < 0 then -st else st) * -1) := by
  rw [dueI, if_neg h, if_neg (by rw [h1]; decide), if_pos h2]
end
theorem c_dueI (w : World) (f l st k d top : Int) (D1 D2 D3 : Addr) (t1 t2 t3 t4 t5 t6 t7 t8 t9 t10 : Tok) (c1 c2 c3 : Nat) (news : List (Addr × Obj)) (hf : (D1, pairObj f 1 t1 t2 c1) ∈ news) (hl : (D2, pairObj l 1 t3 t4 c2) ∈ news) (hs : (D3, pairObj st 1 t5 t6 c3) ∈ news) (k0 : 8 ≤ k) (k1 : k ≤ 24) (bs : Bd st 20) :
    Calls w 420 10 news [.int 0 t7, .ref D1, .ref D2, .ref D3, .int k t8, .int d t9, .int top t10] (resD (dueI f l st k)) := by
  ((k_with_none; (k_with "own binaryOp Mult int int" => (k_here; refine mul_int ?_ (mulOk_bd (by (repeat (first | assumption | with_reducible apply bd_abs | with_reducible apply bd_mul | with_reducible apply bd_add | with_reducible apply bd_sub | with_reducible apply bd_neg | with_reducible apply bd_fd | exact bd_pow (by first | omega | (split <;> omega)) | exact bd_lit (by decide)))) (by (repeat (first | assumption | with_reducible apply bd_abs | with_reducible apply bd_mul | with_reducible apply bd_add | with_reducible apply bd_sub | with_reducible apply bd_neg | with_reducible apply bd_fd | exact bd_pow (by first | omega | (split <;> omega)) | exact bd_lit (by decide)))) (by decide) (by decide)); (try dsimp only))); (k_with "own call builtin:divmod" => ((with_reducible show wpAny _ _ (call (Value.builtin _) [Value.int _ _, Value.int _ _]) _ _ _); (first | refine divmod_N (by k_asm) (by k_asm) (pow10Z_ne _) ?_ (Or.inl (noPy_pow (by omega))) | refine divmod_N (by k_asm) (by k_asm) (by first | exact abs_ne (by assumption) | assumption) ?_ (Or.inl (noPy_bd (by (repeat (first | assumption | with_reducible apply bd_abs | with_reducible apply bd_mul | with_reducible apply bd_add | with_reducible apply bd_sub | with_reducible apply bd_neg | with_reducible apply bd_fd | exact bd_pow (by first | omega | (split <;> omega)) | exact bd_lit (by decide)))) (by decide)))); intro _ _ _)); (k_with "own binaryOp Pow int int" => (k_here; refine pow_int_small (by first | omega | (split <;> omega)) (by first | omega | (split <;> omega)) (by first | decide | omega) ?_; (try dsimp only))); (k_with "own binaryOp FloorDiv int int" => (k_here; (first | refine floordiv_int (pow10Z_ne _) ?_ (Or.inl (noPy_pow (by omega))) | refine floordiv_int (by first | exact abs_ne (by assumption) | exact mulpow_ne (by assumption) _ | assumption | omega) ?_ (Or.inl (noPy_bd (by (repeat (first | assumption | with_reducible apply bd_abs | with_reducible apply bd_mul | with_reducible apply bd_add | with_reducible apply bd_sub | with_reducible apply bd_neg | with_reducible apply bd_fd | exact bd_pow (by first | omega | (split <;> omega)) | exact bd_lit (by decide)))) (by decide)))); (try dsimp only))); (k_with "own exec Raise some none" => (k_here; (with_reducible show wpAny _ _ (exec (Stmt.Raise (some (Expr.Call (Expr.Name ("RunFault" : Str) _) _ _ _)) none _) _) _ _ _); refine Raise_rf rfl ?_)); (k_with "own call ref" => (k_here; refine exc_K (by k_asm) (by k_asm) (by k_asm) (by k_asm) (by k_asm) (by first | exact rfl | assumption) (by ktr_room) (by ktr_units) ?_; intro h9 tk9 e9 D9 d9 F9 N9 p9; (try dsimp only); (try k_sweep))); (k_with "own Exists" => (refine raisable_of (by k_asm) (by k_asm) (by k_asm) ?_)); (k_with "own leaving ref" => (k_here; refine leave_own (by assumption) (by k_asm) (by k_asm) (by assumption) rfl rfl rfl rfl ?_; intro h' R' U'; (try dsimp only at R' U' ⊢))); (k_with "own call ref" => (k_here; k_dflt (refine use_calls (by k_asm) (by k_asm) (by k_asm) (by k_asm) (by k_asm) (by first | exact rfl | assumption) (c_roundF _ _ _ _ _ _ _ _ _ _ (bd_up (by (repeat (first | assumption | with_reducible apply bd_abs | with_reducible apply bd_mul | with_reducible apply bd_add | with_reducible apply bd_sub | with_reducible apply bd_neg | with_reducible apply bd_fd | exact bd_pow (by first | omega | (split <;> omega)) | exact bd_lit (by decide)))) (by decide)) (bd_up (by (repeat (first | assumption | with_reducible apply bd_abs | with_reducible apply bd_mul | with_reducible apply bd_add | with_reducible apply bd_sub | with_reducible apply bd_neg | with_reducible apply bd_fd | exact bd_pow (by first | omega | (split <;> omega)) | exact bd_lit (by decide)))) (by decide)) (by first | assumption | omega) (by assumption) (by assumption)) (by ktr_room) (by ktr_units) ?_; dsimp only [resN]; split; (focus (dsimp only [RetAt]; intro h9 tk9 F9 N9; (try dsimp only); (try k_sweep); (try k_fold))); rotate_left; (focus (dsimp only [RetAt]; intro D9 t9 u9 c9 h9 tk9 F9 N9 l9; (try simp only [AllLt, and_true] at l9); (try dsimp only); (try k_sweep); (try k_fold))); rotate_right))); (k_with "own CompEnd" => ((with_unfolding_all refine LCg.CompEnd.intro (by assumption) (by assumption) _ (fun _ h => h) (by assumption) (by lcg_src) ?_))); (k_with "own CompRestT" => (refine frozen _ ?_)); (k_with "own KCiEl" => ((first | exact kci_el (outs_no (by assumption)) rfl rfl | exact kci_el (outs_no' (by assumption)) rfl rfl))); (k_with "own KCiNo" => (exact kci_no (outs_yes (by assumption) (by assumption)) rfl)); (k_with "own compareOp NotEq ref ref" => (k_here; k_dflt (refine ne_lst (by k_asm) (.tail _ (.head _)) (.head _) (by assumption) (by cb_units) ?_)))); w_top off; unfold Calls; k_fill; intro mean mg mb dp un gd cn cs a ccd cl outer A₀ base h₀ L m s Q E B F X N T hk hdp hun hret; refine wpAny_call ?_; k_dflt (refine' code_defC ?k1 ?k2 ?k3 ?k4 ?k5 ?kA ?kF ?kK ?k6 ?k7 ?k8 ?k9 ?kB ?kD ?_ ?c2 ?c3 ?c4; (case kA => exact rfl); (case kF => exact rfl); (case kK => assumption); (case k1 => k_asm); (case k2 => k_asm); (case k3 => k_asm); (case k4 => k_asm); (case k5 => k_asm); (case k6 => k_is); (case k7 => k_is); (case k8 => ktr_room); (case k9 => exact BindsTo.of_eq rfl); (case kB => exact rfl); (case kD => decide +kernel); (case c2 => exact rfl); (case c3 => exact rfl); (case c4 => exact rfl); k_whole; intro g' L' h' tk' cells' FG' F' N' Y' B' X' T' l1; k_cells Y'; (try simp only [List.cons_append, List.nil_append] at N'); (try dsimp only); (try k_fold)))
  k_steps
  all_goals (first | ((show id _); refine kci_rest (ks := [_, _, _]) (outs (2 ^ (k - 1).toNat)) rfl three_at ?_ ?_ (outs_grows _); (focus (intro k' t' I' oI' C' oC' D' m' ys' l' h' tk' E' hk' hI' hC' hx' F' N' off' ne' mk'; (try simp only [LCg.Off3, and_true] at off'))); rotate_left; (focus ((show ∀ _, _); intro ys' hi' hn'; (try dsimp only))); rotate_right) | skip)
  k_steps
  all_goals first
    | exact ret_none (retAt_of (resD_none (by first | exact dueI_z (by assumption) | exact dueI_pn (by assumption) (by assumption) (by assumption) | exact dueI_mn (by assumption) (by assumption) (by assumption))) hret) (by k_asm) (by k_asm) (by first | exact fun _ h => h | exact fun _ h => .tail _ h | exact fun _ h => .tail _ (.tail _ h) | exact fun _ h => .tail _ (.tail _ (.tail _ h)) | exact fun _ h => .tail _ (.tail _ (.tail _ (.tail _ h))) | kcj_all | with_reducible assumption | exact sub2 (by with_reducible assumption) (by with_reducible assumption) | exact sub3 (by with_reducible assumption) (by with_reducible assumption) (by with_reducible assumption))
    | (refine ret_int (retAt_of (resD_some (by first | exact dueI_ps (by assumption) (by assumption) (by assumption) | exact dueI_ms (by assumption) (by assumption) (by assumption))) hret) (by k_asm) (by k_asm) (by first | exact fun _ h => h | exact fun _ h => .tail _ h | exact fun _ h => .tail _ (.tail _ h) | exact fun _ h => .tail _ (.tail _ (.tail _ h)) | exact fun _ h => .tail _ (.tail _ (.tail _ (.tail _ h))) | kcj_all | with_reducible assumption | exact sub2 (by with_reducible assumption) (by with_reducible assumption) | exact sub3 (by with_reducible assumption) (by with_reducible assumption) (by with_reducible assumption)) ?_; (rfl))
end

section
open PySem PySem.W PyProof.Rows
theorem absp {u : Int} (h : ¬ u = 0) : 0 < (if u < 0 then -u else u) := by split <;> omega
section
variable {f0 f1 l0 l1 s0 s1 k d top : Int} {p q r : Int × Int}
theorem dueR_z (h : s0 = 0) : dueR f0 f1 l0 l1 s0 s1 k d top = none := if_pos h
theorem dueR_1 (h : ¬ s0 = 0) (e1 : lawF (l0 * f1 - f0 * l1) (l1 * f1) d top = none) : dueR f0 f1 l0 l1 s0 s1 k d top = none := by
  rw [dueR, if_neg h]; simp only [e1]
theorem dueR_2 (h : ¬ s0 = 0) (e1 : lawF (l0 * f1 - f0 * l1) (l1 * f1) d top = some p) (e2 : lawF (p.1 * s1 + s0 * p.2) (p.2 * s1) d top = none) : dueR f0 f1 l0 l1 s0 s1 k d top = none := by
  rw [dueR, if_neg h]; simp only [e1, e2]
theorem dueR_3p (h : ¬ s0 = 0) (e1 : lawF (l0 * f1 - f0 * l1) (l1 * f1) d top = some p) (e2 : lawF (p.1 * s1 + s0 * p.2) (p.2 * s1) d top = some q) (hs : 0 < s0)
    (e3 : lawF (q.1 * s1 * 1) (q.2 * (if s0 < 0 then -s0 else s0)) d top = none) : dueR f0 f1 l0 l1 s0 s1 k d top = none := by
  rw [dueR, if_neg h]; simp only [e1, e2]; rw [if_pos (show s0 > 0 from hs), e3]
theorem dueR_3m (h : ¬ s0 = 0) (e1 : lawF (l0 * f1 - f0 * l1) (l1 * f1) d top = some p) (e2 : lawF (p.1 * s1 + s0 * p.2) (p.2 * s1) d top = some q) (hs : ¬ 0 < s0)
    (e3 : lawF (q.1 * s1 * -1) (q.2 * (if s0 < 0 then -s0 else s0)) d top = none) : dueR f0 f1 l0 l1 s0 s1 k d top = none := by
  rw [dueR, if_neg h]; simp only [e1, e2]; rw [if_neg (show ¬ s0 > 0 from hs), e3]
theorem dueR_4p (h : ¬ s0 = 0) (e1 : lawF (l0 * f1 - f0 * l1) (l1 * f1) d top = some p) (e2 : lawF (p.1 * s1 + s0 * p.2) (p.2 * s1) d top = some q) (hs : 0 < s0)
    (e3 : lawF (q.1 * s1 * 1) (q.2 * (if s0 < 0 then -s0 else s0)) d top = some r) (h4 : ¬ (if 0 > r.1 then 0 else r.1).fdiv r.2 < 2 ^ (k - 1).toNat) : dueR f0 f1 l0 l1 s0 s1 k d top = none := by
  rw [dueR, if_neg h]; simp only [e1, e2]; rw [if_pos (show s0 > 0 from hs), e3]; exact if_neg h4
theorem dueR_4m (h : ¬ s0 = 0) (e1 : lawF (l0 * f1 - f0 * l1) (l1 * f1) d top = some p) (e2 : lawF (p.1 * s1 + s0 * p.2) (p.2 * s1) d top = some q) (hs : ¬ 0 < s0)
    (e3 : lawF (q.1 * s1 * -1) (q.2 * (if s0 < 0 then -s0 else s0)) d top = some r) (h4 : ¬ (if 0 > r.1 then 0 else r.1).fdiv r.2 < 2 ^ (k - 1).toNat) : dueR f0 f1 l0 l1 s0 s1 k d top = none := by
  rw [dueR, if_neg h]; simp only [e1, e2]; rw [if_neg (show ¬ s0 > 0 from hs), e3]; exact if_neg h4
theorem dueR_5p (h : ¬ s0 = 0) (e1 : lawF (l0 * f1 - f0 * l1) (l1 * f1) d top = some p) (e2 : lawF (p.1 * s1 + s0 * p.2) (p.2 * s1) d top = some q) (hs : 0 < s0)
    (e3 : lawF (q.1 * s1 * 1) (q.2 * (if s0 < 0 then -s0 else s0)) d top = some r) (h4 : (if 0 > r.1 then 0 else r.1).fdiv r.2 < 2 ^ (k - 1).toNat) : dueR f0 f1 l0 l1 s0 s1 k d top = some ((if 0 > r.1 then 0 else r.1).fdiv r.2) := by
  rw [dueR, if_neg h]; simp only [e1, e2]; rw [if_pos (show s0 > 0 from hs), e3]; exact if_pos h4
theorem dueR_5m (h : ¬ s0 = 0) (e1 : lawF (l0 * f1 - f0 * l1) (l1 * f1) d top = some p) (e2 : lawF (p.1 * s1 + s0 * p.2) (p.2 * s1) d top = some q) (hs : ¬ 0 < s0)
    (e3 : lawF (q.1 * s1 * -1) (q.2 * (if s0 < 0 then -s0 else s0)) d top = some r) (h4 : (if 0 > r.1 then 0 else r.1).fdiv r.2 < 2 ^ (k - 1).toNat) : dueR f0 f1 l0 l1 s0 s1 k d top = some ((if 0 > r.1 then 0 else r.1).fdiv r.2) := by
  rw [dueR, if_neg h]; simp only [e1, e2]; rw [if_neg (show ¬ s0 > 0 from hs), e3]; exact if_pos h4
end










theorem c_dueR (w : World) (c f0 f1 l0 l1 s0 s1 k d top : Int) (D1 D2 D3 : Addr) (t1 t2 t3 t4 t5 t6 t7 t8 t9 t10 : Tok) (c1 c2 c3 : Nat) (news : List (Addr × Obj)) (hf : (D1, pairObj f0 f1 t1 t2 c1) ∈ news) (hl : (D2, pairObj l0 l1 t3 t4 c2) ∈ news) (hs : (D3, pairObj s0 s1 t5 t6 c3) ∈ news) (k0 : 8 ≤ k) (k1 : k ≤ 24) (hc : ¬ c = 0) (d0 : 1 ≤ d) (d1 : d ≤ 5) (h0 : 0 ≤ top) (h1 : top ≤ 45)
    (b1 : Bd f0 20) (b2 : Bd f1 20) (b3 : Bd l0 20) (b4 : Bd l1 20) (b5 : Bd s0 20) (b6 : Bd s1 20) (p1 : 0 < f1) (p2 : 0 < l1) (p3 : 0 < s1) :
    Calls w 420 10 news [.int c t7, .ref D1, .ref D2, .ref D3, .int k t8, .int d t9, .int top t10] (resD (dueR f0 f1 l0 l1 s0 s1 k d top)) := by
  ((k_with_none; (k_with "own binaryOp Mult int int" => (k_here; refine mul_int ?_ (mulOk_bd (by (repeat (first | assumption | with_reducible apply bd_abs | with_reducible apply bd_mul | with_reducible apply bd_add | with_reducible apply bd_sub | with_reducible apply bd_neg | with_reducible apply bd_fd | exact bd_pow (by first | omega | (split <;> omega)) | exact bd_lit (by decide)))) (by (repeat (first | assumption | with_reducible apply bd_abs | with_reducible apply bd_mul | with_reducible apply bd_add | with_reducible apply bd_sub | with_reducible apply bd_neg | with_reducible apply bd_fd | exact bd_pow (by first | omega | (split <;> omega)) | exact bd_lit (by decide)))) (by decide) (by decide)); (try dsimp only))); (k_with "own call builtin:divmod" => ((with_reducible show wpAny _ _ (call (Value.builtin _) [Value.int _ _, Value.int _ _]) _ _ _); (first | refine divmod_N (by k_asm) (by k_asm) (pow10Z_ne _) ?_ (Or.inl (noPy_pow (by omega))) | refine divmod_N (by k_asm) (by k_asm) (by first | exact abs_ne (by assumption) | assumption) ?_ (Or.inl (noPy_bd (by (repeat (first | assumption | with_reducible apply bd_abs | with_reducible apply bd_mul | with_reducible apply bd_add | with_reducible apply bd_sub | with_reducible apply bd_neg | with_reducible apply bd_fd | exact bd_pow (by first | omega | (split <;> omega)) | exact bd_lit (by decide)))) (by decide)))); intro _ _ _)); (k_with "own binaryOp Pow int int" => (k_here; refine pow_int_small (by first | omega | (split <;> omega)) (by first | omega | (split <;> omega)) (by first | decide | omega) ?_; (try dsimp only))); (k_with "own binaryOp FloorDiv int int" => (k_here; (first | refine floordiv_int (pow10Z_ne _) ?_ (Or.inl (noPy_pow (by omega))) | refine floordiv_int (by first | exact abs_ne (by assumption) | exact mulpow_ne (by assumption) _ | assumption | omega) ?_ (Or.inl (noPy_bd (by (repeat (first | assumption | with_reducible apply bd_abs | with_reducible apply bd_mul | with_reducible apply bd_add | with_reducible apply bd_sub | with_reducible apply bd_neg | with_reducible apply bd_fd | exact bd_pow (by first | omega | (split <;> omega)) | exact bd_lit (by decide)))) (by decide)))); (try dsimp only))); (k_with "own exec Raise some none" => (k_here; (with_reducible show wpAny _ _ (exec (Stmt.Raise (some (Expr.Call (Expr.Name ("RunFault" : Str) _) _ _ _)) none _) _) _ _ _); refine Raise_rf rfl ?_)); (k_with "own call ref" => (k_here; refine exc_K (by k_asm) (by k_asm) (by k_asm) (by k_asm) (by k_asm) (by first | exact rfl | assumption) (by ktr_room) (by ktr_units) ?_; intro h9 tk9 e9 D9 d9 F9 N9 p9; (try dsimp only); (try k_sweep))); (k_with "own Exists" => (refine raisable_of (by k_asm) (by k_asm) (by k_asm) ?_)); (k_with "own leaving ref" => (k_here; refine leave_own (by assumption) (by k_asm) (by k_asm) (by assumption) rfl rfl rfl rfl ?_; intro h' R' U'; (try dsimp only at R' U' ⊢))); (k_with "own call ref" => (k_here; k_dflt (refine use_calls (by k_asm) (by k_asm) (by k_asm) (by k_asm) (by k_asm) (by first | exact rfl | assumption) (c_roundF _ _ _ _ _ _ _ _ _ _ (bd_up (by (repeat (first | assumption | with_reducible apply bd_abs | with_reducible apply bd_mul | with_reducible apply bd_add | with_reducible apply bd_sub | with_reducible apply bd_neg | with_reducible apply bd_fd | exact bd_pow (by first | omega | (split <;> omega)) | exact bd_lit (by decide)))) (by decide)) (bd_up (by (repeat (first | assumption | with_reducible apply bd_abs | with_reducible apply bd_mul | with_reducible apply bd_add | with_reducible apply bd_sub | with_reducible apply bd_neg | with_reducible apply bd_fd | exact bd_pow (by first | omega | (split <;> omega)) | exact bd_lit (by decide)))) (by decide)) (by first | assumption | exact Int.mul_pos (by assumption) (by assumption) | exact Int.mul_pos (by assumption) (absp (by assumption))) (by assumption) (by assumption)) (by ktr_room) (by ktr_units) ?_; dsimp only [resN]; split; (focus ((dsimp only [RetAt]; intro h9 tk9 F9 N9; (try dsimp only); (try k_sweep); (try k_fold)))); rotate_left; (focus (rename_i p9 hp9; obtain ⟨bA9, bB9, bP9, _⟩ := lawF_bd (by assumption) (by assumption) (by first | assumption | exact Int.mul_pos (by assumption) (by assumption) | exact Int.mul_pos (by assumption) (absp (by assumption))) (by assumption) (by assumption) hp9; (dsimp only [RetAt]; intro D9 t9 u9 c9 h9 tk9 F9 N9 l9; (try simp only [AllLt, and_true] at l9); (try dsimp only); (try k_sweep); (try k_fold)))); rotate_right)))); w_top off; unfold Calls; k_fill; intro mean mg mb dp un gd cn cs a ccd cl outer A₀ base h₀ L m s Q E B F X N T hk hdp hun hret; refine wpAny_call ?_; k_dflt (refine' code_defC ?k1 ?k2 ?k3 ?k4 ?k5 ?kA ?kF ?kK ?k6 ?k7 ?k8 ?k9 ?kB ?kD ?_ ?c2 ?c3 ?c4; (case kA => exact rfl); (case kF => exact rfl); (case kK => assumption); (case k1 => k_asm); (case k2 => k_asm); (case k3 => k_asm); (case k4 => k_asm); (case k5 => k_asm); (case k6 => k_is); (case k7 => k_is); (case k8 => ktr_room); (case k9 => exact BindsTo.of_eq rfl); (case kB => exact rfl); (case kD => decide +kernel); (case c2 => exact rfl); (case c3 => exact rfl); (case c4 => exact rfl); k_whole; intro g' L' h' tk' cells' FG' F' N' Y' B' X' T' l1; k_cells Y'; (try simp only [List.cons_append, List.nil_append] at N'); (try dsimp only); (try k_fold)))
  k_steps
  all_goals first
    | exact absurd (by with_reducible assumption) hc
    | exact ret_none (retAt_of (resD_none (by first | exact dueR_z (by assumption) | exact dueR_1 (by assumption) (by assumption) | exact dueR_2 (by assumption) (by assumption) (by assumption) | exact dueR_3p (by assumption) (by assumption) (by assumption) (by assumption) (by assumption) | exact dueR_3m (by assumption) (by assumption) (by assumption) (by assumption) (by assumption) | exact dueR_4p (by assumption) (by assumption) (by assumption) (by assumption) (by assumption) (by assumption) | exact dueR_4m (by assumption) (by assumption) (by assumption) (by assumption) (by assumption) (by assumption))) hret) (by k_asm) (by k_asm) (by first | exact fun _ h => h | exact fun _ h => .tail _ h | exact fun _ h => .tail _ (.tail _ h) | exact fun _ h => .tail _ (.tail _ (.tail _ h)) | exact fun _ h => .tail _ (.tail _ (.tail _ (.tail _ h))) | kcj_all | with_reducible assumption | exact sub2 (by with_reducible assumption) (by with_reducible assumption) | exact sub3 (by with_reducible assumption) (by with_reducible assumption) (by with_reducible assumption))
    | (refine ret_int (retAt_of (resD_some (by first | exact dueR_5p (by assumption) (by assumption) (by assumption) (by assumption) (by assumption) (by assumption) | exact dueR_5m (by assumption) (by assumption) (by assumption) (by assumption) (by assumption) (by assumption))) hret) (by k_asm) (by k_asm) (by first | exact fun _ h => h | exact fun _ h => .tail _ h | exact fun _ h => .tail _ (.tail _ h) | exact fun _ h => .tail _ (.tail _ (.tail _ h)) | exact fun _ h => .tail _ (.tail _ (.tail _ (.tail _ h))) | kcj_all | with_reducible assumption | exact sub2 (by with_reducible assumption) (by with_reducible assumption) | exact sub3 (by with_reducible assumption) (by with_reducible assumption) (by with_reducible assumption)) ?_; (rfl))
end

section
open PySem PySem.W PyProof.Rows
/-- as Calls, with a list of ints that lies in the heap below -/
def CallsL (w : World) (f : Addr) (sz : Nat) (D : Addr) (xs : List Value) (news : List (Addr × Obj)) (vs : List Value) (r : Res) : Prop :=
  ∀ (mean : ExcName → Option Value) (mg mb : Str → Option Value) (dp un : Nat) (gd : Option (List Code)) (cn : Str) (cs : Scope) (a : Addr) (ccd : Value) (cl : List (Str × Addr)) (outer : List Env) (A₀ : Around) (base h₀ : Heap) (L : Addr) (m : Str → Option Value) (s : Shared)
    (Q E : Value → Shared → Prop), h₀.IsList D xs.toArray → 
    Below A₀ base outer h₀ → Fr h₀ L s.heap m → (hd.heap_1 w.params).In h₀ → News h₀ L s.heap news → Top vw (looseW vw []) mean mg mb h₀ → cs.kind = .function → dp + sz < recursionLimit → un + 8 * sz < cLine →
    RetAt base h₀ L m news (envX cn cs L a ccd cl :: outer) s Q E r →
    wpAny (model PySem.Challenge.rw_no0261_01.row.prog w) (ktrTop dp un gd cn cs L a ccd cl outer) (call (.ref f) vs) Q E s
theorem use_callsL {w : World} {f : Addr} {sz : Nat} {D : Addr} {xs : List Value} {news : List (Addr × Obj)} {vs : List Value} {r : Res} {mean : ExcName → Option Value} {mg mb : Str → Option Value} {dp un : Nat} {gd : Option (List Code)} {cn : Str} {cs : Scope} {a : Addr} {ccd : Value} {cl : List (Str × Addr)} {outer : List Env} {A₀ : Around} {base h₀ : Heap} {L : Addr} {m : Str → Option Value} {s : Shared}
    {Q E : Value → Shared → Prop} (B : Below A₀ base outer h₀) (F : Fr h₀ L s.heap m) (X : (hd.heap_1 w.params).In h₀) (N : News h₀ L s.heap news) (T : Top vw (looseW vw []) mean mg mb h₀) (hk : cs.kind = .function) (hL : h₀.IsList D xs.toArray) (C : CallsL w f sz D xs news vs r) (hd : dp + sz < recursionLimit) (hu : un + 8 * sz < cLine)
    (ret : RetAt base h₀ L m news (envX cn cs L a ccd cl :: outer) s Q E r) :
    wpAny (model PySem.Challenge.rw_no0261_01.row.prog w) (ktrTop dp un gd cn cs L a ccd cl outer) (call (.ref f) vs) Q E s := C _ _ _ _ _ _ _ _ _ _ _ _ _ _ _ _ _ _ _ _ hL B F X N T hk hd hu ret
/-- _law_at -/
def lawAt (ns : List Int) (k : Int) : Int := if k < (ns.length : Int) then ns.getD k.toNat 0 else 3 * k + 1









theorem c_at (w : World) (D : Addr) (xs : List Value) (ns : List Int) (k : Int) (t : Tok) (news : List (Addr × Obj)) (k0 : 0 ≤ k) (k1 : k ≤ 100) (hI : IntsAre xs ns) (hlen : ns.length ≤ 63) : CallsL w 401 2 D xs news [.ref D, .int k t] (.int (lawAt ns k)) := by
  ((k_with_none; (k_with "own binaryOp Mult int int" => (k_here; refine mul_int ?_ (mulOk_bd (by (repeat (first | assumption | with_reducible apply bd_abs | with_reducible apply bd_mul | with_reducible apply bd_add | with_reducible apply bd_sub | with_reducible apply bd_neg | with_reducible apply bd_fd | exact bd_pow (by first | omega | (split <;> omega)) | exact bd_lit (by decide)))) (by (repeat (first | assumption | with_reducible apply bd_abs | with_reducible apply bd_mul | with_reducible apply bd_add | with_reducible apply bd_sub | with_reducible apply bd_neg | with_reducible apply bd_fd | exact bd_pow (by first | omega | (split <;> omega)) | exact bd_lit (by decide)))) (by decide) (by decide)); (try dsimp only))); (k_with "own call builtin:divmod" => ((with_reducible show wpAny _ _ (call (Value.builtin _) [Value.int _ _, Value.int _ _]) _ _ _); (first | refine divmod_N (by k_asm) (by k_asm) (pow10Z_ne _) ?_ (Or.inl (noPy_pow (by omega))) | refine divmod_N (by k_asm) (by k_asm) (by first | exact abs_ne (by assumption) | assumption) ?_ (Or.inl (noPy_bd (by (repeat (first | assumption | with_reducible apply bd_abs | with_reducible apply bd_mul | with_reducible apply bd_add | with_reducible apply bd_sub | with_reducible apply bd_neg | with_reducible apply bd_fd | exact bd_pow (by first | omega | (split <;> omega)) | exact bd_lit (by decide)))) (by decide)))); intro _ _ _)); (k_with "own binaryOp Pow int int" => (k_here; refine pow_int_small (by first | omega | (split <;> omega)) (by first | omega | (split <;> omega)) (by first | decide | omega) ?_; (try dsimp only))); (k_with "own binaryOp FloorDiv int int" => (k_here; (first | refine floordiv_int (pow10Z_ne _) ?_ (Or.inl (noPy_pow (by omega))) | refine floordiv_int (by first | exact abs_ne (by assumption) | exact mulpow_ne (by assumption) _ | assumption | omega) ?_ (Or.inl (noPy_bd (by (repeat (first | assumption | with_reducible apply bd_abs | with_reducible apply bd_mul | with_reducible apply bd_add | with_reducible apply bd_sub | with_reducible apply bd_neg | with_reducible apply bd_fd | exact bd_pow (by first | omega | (split <;> omega)) | exact bd_lit (by decide)))) (by decide)))); (try dsimp only))); (k_with "own exec Raise some none" => (k_here; (with_reducible show wpAny _ _ (exec (Stmt.Raise (some (Expr.Call (Expr.Name ("RunFault" : Str) _) _ _ _)) none _) _) _ _ _); refine Raise_rf rfl ?_)); (k_with "own call ref" => (k_here; refine exc_K (by k_asm) (by k_asm) (by k_asm) (by k_asm) (by k_asm) (by first | exact rfl | assumption) (by ktr_room) (by ktr_units) ?_; intro h9 tk9 e9 D9 d9 F9 N9 p9; (try dsimp only); (try k_sweep))); (k_with "own Exists" => (refine raisable_of (by k_asm) (by k_asm) (by k_asm) ?_)); (k_with "own leaving ref" => (k_here; refine leave_own (by assumption) (by k_asm) (by k_asm) (by assumption) rfl rfl rfl rfl ?_; intro h' R' U'; (try dsimp only at R' U' ⊢)))); w_top off; unfold CallsL; k_fill; intro mean mg mb dp un gd cn cs a ccd cl outer A₀ base h₀ L m s Q E hL B F X N T hk hdp hun hret; refine wpAny_call ?_; k_dflt ktr_enter)
  have hL2 := isList_stays (Fr.keep (by assumption)) hL
  have hl9 := hI.length
  k_steps
  · (refine ret_int (hret) (by k_asm) (by k_asm) (by first | exact fun _ h => h | exact fun _ h => .tail _ h | exact fun _ h => .tail _ (.tail _ h) | exact fun _ h => .tail _ (.tail _ (.tail _ h)) | exact fun _ h => .tail _ (.tail _ (.tail _ (.tail _ h))) | kcj_all | with_reducible assumption | exact sub2 (by with_reducible assumption) (by with_reducible assumption) | exact sub3 (by with_reducible assumption) (by with_reducible assumption) (by with_reducible assumption)) ?_; (exact (if_pos (by with_reducible assumption)).symm))
  · (refine ret_int (hret) (by k_asm) (by k_asm) (by first | exact fun _ h => h | exact fun _ h => .tail _ h | exact fun _ h => .tail _ (.tail _ h) | exact fun _ h => .tail _ (.tail _ (.tail _ h)) | exact fun _ h => .tail _ (.tail _ (.tail _ (.tail _ h))) | kcj_all | with_reducible assumption | exact sub2 (by with_reducible assumption) (by with_reducible assumption) | exact sub3 (by with_reducible assumption) (by with_reducible assumption) (by with_reducible assumption)) ?_; (exact (if_neg (by with_reducible assumption)).symm))
theorem use_at {w : World} {D : Addr} {xs : List Value} {news : List (Addr × Obj)} {ns : List Int} {k : Int} {t : Tok} {mean : ExcName → Option Value} {mg mb : Str → Option Value} {dp un : Nat} {gd : Option (List Code)} {cn : Str} {cs : Scope} {a : Addr} {ccd : Value} {cl : List (Str × Addr)} {outer : List Env} {A₀ : Around} {base h₀ : Heap} {L : Addr} {m : Str → Option Value} {s : Shared}
    {Q E : Value → Shared → Prop} (B : Below A₀ base outer h₀) (F : Fr h₀ L s.heap m) (X : (hd.heap_1 w.params).In h₀) (N : News h₀ L s.heap news) (T : Top vw (looseW vw []) mean mg mb h₀) (hk : cs.kind = .function) (hL : h₀.IsList D xs.toArray) (k0 : 0 ≤ k) (k1 : k ≤ 100) (hI : IntsAre xs ns) (hlen : ns.length ≤ 63) (hd : dp + 2 < recursionLimit) (hu : un + 8 * 2 < cLine)
    (ret : ∀ x : Int, 0 ≤ x.fmod 3 → x.fmod 3 < 3 → 0 ≤ x.fmod 40 → x.fmod 40 < 40 → RetInt h₀ L m news s Q x) :
    wpAny (model PySem.Challenge.rw_no0261_01.row.prog w) (ktrTop dp un gd cn cs L a ccd cl outer) (call (.ref 401) [.ref D, .int k t]) Q E s :=
  c_at w D xs ns k t news k0 k1 hI hlen _ _ _ _ _ _ _ _ _ _ _ _ _ _ _ _ _ _ _ _ hL B F X N T hk hd hu
    (ret (lawAt ns k) (Int.fmod_nonneg_of_pos _ (by decide)) (Int.fmod_lt_of_pos _ (by decide)) (Int.fmod_nonneg_of_pos _ (by decide)) (Int.fmod_lt_of_pos _ (by decide)))
section
variable {prog : Program} {w : World} {A : Around} {E : Value → Shared → Prop} {s : Shared}
theorem item_small {value slice : PySem.Expr} {l : Addr} {vs : List Value} {ns : List Int} {x : Int} {u : Tok} {Q : Value → Shared → Prop} (ht : IsTup s.heap l vs.toArray) (hi : IntsAre vs ns) (hn : ns.length = 5) (ha : ∀ i, i < 5 → 0 ≤ ns.getD i 0 ∧ ns.getD i 0 ≤ 4)
    (h : ∀ t v, 0 ≤ v → v ≤ 4 → Q (.int v t) s)
    (hs : subscripted slice false (.ref l) (.int (x.fmod 5) u) = operate [.ref l, .int (x.fmod 5) u] (getItem (.ref l) (.int (x.fmod 5) u)) := by with_unfolding_all rfl) :
    wpAny (model prog w) A (subscriptTail value slice (.ref l) (.int (x.fmod 5) u)) Q E s := by
  have h0 : 0 ≤ x.fmod 5 := Int.fmod_nonneg_of_pos _ (by decide)
  have h1 : x.fmod 5 < 5 := Int.fmod_lt_of_pos _ (by decide)
  have := ha (x.fmod 5).toNat (by omega)
  exact item_anyT ht hi h0 (by omega) (by omega) (fun t => h t _ this.1 this.2) hs
end
theorem bdo {x p : Int} (h0 : 0 ≤ p) (h1 : p ≤ 4) : Bd ((x.fmod 4001 - 2000) * 10 ^ p.toNat) 8 := by
  have a : Bd (x.fmod 4001 - 2000) 4 := by
    have h0 : 0 ≤ x.fmod 4001 := Int.fmod_nonneg_of_pos _ (by decide)
    have h1 : x.fmod 4001 < 4001 := Int.fmod_lt_of_pos _ (by decide)
    show _ < 10 ^ 4
    omega
  have b : (x.fmod 4001 - 2000).natAbs ≤ 2000 := by
    have h0 : 0 ≤ x.fmod 4001 := Int.fmod_nonneg_of_pos _ (by decide)
    have h1 : x.fmod 4001 < 4001 := Int.fmod_lt_of_pos _ (by decide)
    omega
  have c : 10 ^ p.toNat ≤ 10 ^ 4 := pow10_mono (by omega)
  show _ < 10 ^ 8
  rw [Int.natAbs_mul, Int.natAbs_pow]
  exact Nat.lt_of_le_of_lt (Nat.mul_le_mul b c) (by decide)
theorem bdu {p : Int} (h0 : 0 ≤ p) (h1 : p ≤ 4) : Bd (10 ^ p.toNat) 8 := by
  show _ < 10 ^ 8
  rw [Int.natAbs_pow]
  exact Nat.pow_lt_pow_right (by decide) (by omega)
end

section
open PySem PySem.W PyProof.Rows
section
variable {w : World} {mean : ExcName → Option Value} {mg mb : Str → Option Value} {dp un : Nat} {gd : Option (List Code)} {cn : Str} {cs : Scope} {a : Addr} {ccd : Value} {cl : List (Str × Addr)} {outer : List Env} {A₀ : Around} {base h₀ : Heap} {L : Addr} {m : Str → Option Value} {s : Shared}
    {Q E : Value → Shared → Prop} {news : List (Addr × Obj)}
/-- a fraction that the law builds -/
theorem use_init {x p v d : Int} {t1 t2 t3 t4 : Tok} (B : Below A₀ base outer h₀) (F : Fr h₀ L s.heap m) (X : (hd.heap_1 w.params).In h₀) (N : News h₀ L s.heap news) (T : Top vw (looseW vw []) mean mg mb h₀) (hk : cs.kind = .function) (hd : dp + 2 < recursionLimit) (hu : un + 8 * 2 < cLine)
    (p0 : 0 ≤ p) (p1 : p ≤ 4) (v0 : 0 ≤ v) (v1 : v ≤ 4) (d0 : 1 ≤ d) (d1 : d ≤ 5)
    (ret : ∀ o u : Int, Bd o 20 → Bd u 20 → 0 < u → (∃ j : Nat, u = 10 ^ j ∧ j ≤ 13) → RetNew h₀ L m news s Q o u) :
    wpAny (model PySem.Challenge.rw_no0261_01.row.prog w) (ktrTop dp un gd cn cs L a ccd cl outer) (call (.ref 408) [.int ((x.fmod 4001 - 2000) * 10 ^ p.toNat) t1, .int (10 ^ v.toNat) t2, .int d t3, .int 90 t4]) Q E s := by
  have bo := bdo (x := x) p0 p1
  have bu := bdu v0 v1
  have hu0 : (0 : Int) < 10 ^ v.toNat := pow10Z_pos _
  refine use_calls B F X N T hk (c_roundF w _ _ d 90 t1 t2 t3 t4 news (bd_up bo (by decide)) (bd_up bu (by decide)) hu0 d0 d1) hd hu ?_
  cases h : lawF ((x.fmod 4001 - 2000) * 10 ^ p.toNat) (10 ^ v.toNat) d 90 with
  | none => exact absurd h (init_some d0 d1 bo bu hu0)
  | some q =>
    obtain ⟨b1, b2, b3, b4⟩ := init_bd d0 d1 bo bu hu0 h
    exact ret q.1 q.2 b1 b2 b3 b4
/-- its pair -/
theorem use_pair {o u : Int} {D : Addr} {t1 t2 : Tok} {c : Nat} (B : Below A₀ base outer h₀) (F : Fr h₀ L s.heap m) (X : (hd.heap_1 w.params).In h₀) (N : News h₀ L s.heap news) (T : Top vw (looseW vw []) mean mg mb h₀) (hk : cs.kind = .function) (hd : dp + 2 < recursionLimit) (hu : un + 8 * 2 < cLine)
    (hD : (D, pairObj o u t1 t2 c) ∈ news) (hj : ∃ j : Nat, u = 10 ^ j ∧ j ≤ 13) (bo : Bd o 20)
    (ret : ∀ x1 x2 : Int, PF (x1, x2) o u → Bd x1 20 → -60 ≤ x2 → x2 ≤ 60 → RetNew h₀ L m news s Q x1 x2) :
    wpAny (model PySem.Challenge.rw_no0261_01.row.prog w) (ktrTop dp un gd cn cs L a ccd cl outer) (call (.ref 415) [.ref D]) Q E s := by
  obtain ⟨j, rfl, hj⟩ := hj
  obtain ⟨a1, a2, a3, a4⟩ := pair_bd (o := o) (j := j) rfl hj bo
  exact use_calls B F X N T hk (c_pair w o j j D t1 t2 c news hD rfl) hd hu (ret _ _ a1 a2 a3 a4)
/-- whether it is nought -/
theorem use_zero {x1 x2 o u : Int} {D : Addr} {t1 t2 : Tok} {c : Nat} (B : Below A₀ base outer h₀) (F : Fr h₀ L s.heap m) (X : (hd.heap_1 w.params).In h₀) (N : News h₀ L s.heap news) (T : Top vw (looseW vw []) mean mg mb h₀) (hk : cs.kind = .function) (hd : dp + 1 < recursionLimit) (hu : un + 8 * 1 < cLine)
    (hD : (D, pairObj x1 x2 t1 t2 c) ∈ news) (hp : PF (x1, x2) o u) (ret : RetBool h₀ L m news s Q (decide (o = 0))) :
    wpAny (model PySem.Challenge.rw_no0261_01.row.prog w) (ktrTop dp un gd cn cs L a ccd cl outer) (call (.ref 264) [.ref D]) Q E s := by
  have e : (x1 == 0) = decide (o = 0) := by
    have := pf_zero hp
    dsimp only at this
    by_cases h : o = 0
    · rw [this.mpr h, h]; rfl
    · rw [decide_eq_false h, beq_eq_false_iff_ne]; exact fun q => h (this.mp q)
  refine use_calls B F X N T hk (c_iszero_p w x1 x2 (.ref D) news (.new hD)) hd hu ?_
  rw [e]
  exact ret
theorem c_dueI' (w : World) (c f l st k d top : Int) (D1 D2 D3 : Addr) (t1 t2 t3 t4 t5 t6 t7 t8 t9 t10 : Tok) (c1 c2 c3 : Nat) (news : List (Addr × Obj)) (hc : c = 0) (hf : (D1, pairObj f 1 t1 t2 c1) ∈ news) (hl : (D2, pairObj l 1 t3 t4 c2) ∈ news) (hs : (D3, pairObj st 1 t5 t6 c3) ∈ news) (k0 : 8 ≤ k) (k1 : k ≤ 24) (bs : Bd st 20) :
    Calls w 420 10 news [.int c t7, .ref D1, .ref D2, .ref D3, .int k t8, .int d t9, .int top t10] (resD (dueI f l st k)) := by
  subst hc
  exact c_dueI w f l st k d top D1 D2 D3 t1 t2 t3 t4 t5 t6 t7 t8 t9 t10 c1 c2 c3 news hf hl hs k0 k1 bs
/-- the numbers of whole kind -/
theorem bd_whole {x k : Int} (k0 : 8 ≤ k) (k1 : k ≤ 24) : Bd (x.fmod (2 ^ k.toNat) - 2 ^ (k - 1).toNat) 20 := by
  have hp : (0 : Int) < 2 ^ k.toNat := Int.pow_pos (by decide)
  have hp' : (0 : Int) < 2 ^ (k - 1).toNat := Int.pow_pos (by decide)
  have h0 : 0 ≤ x.fmod (2 ^ k.toNat) := Int.fmod_nonneg_of_pos _ hp
  have h1 : x.fmod (2 ^ k.toNat) < 2 ^ k.toNat := Int.fmod_lt_of_pos _ hp
  have a : ∀ j : Nat, j ≤ 24 → (2 : Int) ^ j ≤ 2 ^ 24 := fun j h => by
    have : 2 ^ j ≤ 2 ^ 24 := Nat.pow_le_pow_right (by decide) h
    have e : ((2 ^ j : Nat) : Int) = (2 : Int) ^ j := by rw [Int.natCast_pow]; rfl
    have e2 : ((2 ^ 24 : Nat) : Int) = (2 : Int) ^ 24 := by decide
    omega
  have a1 := a k.toNat (by omega)
  have a2 := a (k - 1).toNat (by omega)
  have e : (2 : Int) ^ 24 = 16777216 := by decide
  show _ < 10 ^ 20
  omega
end
section
variable {prog : Program} {w : World} {A : Around} {E : Value → Shared → Prop} {s : Shared}
/-- (0, 3, 5)[kind]: two ways -/
theorem item_kind {value slice : PySem.Expr} {l : Addr} {vs : List Value} {k : Int} {u : Tok} {Q : Value → Shared → Prop} (ht : IsTup s.heap l vs.toArray) (hi : IntsAre vs [0, 3, 5]) (b0 : 0 ≤ k) (b1 : k < 3)
    (h0 : k = 0 → ∀ t, Q (.int 0 t) s) (h1 : ¬ k = 0 → ∀ t d, 1 ≤ d → d ≤ 5 → d = (if k = 1 then 3 else 5) → Q (.int d t) s)
    (hs : subscripted slice false (.ref l) (.int k u) = operate [.ref l, .int k u] (getItem (.ref l) (.int k u)) := by with_unfolding_all rfl) :
    wpAny (model prog w) A (subscriptTail value slice (.ref l) (.int k u)) Q E s := by
  refine item_anyT ht hi b0 b1 (by omega) (fun t => ?_) hs
  rcases (show k = 0 ∨ k = 1 ∨ k = 2 by omega) with h | h | h
  · subst h; exact h0 rfl t
  · subst h; exact h1 (by decide) t 3 (by decide) (by decide) rfl
  · subst h; exact h1 (by decide) t 5 (by decide) (by decide) rfl
end
end

section
open PySem PySem.W PyProof.Rows










local macro_rules | `(tactic| k_all) => `(tactic| first | exact fun q hq => Nat.ne_of_lt ((by with_reducible assumption : ∀ p ∈ _, p.1 < _) q hq) | exact fun q hq => Nat.ne_of_gt ((by with_reducible assumption : ∀ p ∈ _, p.1 < _) q hq))
abbrev opsPairs : List (Value × Value) := [(.int 0 347, .ref 123), (.int 1 349, .ref 257), (.int 2 351, .ref 257), (.int 3 353, .ref 373), (.int 4 355, .ref 130), (.int 5 357, .ref 387)]
abbrev limEnt (w : World) (x : Str) (u : Tok) (v : Value) : DictEntry := { hash := PyData.keyHash w.params x, key := .str x u, val := v }
/-- the table of a Limits object -/
abbrev limObj (w : World) (k top : Int) (t1 t2 t3 t4 : Tok) (u : Nat → Tok) : Obj := dictOf [limEnt w "width" (u 0) (.int k t1), limEnt w "real_digits" (u 1) (.int 3 t2), limEnt w "double_digits" (u 2) (.int 5 t3), limEnt w "top_exponent" (u 3) (.int top t4),
  limEnt w "steps" (u 4) (.int 1000000 598), limEnt w "continuations" (u 5) (.int 19 599), limEnt w "columns" (u 6) (.int 72 600), limEnt w "depth" (u 7) (.int 40 601)] 8
/-- tokens, by place -/
def toks8 (a b c d e f g h : Tok) : Nat → Tok
  | 0 => a | 1 => b | 2 => c | 3 => d | 4 => e | 5 => f | 6 => g | _ => h
section
variable {w : World} {mean : ExcName → Option Value} {mg mb : Str → Option Value} {dp un : Nat} {gd : Option (List Code)} {cn : Str} {cs : Scope} {a : Addr} {ccd : Value} {cl : List (Str × Addr)} {outer : List Env} {A₀ : Around} {base h₀ : Heap} {L : Addr} {m : Str → Option Value} {s : Shared}
    {Q E : Value → Shared → Prop} {news : List (Addr × Obj)}
/-- all_operations() -/
theorem use_ops (B : Below A₀ base outer h₀) (F : Fr h₀ L s.heap m) (X : (hd.heap_1 w.params).In h₀) (N : News h₀ L s.heap news) (T : Top vw (looseW vw []) mean mg mb h₀) (hk : cs.kind = .function) (hdp : dp + 2 < recursionLimit) (hun : un + 8 * 2 < cLine)
    (hret : ∀ (D : Addr) (o : Obj) (h' : Heap) (tk' : Nat), Fr h₀ L h' m → News h₀ L h' ((D, o) :: news) → o.IsDictOf (PySem.intKind PySem.Challenge.rw_no0261_01.row.prog w) (intKeyPairs opsPairs) → AllLt D news → Q (.ref D) { s with heap := h', toks := tk' }) :
    wpAny (model PySem.Challenge.rw_no0261_01.row.prog w) (ktrTop dp un gd cn cs L a ccd cl outer) (call (.ref 394) []) Q E s := by
  w_top off
  (k_with_none; (k_with "own binaryOp Mult int int" => (k_here; refine mul_int ?_ (mulOk_bd (by (repeat (first | assumption | with_reducible apply bd_abs | with_reducible apply bd_mul | with_reducible apply bd_add | with_reducible apply bd_sub | with_reducible apply bd_neg | with_reducible apply bd_fd | exact bd_pow (by first | omega | (split <;> omega)) | exact bd_lit (by decide)))) (by (repeat (first | assumption | with_reducible apply bd_abs | with_reducible apply bd_mul | with_reducible apply bd_add | with_reducible apply bd_sub | with_reducible apply bd_neg | with_reducible apply bd_fd | exact bd_pow (by first | omega | (split <;> omega)) | exact bd_lit (by decide)))) (by decide) (by decide)); (try dsimp only))); (k_with "own call builtin:divmod" => ((with_reducible show wpAny _ _ (call (Value.builtin _) [Value.int _ _, Value.int _ _]) _ _ _); (first | refine divmod_N (by k_asm) (by k_asm) (pow10Z_ne _) ?_ (Or.inl (noPy_pow (by omega))) | refine divmod_N (by k_asm) (by k_asm) (by first | exact abs_ne (by assumption) | assumption) ?_ (Or.inl (noPy_bd (by (repeat (first | assumption | with_reducible apply bd_abs | with_reducible apply bd_mul | with_reducible apply bd_add | with_reducible apply bd_sub | with_reducible apply bd_neg | with_reducible apply bd_fd | exact bd_pow (by first | omega | (split <;> omega)) | exact bd_lit (by decide)))) (by decide)))); intro _ _ _)); (k_with "own binaryOp Pow int int" => (k_here; refine pow_int_small (by first | omega | (split <;> omega)) (by first | omega | (split <;> omega)) (by first | decide | omega) ?_; (try dsimp only))); (k_with "own binaryOp FloorDiv int int" => (k_here; (first | refine floordiv_int (pow10Z_ne _) ?_ (Or.inl (noPy_pow (by omega))) | refine floordiv_int (by first | exact abs_ne (by assumption) | exact mulpow_ne (by assumption) _ | assumption | omega) ?_ (Or.inl (noPy_bd (by (repeat (first | assumption | with_reducible apply bd_abs | with_reducible apply bd_mul | with_reducible apply bd_add | with_reducible apply bd_sub | with_reducible apply bd_neg | with_reducible apply bd_fd | exact bd_pow (by first | omega | (split <;> omega)) | exact bd_lit (by decide)))) (by decide)))); (try dsimp only))); (k_with "own exec Raise some none" => (k_here; (with_reducible show wpAny _ _ (exec (Stmt.Raise (some (Expr.Call (Expr.Name ("RunFault" : Str) _) _ _ _)) none _) _) _ _ _); refine Raise_rf rfl ?_)); (k_with "own call ref" => (k_here; refine exc_K (by k_asm) (by k_asm) (by k_asm) (by k_asm) (by k_asm) (by first | exact rfl | assumption) (by ktr_room) (by ktr_units) ?_; intro h9 tk9 e9 D9 d9 F9 N9 p9; (try dsimp only); (try k_sweep))); (k_with "own Exists" => (refine raisable_of (by k_asm) (by k_asm) (by k_asm) ?_)); (k_with "own leaving ref" => (k_here; refine leave_own (by assumption) (by k_asm) (by k_asm) (by assumption) rfl rfl rfl rfl ?_; intro h' R' U'; (try dsimp only at R' U' ⊢))); (k_with "own eval Dict" => (k_here; k_dflt (refine' kdn_eval (knd := PySem.intKind _ _) ?FL8 ?NL8 ?bL8 ?aL8 ?lL8 ?eL8 ?nL8 ?_; (case FL8 => k_asm); (case NL8 => first | k_asm | exact News.nil); (case bL8 => exact Top.nolimit (by k_asm)); (case aL8 => rfl); (case lL8 => rfl); (case eL8 => exact List.cons_ne_nil _ _); (case nL8 => exact Nat.le_of_ble_eq_true rfl)); intro d' h' o' F' N' l1 lo' hd'; (try k_lt l1))))
  revert X
  k_fill
  intro X
  refine wpAny_call ?_
  k_dflt ktr_enter
  k_steps
  exact hret _ _ _ _ (by k_asm) (by k_asm) (by assumption) (allLt_of (by assumption))
/-- Limits(k, 3, 5, top) -/
theorem use_limits {k top : Int} {t1 t2 t3 t4 : Tok} (B : Below A₀ base outer h₀) (F : Fr h₀ L s.heap m) (X : (hd.heap_1 w.params).In h₀) (N : News h₀ L s.heap news) (T : Top vw (looseW vw []) mean mg mb h₀) (hk : cs.kind = .function) (hdp : dp + 2 < recursionLimit) (hun : un + 8 * 2 < cLine)
    (hret : ∀ (D x : Addr) (u : Nat → Tok) (h' : Heap) (tk' : Nat), Fr h₀ L h' m → News h₀ L h' ((x, instObj 289 D) :: (D, limObj w k top t1 t2 t3 t4 u) :: news) → AllLt D news → D < x → Q (.ref x) { s with heap := h', toks := tk' }) :
    wpAny (model PySem.Challenge.rw_no0261_01.row.prog w) (ktrTop dp un gd cn cs L a ccd cl outer) (call (.ref 289) [.int k t1, .int 3 t2, .int 5 t3, .int top t4]) Q E s := by
  w_top off
  (k_with_none; (k_with "own binaryOp Mult int int" => (k_here; refine mul_int ?_ (mulOk_bd (by (repeat (first | assumption | with_reducible apply bd_abs | with_reducible apply bd_mul | with_reducible apply bd_add | with_reducible apply bd_sub | with_reducible apply bd_neg | with_reducible apply bd_fd | exact bd_pow (by first | omega | (split <;> omega)) | exact bd_lit (by decide)))) (by (repeat (first | assumption | with_reducible apply bd_abs | with_reducible apply bd_mul | with_reducible apply bd_add | with_reducible apply bd_sub | with_reducible apply bd_neg | with_reducible apply bd_fd | exact bd_pow (by first | omega | (split <;> omega)) | exact bd_lit (by decide)))) (by decide) (by decide)); (try dsimp only))); (k_with "own call builtin:divmod" => ((with_reducible show wpAny _ _ (call (Value.builtin _) [Value.int _ _, Value.int _ _]) _ _ _); (first | refine divmod_N (by k_asm) (by k_asm) (pow10Z_ne _) ?_ (Or.inl (noPy_pow (by omega))) | refine divmod_N (by k_asm) (by k_asm) (by first | exact abs_ne (by assumption) | assumption) ?_ (Or.inl (noPy_bd (by (repeat (first | assumption | with_reducible apply bd_abs | with_reducible apply bd_mul | with_reducible apply bd_add | with_reducible apply bd_sub | with_reducible apply bd_neg | with_reducible apply bd_fd | exact bd_pow (by first | omega | (split <;> omega)) | exact bd_lit (by decide)))) (by decide)))); intro _ _ _)); (k_with "own binaryOp Pow int int" => (k_here; refine pow_int_small (by first | omega | (split <;> omega)) (by first | omega | (split <;> omega)) (by first | decide | omega) ?_; (try dsimp only))); (k_with "own binaryOp FloorDiv int int" => (k_here; (first | refine floordiv_int (pow10Z_ne _) ?_ (Or.inl (noPy_pow (by omega))) | refine floordiv_int (by first | exact abs_ne (by assumption) | exact mulpow_ne (by assumption) _ | assumption | omega) ?_ (Or.inl (noPy_bd (by (repeat (first | assumption | with_reducible apply bd_abs | with_reducible apply bd_mul | with_reducible apply bd_add | with_reducible apply bd_sub | with_reducible apply bd_neg | with_reducible apply bd_fd | exact bd_pow (by first | omega | (split <;> omega)) | exact bd_lit (by decide)))) (by decide)))); (try dsimp only))); (k_with "own exec Raise some none" => (k_here; (with_reducible show wpAny _ _ (exec (Stmt.Raise (some (Expr.Call (Expr.Name ("RunFault" : Str) _) _ _ _)) none _) _) _ _ _); refine Raise_rf rfl ?_)); (k_with "own call ref" => (k_here; refine exc_K (by k_asm) (by k_asm) (by k_asm) (by k_asm) (by k_asm) (by first | exact rfl | assumption) (by ktr_room) (by ktr_units) ?_; intro h9 tk9 e9 D9 d9 F9 N9 p9; (try dsimp only); (try k_sweep))); (k_with "own Exists" => (refine raisable_of (by k_asm) (by k_asm) (by k_asm) ?_)); (k_with "own leaving ref" => (k_here; refine leave_own (by assumption) (by k_asm) (by k_asm) (by assumption) rfl rfl rfl rfl ?_; intro h' R' U'; (try dsimp only at R' U' ⊢))); (k_with "own eval Dict" => (k_here; k_dflt (refine' kdn_eval (knd := PySem.intKind _ _) ?FL8 ?NL8 ?bL8 ?aL8 ?lL8 ?eL8 ?nL8 ?_; (case FL8 => k_asm); (case NL8 => first | k_asm | exact News.nil); (case bL8 => exact Top.nolimit (by k_asm)); (case aL8 => rfl); (case lL8 => rfl); (case eL8 => exact List.cons_ne_nil _ _); (case nL8 => exact Nat.le_of_ble_eq_true rfl)); intro d' h' o' F' N' l1 lo' hd'; (try k_lt l1))))
  revert X
  k_fill
  intro X
  k_dflt (refine' call_cls ?k1 ?k2 ?k3 ?k4 ?k5 ?k6 ?_; (case k1 => k_asm); (case k2 => k_asm); (case k3 => k_asm); (case k4 => k_is); (case k5 => k_is); (case k6 => k_is); k_whole; intro x' d' h' F' N' l1 l2; k_lt2 l2)
  k_dflt (refine' code_def ?k1 ?k2 ?k3 ?k4 ?k5 ?kA ?kF ?kK ?k6 ?k7 ?k8 ?k9 ?kB ?_ ?c2 ?c3 ?c4 ?c5; (case kA => exact rfl); (case kF => exact rfl); (case kK => assumption); (case k1 => k_asm); (case k2 => k_asm); (case k3 => k_asm); (case k4 => k_asm); (case k5 => k_asm); (case k6 => k_is); (case k7 => k_is); (case k8 => ktr_room); (case k9 => exact binds_K (by k_in) rfl (by k_is) rfl rfl rfl); (case c5 => decide); (case kB => exact locs rfl); (case c2 => exact rfl); (case c3 => exact rfl); (case c4 => exact rfl); k_whole; intro g' L' h' FG' F' N' B' X' T'; (try dsimp only); (try k_fold))
  k_steps
  exact hret _ _ (toks8 _ _ _ _ _ _ _ _) _ _ (by k_asm) (by k_asm) (allLt_of (by assumption)) (by assumption)
end
end

section
open PySem PySem.W PyProof.Rows













section
variable (w : World) (x y k top : Int) (t1 t2 t3 t4 a1 a2 a3 a4 : Tok) (u : Nat → Tok) (X D : Addr) (news : List (Addr × Obj)) (hx : (X, instObj 289 D) ∈ news) (hd' : (D, limObj w k top t1 t2 t3 t4 u) ∈ news) (k0 : 1 ≤ k) (k1 : k ≤ 30)
include hx hd' k0 k1
theorem c_ib_add : Calls w 123 6 news [.str "add" a1, .int 0 a2, .int x a3, .int y a4, .ref X] (resI (fitI (x + y) k)) := by
  ((k_with_none; (k_with "own binaryOp Mult int int" => (k_here; refine mul_int ?_ (mulOk_bd (by (repeat (first | assumption | with_reducible apply bd_abs | with_reducible apply bd_mul | with_reducible apply bd_add | with_reducible apply bd_sub | with_reducible apply bd_neg | with_reducible apply bd_fd | exact bd_pow (by first | omega | (split <;> omega)) | exact bd_lit (by decide)))) (by (repeat (first | assumption | with_reducible apply bd_abs | with_reducible apply bd_mul | with_reducible apply bd_add | with_reducible apply bd_sub | with_reducible apply bd_neg | with_reducible apply bd_fd | exact bd_pow (by first | omega | (split <;> omega)) | exact bd_lit (by decide)))) (by decide) (by decide)); (try dsimp only))); (k_with "own call builtin:divmod" => ((with_reducible show wpAny _ _ (call (Value.builtin _) [Value.int _ _, Value.int _ _]) _ _ _); (first | refine divmod_N (by k_asm) (by k_asm) (pow10Z_ne _) ?_ (Or.inl (noPy_pow (by omega))) | refine divmod_N (by k_asm) (by k_asm) (by first | exact abs_ne (by assumption) | assumption) ?_ (Or.inl (noPy_bd (by (repeat (first | assumption | with_reducible apply bd_abs | with_reducible apply bd_mul | with_reducible apply bd_add | with_reducible apply bd_sub | with_reducible apply bd_neg | with_reducible apply bd_fd | exact bd_pow (by first | omega | (split <;> omega)) | exact bd_lit (by decide)))) (by decide)))); intro _ _ _)); (k_with "own binaryOp Pow int int" => (k_here; refine pow_int_small (by first | omega | (split <;> omega)) (by first | omega | (split <;> omega)) (by first | decide | omega) ?_; (try dsimp only))); (k_with "own binaryOp FloorDiv int int" => (k_here; (first | refine floordiv_int (pow10Z_ne _) ?_ (Or.inl (noPy_pow (by omega))) | refine floordiv_int (by first | exact abs_ne (by assumption) | exact mulpow_ne (by assumption) _ | assumption | omega) ?_ (Or.inl (noPy_bd (by (repeat (first | assumption | with_reducible apply bd_abs | with_reducible apply bd_mul | with_reducible apply bd_add | with_reducible apply bd_sub | with_reducible apply bd_neg | with_reducible apply bd_fd | exact bd_pow (by first | omega | (split <;> omega)) | exact bd_lit (by decide)))) (by decide)))); (try dsimp only))); (k_with "own exec Raise some none" => (k_here; (with_reducible show wpAny _ _ (exec (Stmt.Raise (some (Expr.Call (Expr.Name ("RunFault" : Str) _) _ _ _)) none _) _) _ _ _); refine Raise_rf rfl ?_)); (k_with "own call ref" => (k_here; refine exc_K (by k_asm) (by k_asm) (by k_asm) (by k_asm) (by k_asm) (by first | exact rfl | assumption) (by ktr_room) (by ktr_units) ?_; intro h9 tk9 e9 D9 d9 F9 N9 p9; (try dsimp only); (try k_sweep))); (k_with "own Exists" => (refine raisable_of (by k_asm) (by k_asm) (by k_asm) ?_)); (k_with "own leaving ref" => (k_here; refine leave_own (by assumption) (by k_asm) (by k_asm) (by assumption) rfl rfl rfl rfl ?_; intro h' R' U'; (try dsimp only at R' U' ⊢))); (k_with "own eval Call" => (k_here; (with_reducible show wpAny _ _ (eval (PySem.Expr.Call (PySem.Expr.Name _ _) _ [] _) _) _ _ _); k_dflt (refine Call_ ?_))); (k_with "own call ref" => (k_here; k_dflt (refine use_calls (by k_asm) (by k_asm) (by k_asm) (by k_asm) (by k_asm) (by first | exact rfl | assumption) (c_iadd _ _ _ _ _ _ _ _ (by assumption) (by assumption)) (by ktr_room) (by ktr_units) ?_; dsimp only [resI]; split; (focus (dsimp only [RetAt]; intro e9 g9 h9 tk9 F9 R9 U9; (try dsimp only); (try k_fold))); rotate_left; (focus (dsimp only [RetAt]; intro t9 h9 tk9 F9 N9; (try dsimp only); (try k_sweep); (try k_fold))); rotate_right))); (k_with "own call ref" => (k_here; k_dflt (refine use_calls (by k_asm) (by k_asm) (by k_asm) (by k_asm) (by k_asm) (by first | exact rfl | assumption) (c_isub _ _ _ _ _ _ _ _ (by assumption) (by assumption)) (by ktr_room) (by ktr_units) ?_; dsimp only [resI]; split; (focus (dsimp only [RetAt]; intro e9 g9 h9 tk9 F9 R9 U9; (try dsimp only); (try k_fold))); rotate_left; (focus (dsimp only [RetAt]; intro t9 h9 tk9 F9 N9; (try dsimp only); (try k_sweep); (try k_fold))); rotate_right))); (k_with "own call ref" => (k_here; k_dflt (refine use_calls (by k_asm) (by k_asm) (by k_asm) (by k_asm) (by k_asm) (by first | exact rfl | assumption) (c_idiv _ _ _ _ _ _ _ _ (by assumption) (by assumption) (by assumption) (by assumption)) (by ktr_room) (by ktr_units) ?_; dsimp only [resI]; split; (focus (dsimp only [RetAt]; intro e9 g9 h9 tk9 F9 R9 U9; (try dsimp only); (try k_fold))); rotate_left; (focus (dsimp only [RetAt]; intro t9 h9 tk9 F9 N9; (try dsimp only); (try k_sweep); (try k_fold))); rotate_right)))); w_top off; unfold Calls; k_fill; intro mean mg mb dp un gd cn cs a ccd cl outer A₀ base h₀ L m s Q E B F X N T hk hdp hun hret; refine wpAny_call ?_; k_dflt ktr_enter)
  k_steps
  all_goals first
    | exact ret_raised (retAt_of (resI_none (by assumption)) hret) (by k_asm) (by k_asm) (by assumption) (by first | exact fun _ h => h | exact fun _ h => .tail _ h | exact fun _ h => .tail _ (.tail _ h) | exact fun _ h => .tail _ (.tail _ (.tail _ h)) | exact fun _ h => .tail _ (.tail _ (.tail _ (.tail _ h))) | kcj_all | with_reducible assumption | exact sub2 (by with_reducible assumption) (by with_reducible assumption) | exact sub3 (by with_reducible assumption) (by with_reducible assumption) (by with_reducible assumption))
    | (refine ret_int (retAt_of (resI_some (by assumption)) hret) (by k_asm) (by k_asm) (by first | exact fun _ h => h | exact fun _ h => .tail _ h | exact fun _ h => .tail _ (.tail _ h) | exact fun _ h => .tail _ (.tail _ (.tail _ h)) | exact fun _ h => .tail _ (.tail _ (.tail _ (.tail _ h))) | kcj_all | with_reducible assumption | exact sub2 (by with_reducible assumption) (by with_reducible assumption) | exact sub3 (by with_reducible assumption) (by with_reducible assumption) (by with_reducible assumption)) ?_; (rfl))
theorem c_ib_sub : Calls w 123 6 news [.str "sub" a1, .int 0 a2, .int x a3, .int y a4, .ref X] (resI (fitI (x - y) k)) := by
  ((k_with_none; (k_with "own binaryOp Mult int int" => (k_here; refine mul_int ?_ (mulOk_bd (by (repeat (first | assumption | with_reducible apply bd_abs | with_reducible apply bd_mul | with_reducible apply bd_add | with_reducible apply bd_sub | with_reducible apply bd_neg | with_reducible apply bd_fd | exact bd_pow (by first | omega | (split <;> omega)) | exact bd_lit (by decide)))) (by (repeat (first | assumption | with_reducible apply bd_abs | with_reducible apply bd_mul | with_reducible apply bd_add | with_reducible apply bd_sub | with_reducible apply bd_neg | with_reducible apply bd_fd | exact bd_pow (by first | omega | (split <;> omega)) | exact bd_lit (by decide)))) (by decide) (by decide)); (try dsimp only))); (k_with "own call builtin:divmod" => ((with_reducible show wpAny _ _ (call (Value.builtin _) [Value.int _ _, Value.int _ _]) _ _ _); (first | refine divmod_N (by k_asm) (by k_asm) (pow10Z_ne _) ?_ (Or.inl (noPy_pow (by omega))) | refine divmod_N (by k_asm) (by k_asm) (by first | exact abs_ne (by assumption) | assumption) ?_ (Or.inl (noPy_bd (by (repeat (first | assumption | with_reducible apply bd_abs | with_reducible apply bd_mul | with_reducible apply bd_add | with_reducible apply bd_sub | with_reducible apply bd_neg | with_reducible apply bd_fd | exact bd_pow (by first | omega | (split <;> omega)) | exact bd_lit (by decide)))) (by decide)))); intro _ _ _)); (k_with "own binaryOp Pow int int" => (k_here; refine pow_int_small (by first | omega | (split <;> omega)) (by first | omega | (split <;> omega)) (by first | decide | omega) ?_; (try dsimp only))); (k_with "own binaryOp FloorDiv int int" => (k_here; (first | refine floordiv_int (pow10Z_ne _) ?_ (Or.inl (noPy_pow (by omega))) | refine floordiv_int (by first | exact abs_ne (by assumption) | exact mulpow_ne (by assumption) _ | assumption | omega) ?_ (Or.inl (noPy_bd (by (repeat (first | assumption | with_reducible apply bd_abs | with_reducible apply bd_mul | with_reducible apply bd_add | with_reducible apply bd_sub | with_reducible apply bd_neg | with_reducible apply bd_fd | exact bd_pow (by first | omega | (split <;> omega)) | exact bd_lit (by decide)))) (by decide)))); (try dsimp only))); (k_with "own exec Raise some none" => (k_here; (with_reducible show wpAny _ _ (exec (Stmt.Raise (some (Expr.Call (Expr.Name ("RunFault" : Str) _) _ _ _)) none _) _) _ _ _); refine Raise_rf rfl ?_)); (k_with "own call ref" => (k_here; refine exc_K (by k_asm) (by k_asm) (by k_asm) (by k_asm) (by k_asm) (by first | exact rfl | assumption) (by ktr_room) (by ktr_units) ?_; intro h9 tk9 e9 D9 d9 F9 N9 p9; (try dsimp only); (try k_sweep))); (k_with "own Exists" => (refine raisable_of (by k_asm) (by k_asm) (by k_asm) ?_)); (k_with "own leaving ref" => (k_here; refine leave_own (by assumption) (by k_asm) (by k_asm) (by assumption) rfl rfl rfl rfl ?_; intro h' R' U'; (try dsimp only at R' U' ⊢))); (k_with "own eval Call" => (k_here; (with_reducible show wpAny _ _ (eval (PySem.Expr.Call (PySem.Expr.Name _ _) _ [] _) _) _ _ _); k_dflt (refine Call_ ?_))); (k_with "own call ref" => (k_here; k_dflt (refine use_calls (by k_asm) (by k_asm) (by k_asm) (by k_asm) (by k_asm) (by first | exact rfl | assumption) (c_iadd _ _ _ _ _ _ _ _ (by assumption) (by assumption)) (by ktr_room) (by ktr_units) ?_; dsimp only [resI]; split; (focus (dsimp only [RetAt]; intro e9 g9 h9 tk9 F9 R9 U9; (try dsimp only); (try k_fold))); rotate_left; (focus (dsimp only [RetAt]; intro t9 h9 tk9 F9 N9; (try dsimp only); (try k_sweep); (try k_fold))); rotate_right))); (k_with "own call ref" => (k_here; k_dflt (refine use_calls (by k_asm) (by k_asm) (by k_asm) (by k_asm) (by k_asm) (by first | exact rfl | assumption) (c_isub _ _ _ _ _ _ _ _ (by assumption) (by assumption)) (by ktr_room) (by ktr_units) ?_; dsimp only [resI]; split; (focus (dsimp only [RetAt]; intro e9 g9 h9 tk9 F9 R9 U9; (try dsimp only); (try k_fold))); rotate_left; (focus (dsimp only [RetAt]; intro t9 h9 tk9 F9 N9; (try dsimp only); (try k_sweep); (try k_fold))); rotate_right))); (k_with "own call ref" => (k_here; k_dflt (refine use_calls (by k_asm) (by k_asm) (by k_asm) (by k_asm) (by k_asm) (by first | exact rfl | assumption) (c_idiv _ _ _ _ _ _ _ _ (by assumption) (by assumption) (by assumption) (by assumption)) (by ktr_room) (by ktr_units) ?_; dsimp only [resI]; split; (focus (dsimp only [RetAt]; intro e9 g9 h9 tk9 F9 R9 U9; (try dsimp only); (try k_fold))); rotate_left; (focus (dsimp only [RetAt]; intro t9 h9 tk9 F9 N9; (try dsimp only); (try k_sweep); (try k_fold))); rotate_right)))); w_top off; unfold Calls; k_fill; intro mean mg mb dp un gd cn cs a ccd cl outer A₀ base h₀ L m s Q E B F X N T hk hdp hun hret; refine wpAny_call ?_; k_dflt ktr_enter)
  k_steps
  all_goals first
    | exact ret_raised (retAt_of (resI_none (by assumption)) hret) (by k_asm) (by k_asm) (by assumption) (by first | exact fun _ h => h | exact fun _ h => .tail _ h | exact fun _ h => .tail _ (.tail _ h) | exact fun _ h => .tail _ (.tail _ (.tail _ h)) | exact fun _ h => .tail _ (.tail _ (.tail _ (.tail _ h))) | kcj_all | with_reducible assumption | exact sub2 (by with_reducible assumption) (by with_reducible assumption) | exact sub3 (by with_reducible assumption) (by with_reducible assumption) (by with_reducible assumption))
    | (refine ret_int (retAt_of (resI_some (by assumption)) hret) (by k_asm) (by k_asm) (by first | exact fun _ h => h | exact fun _ h => .tail _ h | exact fun _ h => .tail _ (.tail _ h) | exact fun _ h => .tail _ (.tail _ (.tail _ h)) | exact fun _ h => .tail _ (.tail _ (.tail _ (.tail _ h))) | kcj_all | with_reducible assumption | exact sub2 (by with_reducible assumption) (by with_reducible assumption) | exact sub3 (by with_reducible assumption) (by with_reducible assumption) (by with_reducible assumption)) ?_; (rfl))
theorem c_ib_div (hy : y ≠ 0) (b : Bd y 20) : Calls w 123 6 news [.str "div" a1, .int 0 a2, .int x a3, .int y a4, .ref X] (resI (iDiv x y k)) := by
  ((k_with_none; (k_with "own binaryOp Mult int int" => (k_here; refine mul_int ?_ (mulOk_bd (by (repeat (first | assumption | with_reducible apply bd_abs | with_reducible apply bd_mul | with_reducible apply bd_add | with_reducible apply bd_sub | with_reducible apply bd_neg | with_reducible apply bd_fd | exact bd_pow (by first | omega | (split <;> omega)) | exact bd_lit (by decide)))) (by (repeat (first | assumption | with_reducible apply bd_abs | with_reducible apply bd_mul | with_reducible apply bd_add | with_reducible apply bd_sub | with_reducible apply bd_neg | with_reducible apply bd_fd | exact bd_pow (by first | omega | (split <;> omega)) | exact bd_lit (by decide)))) (by decide) (by decide)); (try dsimp only))); (k_with "own call builtin:divmod" => ((with_reducible show wpAny _ _ (call (Value.builtin _) [Value.int _ _, Value.int _ _]) _ _ _); (first | refine divmod_N (by k_asm) (by k_asm) (pow10Z_ne _) ?_ (Or.inl (noPy_pow (by omega))) | refine divmod_N (by k_asm) (by k_asm) (by first | exact abs_ne (by assumption) | assumption) ?_ (Or.inl (noPy_bd (by (repeat (first | assumption | with_reducible apply bd_abs | with_reducible apply bd_mul | with_reducible apply bd_add | with_reducible apply bd_sub | with_reducible apply bd_neg | with_reducible apply bd_fd | exact bd_pow (by first | omega | (split <;> omega)) | exact bd_lit (by decide)))) (by decide)))); intro _ _ _)); (k_with "own binaryOp Pow int int" => (k_here; refine pow_int_small (by first | omega | (split <;> omega)) (by first | omega | (split <;> omega)) (by first | decide | omega) ?_; (try dsimp only))); (k_with "own binaryOp FloorDiv int int" => (k_here; (first | refine floordiv_int (pow10Z_ne _) ?_ (Or.inl (noPy_pow (by omega))) | refine floordiv_int (by first | exact abs_ne (by assumption) | exact mulpow_ne (by assumption) _ | assumption | omega) ?_ (Or.inl (noPy_bd (by (repeat (first | assumption | with_reducible apply bd_abs | with_reducible apply bd_mul | with_reducible apply bd_add | with_reducible apply bd_sub | with_reducible apply bd_neg | with_reducible apply bd_fd | exact bd_pow (by first | omega | (split <;> omega)) | exact bd_lit (by decide)))) (by decide)))); (try dsimp only))); (k_with "own exec Raise some none" => (k_here; (with_reducible show wpAny _ _ (exec (Stmt.Raise (some (Expr.Call (Expr.Name ("RunFault" : Str) _) _ _ _)) none _) _) _ _ _); refine Raise_rf rfl ?_)); (k_with "own call ref" => (k_here; refine exc_K (by k_asm) (by k_asm) (by k_asm) (by k_asm) (by k_asm) (by first | exact rfl | assumption) (by ktr_room) (by ktr_units) ?_; intro h9 tk9 e9 D9 d9 F9 N9 p9; (try dsimp only); (try k_sweep))); (k_with "own Exists" => (refine raisable_of (by k_asm) (by k_asm) (by k_asm) ?_)); (k_with "own leaving ref" => (k_here; refine leave_own (by assumption) (by k_asm) (by k_asm) (by assumption) rfl rfl rfl rfl ?_; intro h' R' U'; (try dsimp only at R' U' ⊢))); (k_with "own eval Call" => (k_here; (with_reducible show wpAny _ _ (eval (PySem.Expr.Call (PySem.Expr.Name _ _) _ [] _) _) _ _ _); k_dflt (refine Call_ ?_))); (k_with "own call ref" => (k_here; k_dflt (refine use_calls (by k_asm) (by k_asm) (by k_asm) (by k_asm) (by k_asm) (by first | exact rfl | assumption) (c_iadd _ _ _ _ _ _ _ _ (by assumption) (by assumption)) (by ktr_room) (by ktr_units) ?_; dsimp only [resI]; split; (focus (dsimp only [RetAt]; intro e9 g9 h9 tk9 F9 R9 U9; (try dsimp only); (try k_fold))); rotate_left; (focus (dsimp only [RetAt]; intro t9 h9 tk9 F9 N9; (try dsimp only); (try k_sweep); (try k_fold))); rotate_right))); (k_with "own call ref" => (k_here; k_dflt (refine use_calls (by k_asm) (by k_asm) (by k_asm) (by k_asm) (by k_asm) (by first | exact rfl | assumption) (c_isub _ _ _ _ _ _ _ _ (by assumption) (by assumption)) (by ktr_room) (by ktr_units) ?_; dsimp only [resI]; split; (focus (dsimp only [RetAt]; intro e9 g9 h9 tk9 F9 R9 U9; (try dsimp only); (try k_fold))); rotate_left; (focus (dsimp only [RetAt]; intro t9 h9 tk9 F9 N9; (try dsimp only); (try k_sweep); (try k_fold))); rotate_right))); (k_with "own call ref" => (k_here; k_dflt (refine use_calls (by k_asm) (by k_asm) (by k_asm) (by k_asm) (by k_asm) (by first | exact rfl | assumption) (c_idiv _ _ _ _ _ _ _ _ (by assumption) (by assumption) (by assumption) (by assumption)) (by ktr_room) (by ktr_units) ?_; dsimp only [resI]; split; (focus (dsimp only [RetAt]; intro e9 g9 h9 tk9 F9 R9 U9; (try dsimp only); (try k_fold))); rotate_left; (focus (dsimp only [RetAt]; intro t9 h9 tk9 F9 N9; (try dsimp only); (try k_sweep); (try k_fold))); rotate_right)))); w_top off; unfold Calls; k_fill; intro mean mg mb dp un gd cn cs a ccd cl outer A₀ base h₀ L m s Q E B F X N T hk hdp hun hret; refine wpAny_call ?_; k_dflt ktr_enter)
  k_steps
  all_goals first
    | exact ret_raised (retAt_of (resI_none (by assumption)) hret) (by k_asm) (by k_asm) (by assumption) (by first | exact fun _ h => h | exact fun _ h => .tail _ h | exact fun _ h => .tail _ (.tail _ h) | exact fun _ h => .tail _ (.tail _ (.tail _ h)) | exact fun _ h => .tail _ (.tail _ (.tail _ (.tail _ h))) | kcj_all | with_reducible assumption | exact sub2 (by with_reducible assumption) (by with_reducible assumption) | exact sub3 (by with_reducible assumption) (by with_reducible assumption) (by with_reducible assumption))
    | (refine ret_int (retAt_of (resI_some (by assumption)) hret) (by k_asm) (by k_asm) (by first | exact fun _ h => h | exact fun _ h => .tail _ h | exact fun _ h => .tail _ (.tail _ h) | exact fun _ h => .tail _ (.tail _ (.tail _ h)) | exact fun _ h => .tail _ (.tail _ (.tail _ (.tail _ h))) | kcj_all | with_reducible assumption | exact sub2 (by with_reducible assumption) (by with_reducible assumption) | exact sub3 (by with_reducible assumption) (by with_reducible assumption) (by with_reducible assumption)) ?_; (rfl))
end
section
variable (w : World) (k top c d : Int) (t1 t2 t3 t4 a1 : Tok) (u : Nat → Tok) (X D : Addr) (news : List (Addr × Obj)) (hx : (X, instObj 289 D) ∈ news) (hd' : (D, limObj w k top t1 t2 t3 t4 u) ∈ news) (hcd : (c = 1 ∧ d = 3) ∨ (c = 2 ∧ d = 5))
include hx hd' hcd
theorem c_digits : Calls w 250 1 news [.int c a1, .ref X] (.int d) := by
  rcases hcd with ⟨rfl, rfl⟩ | ⟨rfl, rfl⟩
  all_goals (
    ((k_with_none; (k_with "own binaryOp Mult int int" => (k_here; refine mul_int ?_ (mulOk_bd (by (repeat (first | assumption | with_reducible apply bd_abs | with_reducible apply bd_mul | with_reducible apply bd_add | with_reducible apply bd_sub | with_reducible apply bd_neg | with_reducible apply bd_fd | exact bd_pow (by first | omega | (split <;> omega)) | exact bd_lit (by decide)))) (by (repeat (first | assumption | with_reducible apply bd_abs | with_reducible apply bd_mul | with_reducible apply bd_add | with_reducible apply bd_sub | with_reducible apply bd_neg | with_reducible apply bd_fd | exact bd_pow (by first | omega | (split <;> omega)) | exact bd_lit (by decide)))) (by decide) (by decide)); (try dsimp only))); (k_with "own call builtin:divmod" => ((with_reducible show wpAny _ _ (call (Value.builtin _) [Value.int _ _, Value.int _ _]) _ _ _); (first | refine divmod_N (by k_asm) (by k_asm) (pow10Z_ne _) ?_ (Or.inl (noPy_pow (by omega))) | refine divmod_N (by k_asm) (by k_asm) (by first | exact abs_ne (by assumption) | assumption) ?_ (Or.inl (noPy_bd (by (repeat (first | assumption | with_reducible apply bd_abs | with_reducible apply bd_mul | with_reducible apply bd_add | with_reducible apply bd_sub | with_reducible apply bd_neg | with_reducible apply bd_fd | exact bd_pow (by first | omega | (split <;> omega)) | exact bd_lit (by decide)))) (by decide)))); intro _ _ _)); (k_with "own binaryOp Pow int int" => (k_here; refine pow_int_small (by first | omega | (split <;> omega)) (by first | omega | (split <;> omega)) (by first | decide | omega) ?_; (try dsimp only))); (k_with "own binaryOp FloorDiv int int" => (k_here; (first | refine floordiv_int (pow10Z_ne _) ?_ (Or.inl (noPy_pow (by omega))) | refine floordiv_int (by first | exact abs_ne (by assumption) | exact mulpow_ne (by assumption) _ | assumption | omega) ?_ (Or.inl (noPy_bd (by (repeat (first | assumption | with_reducible apply bd_abs | with_reducible apply bd_mul | with_reducible apply bd_add | with_reducible apply bd_sub | with_reducible apply bd_neg | with_reducible apply bd_fd | exact bd_pow (by first | omega | (split <;> omega)) | exact bd_lit (by decide)))) (by decide)))); (try dsimp only))); (k_with "own exec Raise some none" => (k_here; (with_reducible show wpAny _ _ (exec (Stmt.Raise (some (Expr.Call (Expr.Name ("RunFault" : Str) _) _ _ _)) none _) _) _ _ _); refine Raise_rf rfl ?_)); (k_with "own call ref" => (k_here; refine exc_K (by k_asm) (by k_asm) (by k_asm) (by k_asm) (by k_asm) (by first | exact rfl | assumption) (by ktr_room) (by ktr_units) ?_; intro h9 tk9 e9 D9 d9 F9 N9 p9; (try dsimp only); (try k_sweep))); (k_with "own Exists" => (refine raisable_of (by k_asm) (by k_asm) (by k_asm) ?_)); (k_with "own leaving ref" => (k_here; refine leave_own (by assumption) (by k_asm) (by k_asm) (by assumption) rfl rfl rfl rfl ?_; intro h' R' U'; (try dsimp only at R' U' ⊢))); (k_with "own eval Call" => (k_here; (with_reducible show wpAny _ _ (eval (PySem.Expr.Call (PySem.Expr.Name _ _) _ [] _) _) _ _ _); k_dflt (refine Call_ ?_))); (k_with "own call ref" => (k_here; k_dflt (refine use_calls (by k_asm) (by k_asm) (by k_asm) (by k_asm) (by k_asm) (by first | exact rfl | assumption) (c_iadd _ _ _ _ _ _ _ _ (by assumption) (by assumption)) (by ktr_room) (by ktr_units) ?_; dsimp only [resI]; split; (focus (dsimp only [RetAt]; intro e9 g9 h9 tk9 F9 R9 U9; (try dsimp only); (try k_fold))); rotate_left; (focus (dsimp only [RetAt]; intro t9 h9 tk9 F9 N9; (try dsimp only); (try k_sweep); (try k_fold))); rotate_right))); (k_with "own call ref" => (k_here; k_dflt (refine use_calls (by k_asm) (by k_asm) (by k_asm) (by k_asm) (by k_asm) (by first | exact rfl | assumption) (c_isub _ _ _ _ _ _ _ _ (by assumption) (by assumption)) (by ktr_room) (by ktr_units) ?_; dsimp only [resI]; split; (focus (dsimp only [RetAt]; intro e9 g9 h9 tk9 F9 R9 U9; (try dsimp only); (try k_fold))); rotate_left; (focus (dsimp only [RetAt]; intro t9 h9 tk9 F9 N9; (try dsimp only); (try k_sweep); (try k_fold))); rotate_right))); (k_with "own call ref" => (k_here; k_dflt (refine use_calls (by k_asm) (by k_asm) (by k_asm) (by k_asm) (by k_asm) (by first | exact rfl | assumption) (c_idiv _ _ _ _ _ _ _ _ (by assumption) (by assumption) (by assumption) (by assumption)) (by ktr_room) (by ktr_units) ?_; dsimp only [resI]; split; (focus (dsimp only [RetAt]; intro e9 g9 h9 tk9 F9 R9 U9; (try dsimp only); (try k_fold))); rotate_left; (focus (dsimp only [RetAt]; intro t9 h9 tk9 F9 N9; (try dsimp only); (try k_sweep); (try k_fold))); rotate_right)))); w_top off; unfold Calls; k_fill; intro mean mg mb dp un gd cn cs a ccd cl outer A₀ base h₀ L m s Q E B F X N T hk hdp hun hret; refine wpAny_call ?_; k_dflt ktr_enter)
    k_steps
    all_goals (refine ret_int (hret) (by k_asm) (by k_asm) (by first | exact fun _ h => h | exact fun _ h => .tail _ h | exact fun _ h => .tail _ (.tail _ h) | exact fun _ h => .tail _ (.tail _ (.tail _ h)) | exact fun _ h => .tail _ (.tail _ (.tail _ (.tail _ h))) | kcj_all | with_reducible assumption | exact sub2 (by with_reducible assumption) (by with_reducible assumption) | exact sub3 (by with_reducible assumption) (by with_reducible assumption) (by with_reducible assumption)) ?_; (rfl)))
end




section
variable (w : World) (x1 x2 y1 y2 k top c d : Int) (V W : Value) (t1 t2 t3 t4 a1 a2 : Tok) (u : Nat → Tok) (X D : Addr) (news : List (Addr × Obj)) (hx : (X, instObj 289 D) ∈ news) (hd' : (D, limObj w k top t1 t2 t3 t4 u) ∈ news) (hcd : (c = 1 ∧ d = 3) ∨ (c = 2 ∧ d = 5)) (hV : PairV news V x1 x2) (hW : PairV news W y1 y2)
include hx hd' hcd hV hW
theorem c_rb_add (b1 : x2 - y2 ≤ 1000) (b2 : y2 - x2 ≤ 1000) (m1 : Bd x1 20) (m2 : Bd y1 20) : Calls w 257 7 news [.str "add" a1, .int c a2, V, W, .ref X] (resP (rAdd x1 x2 y1 y2 d top)) := by
  rcases hcd with ⟨rfl, rfl⟩ | ⟨rfl, rfl⟩
  all_goals (
    ((k_with_none; (k_with "own binaryOp Mult int int" => (k_here; refine mul_int ?_ (mulOk_bd (by (repeat (first | assumption | with_reducible apply bd_abs | with_reducible apply bd_mul | with_reducible apply bd_add | with_reducible apply bd_sub | with_reducible apply bd_neg | with_reducible apply bd_fd | exact bd_pow (by first | omega | (split <;> omega)) | exact bd_lit (by decide)))) (by (repeat (first | assumption | with_reducible apply bd_abs | with_reducible apply bd_mul | with_reducible apply bd_add | with_reducible apply bd_sub | with_reducible apply bd_neg | with_reducible apply bd_fd | exact bd_pow (by first | omega | (split <;> omega)) | exact bd_lit (by decide)))) (by decide) (by decide)); (try dsimp only))); (k_with "own call builtin:divmod" => ((with_reducible show wpAny _ _ (call (Value.builtin _) [Value.int _ _, Value.int _ _]) _ _ _); (first | refine divmod_N (by k_asm) (by k_asm) (pow10Z_ne _) ?_ (Or.inl (noPy_pow (by omega))) | refine divmod_N (by k_asm) (by k_asm) (by first | exact abs_ne (by assumption) | assumption) ?_ (Or.inl (noPy_bd (by (repeat (first | assumption | with_reducible apply bd_abs | with_reducible apply bd_mul | with_reducible apply bd_add | with_reducible apply bd_sub | with_reducible apply bd_neg | with_reducible apply bd_fd | exact bd_pow (by first | omega | (split <;> omega)) | exact bd_lit (by decide)))) (by decide)))); intro _ _ _)); (k_with "own binaryOp Pow int int" => (k_here; refine pow_int_small (by first | omega | (split <;> omega)) (by first | omega | (split <;> omega)) (by first | decide | omega) ?_; (try dsimp only))); (k_with "own binaryOp FloorDiv int int" => (k_here; (first | refine floordiv_int (pow10Z_ne _) ?_ (Or.inl (noPy_pow (by omega))) | refine floordiv_int (by first | exact abs_ne (by assumption) | exact mulpow_ne (by assumption) _ | assumption | omega) ?_ (Or.inl (noPy_bd (by (repeat (first | assumption | with_reducible apply bd_abs | with_reducible apply bd_mul | with_reducible apply bd_add | with_reducible apply bd_sub | with_reducible apply bd_neg | with_reducible apply bd_fd | exact bd_pow (by first | omega | (split <;> omega)) | exact bd_lit (by decide)))) (by decide)))); (try dsimp only))); (k_with "own exec Raise some none" => (k_here; (with_reducible show wpAny _ _ (exec (Stmt.Raise (some (Expr.Call (Expr.Name ("RunFault" : Str) _) _ _ _)) none _) _) _ _ _); refine Raise_rf rfl ?_)); (k_with "own call ref" => (k_here; refine exc_K (by k_asm) (by k_asm) (by k_asm) (by k_asm) (by k_asm) (by first | exact rfl | assumption) (by ktr_room) (by ktr_units) ?_; intro h9 tk9 e9 D9 d9 F9 N9 p9; (try dsimp only); (try k_sweep))); (k_with "own Exists" => (refine raisable_of (by k_asm) (by k_asm) (by k_asm) ?_)); (k_with "own leaving ref" => (k_here; refine leave_own (by assumption) (by k_asm) (by k_asm) (by assumption) rfl rfl rfl rfl ?_; intro h' R' U'; (try dsimp only at R' U' ⊢))); (k_with "own eval Call" => (k_here; (with_reducible show wpAny _ _ (eval (PySem.Expr.Call (PySem.Expr.Name _ _) _ [] _) _) _ _ _); k_dflt (refine Call_ ?_))); (k_with "own call ref" => (k_here; k_dflt (refine use_calls (by k_asm) (by k_asm) (by k_asm) (by k_asm) (by k_asm) (by first | exact rfl | assumption) (c_iadd _ _ _ _ _ _ _ _ (by assumption) (by assumption)) (by ktr_room) (by ktr_units) ?_; dsimp only [resI]; split; (focus (dsimp only [RetAt]; intro e9 g9 h9 tk9 F9 R9 U9; (try dsimp only); (try k_fold))); rotate_left; (focus (dsimp only [RetAt]; intro t9 h9 tk9 F9 N9; (try dsimp only); (try k_sweep); (try k_fold))); rotate_right))); (k_with "own call ref" => (k_here; k_dflt (refine use_calls (by k_asm) (by k_asm) (by k_asm) (by k_asm) (by k_asm) (by first | exact rfl | assumption) (c_isub _ _ _ _ _ _ _ _ (by assumption) (by assumption)) (by ktr_room) (by ktr_units) ?_; dsimp only [resI]; split; (focus (dsimp only [RetAt]; intro e9 g9 h9 tk9 F9 R9 U9; (try dsimp only); (try k_fold))); rotate_left; (focus (dsimp only [RetAt]; intro t9 h9 tk9 F9 N9; (try dsimp only); (try k_sweep); (try k_fold))); rotate_right))); (k_with "own call ref" => (k_here; k_dflt (refine use_calls (by k_asm) (by k_asm) (by k_asm) (by k_asm) (by k_asm) (by first | exact rfl | assumption) (c_idiv _ _ _ _ _ _ _ _ (by assumption) (by assumption) (by assumption) (by assumption)) (by ktr_room) (by ktr_units) ?_; dsimp only [resI]; split; (focus (dsimp only [RetAt]; intro e9 g9 h9 tk9 F9 R9 U9; (try dsimp only); (try k_fold))); rotate_left; (focus (dsimp only [RetAt]; intro t9 h9 tk9 F9 N9; (try dsimp only); (try k_sweep); (try k_fold))); rotate_right))); (k_with "own call ref" => (k_here; k_dflt (refine use_calls (by k_asm) (by k_asm) (by k_asm) (by k_asm) (by k_asm) (by first | exact rfl | assumption) (c_digits _ _ _ _ _ _ _ _ _ _ _ _ _ _ (by assumption) (by assumption) (by first | exact Or.inl ⟨rfl, rfl⟩ | exact Or.inr ⟨rfl, rfl⟩)) (by ktr_room) (by ktr_units) ?_; dsimp only [RetAt]; intro t9 h9 tk9 F9 N9; (try dsimp only); (try k_sweep); (try k_fold)))); (k_with "own call ref" => (k_here; k_dflt (refine use_calls (by k_asm) (by k_asm) (by k_asm) (by k_asm) (by k_asm) (by first | exact rfl | assumption) (c_radd _ _ _ _ _ _ _ _ _ _ _ _ (by first | assumption | exact .new (by k_mem) | exact PairV.up (by assumption) | exact PairV.up (PairV.up (by assumption)) | exact PairV.up (PairV.up (PairV.up (by assumption)))) (by first | assumption | exact .new (by k_mem) | exact PairV.up (by assumption) | exact PairV.up (PairV.up (by assumption)) | exact PairV.up (PairV.up (PairV.up (by assumption)))) (by assumption) (by assumption) (by assumption) (by assumption) (by first | assumption | decide)) (by ktr_room) (by ktr_units) ?_; dsimp only [resP]; split; (focus (dsimp only [RetAt]; intro e9 g9 h9 tk9 F9 R9 U9; (try dsimp only); (try k_fold))); rotate_left; dsimp only [RetAt]; (refine And.intro ?_ ?_); (focus (intro D9 t9 u9 c9 h9 tk9 F9 N9 l9; (try simp only [AllLt, and_true] at l9); (try dsimp only); (try k_sweep); (try k_fold))); rotate_left; (focus (intro e8 e9 h9 tk9 F9 N9; (try dsimp only); (try k_sweep); (try k_fold))); rotate_right))); (k_with "own call ref" => (k_here; k_dflt (refine use_calls (by k_asm) (by k_asm) (by k_asm) (by k_asm) (by k_asm) (by first | exact rfl | assumption) (c_rsub _ _ _ _ _ _ _ _ _ _ _ _ (by first | assumption | exact .new (by k_mem) | exact PairV.up (by assumption) | exact PairV.up (PairV.up (by assumption)) | exact PairV.up (PairV.up (PairV.up (by assumption)))) (by first | assumption | exact .new (by k_mem) | exact PairV.up (by assumption) | exact PairV.up (PairV.up (by assumption)) | exact PairV.up (PairV.up (PairV.up (by assumption)))) (by assumption) (by assumption) (by assumption) (by assumption) (by first | assumption | decide)) (by ktr_room) (by ktr_units) ?_; dsimp only [resP]; split; (focus (dsimp only [RetAt]; intro e9 g9 h9 tk9 F9 R9 U9; (try dsimp only); (try k_fold))); rotate_left; dsimp only [RetAt]; (refine And.intro ?_ ?_); (focus (intro D9 t9 u9 c9 h9 tk9 F9 N9 l9; (try simp only [AllLt, and_true] at l9); (try dsimp only); (try k_sweep); (try k_fold))); rotate_left; (focus (intro e8 e9 h9 tk9 F9 N9; (try dsimp only); (try k_sweep); (try k_fold))); rotate_right))); (k_with "own call ref" => (k_here; k_dflt (refine use_calls (by k_asm) (by k_asm) (by k_asm) (by k_asm) (by k_asm) (by first | exact rfl | assumption) (c_rdiv _ _ _ _ _ _ _ _ _ _ _ _ (by first | assumption | exact .new (by k_mem) | exact PairV.up (by assumption) | exact PairV.up (PairV.up (by assumption)) | exact PairV.up (PairV.up (PairV.up (by assumption)))) (by first | assumption | exact .new (by k_mem) | exact PairV.up (by assumption) | exact PairV.up (PairV.up (by assumption)) | exact PairV.up (PairV.up (PairV.up (by assumption)))) (by assumption) (by assumption) (by assumption) (by first | assumption | decide) (by first | assumption | decide)) (by ktr_room) (by ktr_units) ?_; dsimp only [resP]; split; (focus (dsimp only [RetAt]; intro e9 g9 h9 tk9 F9 R9 U9; (try dsimp only); (try k_fold))); rotate_left; dsimp only [RetAt]; (refine And.intro ?_ ?_); (focus (intro D9 t9 u9 c9 h9 tk9 F9 N9 l9; (try simp only [AllLt, and_true] at l9); (try dsimp only); (try k_sweep); (try k_fold))); rotate_left; (focus (intro e8 e9 h9 tk9 F9 N9; (try dsimp only); (try k_sweep); (try k_fold))); rotate_right)))); w_top off; unfold Calls; k_fill; intro mean mg mb dp un gd cn cs a ccd cl outer A₀ base h₀ L m s Q E B F X N T hk hdp hun hret; refine wpAny_call ?_; k_dflt ktr_enter)
    k_steps
    all_goals first
      | (refine ret_old ((retAt_of (resP_some (by assumption)) hret).2) (by k_asm) (by k_asm) (by first | exact fun _ h => h | exact fun _ h => .tail _ h | exact fun _ h => .tail _ (.tail _ h) | exact fun _ h => .tail _ (.tail _ (.tail _ h)) | exact fun _ h => .tail _ (.tail _ (.tail _ (.tail _ h))) | kcj_all | with_reducible assumption | exact sub2 (by with_reducible assumption) (by with_reducible assumption) | exact sub3 (by with_reducible assumption) (by with_reducible assumption) (by with_reducible assumption)) ?_ ?_; (focus (assumption)); (focus (assumption)))
      | exact ret_raised (retAt_of (resP_none (by assumption)) hret) (by k_asm) (by k_asm) (by assumption) (by first | exact fun _ h => h | exact fun _ h => .tail _ h | exact fun _ h => .tail _ (.tail _ h) | exact fun _ h => .tail _ (.tail _ (.tail _ h)) | exact fun _ h => .tail _ (.tail _ (.tail _ (.tail _ h))) | kcj_all | with_reducible assumption | exact sub2 (by with_reducible assumption) (by with_reducible assumption) | exact sub3 (by with_reducible assumption) (by with_reducible assumption) (by with_reducible assumption))
      | (refine ret_new ((retAt_of (resP_some (by assumption)) hret).1) (by k_asm) (by first | exact ⟨by k_asm, .head _⟩ | kcu_news) (by first | exact fun _ h => h | exact fun _ h => .tail _ h | exact fun _ h => .tail _ (.tail _ h) | exact fun _ h => .tail _ (.tail _ (.tail _ h)) | exact fun _ h => .tail _ (.tail _ (.tail _ (.tail _ h))) | kcj_all | with_reducible assumption | exact sub2 (by with_reducible assumption) (by with_reducible assumption) | exact sub3 (by with_reducible assumption) (by with_reducible assumption) (by with_reducible assumption)) (by first | with_reducible assumption | exact And.right (by with_reducible assumption) | exact And.right (And.right (by with_reducible assumption)) | exact And.right (And.right (And.right (by with_reducible assumption))) | kcu_lt) ?_ ?_; (focus (rfl)); (focus (rfl))))
theorem c_rb_sub (b1 : x2 - y2 ≤ 1000) (b2 : y2 - x2 ≤ 1000) (m1 : Bd x1 20) (m2 : Bd y1 20) : Calls w 257 7 news [.str "sub" a1, .int c a2, V, W, .ref X] (resP (rSub x1 x2 y1 y2 d top)) := by
  rcases hcd with ⟨rfl, rfl⟩ | ⟨rfl, rfl⟩
  all_goals (
    ((k_with_none; (k_with "own binaryOp Mult int int" => (k_here; refine mul_int ?_ (mulOk_bd (by (repeat (first | assumption | with_reducible apply bd_abs | with_reducible apply bd_mul | with_reducible apply bd_add | with_reducible apply bd_sub | with_reducible apply bd_neg | with_reducible apply bd_fd | exact bd_pow (by first | omega | (split <;> omega)) | exact bd_lit (by decide)))) (by (repeat (first | assumption | with_reducible apply bd_abs | with_reducible apply bd_mul | with_reducible apply bd_add | with_reducible apply bd_sub | with_reducible apply bd_neg | with_reducible apply bd_fd | exact bd_pow (by first | omega | (split <;> omega)) | exact bd_lit (by decide)))) (by decide) (by decide)); (try dsimp only))); (k_with "own call builtin:divmod" => ((with_reducible show wpAny _ _ (call (Value.builtin _) [Value.int _ _, Value.int _ _]) _ _ _); (first | refine divmod_N (by k_asm) (by k_asm) (pow10Z_ne _) ?_ (Or.inl (noPy_pow (by omega))) | refine divmod_N (by k_asm) (by k_asm) (by first | exact abs_ne (by assumption) | assumption) ?_ (Or.inl (noPy_bd (by (repeat (first | assumption | with_reducible apply bd_abs | with_reducible apply bd_mul | with_reducible apply bd_add | with_reducible apply bd_sub | with_reducible apply bd_neg | with_reducible apply bd_fd | exact bd_pow (by first | omega | (split <;> omega)) | exact bd_lit (by decide)))) (by decide)))); intro _ _ _)); (k_with "own binaryOp Pow int int" => (k_here; refine pow_int_small (by first | omega | (split <;> omega)) (by first | omega | (split <;> omega)) (by first | decide | omega) ?_; (try dsimp only))); (k_with "own binaryOp FloorDiv int int" => (k_here; (first | refine floordiv_int (pow10Z_ne _) ?_ (Or.inl (noPy_pow (by omega))) | refine floordiv_int (by first | exact abs_ne (by assumption) | exact mulpow_ne (by assumption) _ | assumption | omega) ?_ (Or.inl (noPy_bd (by (repeat (first | assumption | with_reducible apply bd_abs | with_reducible apply bd_mul | with_reducible apply bd_add | with_reducible apply bd_sub | with_reducible apply bd_neg | with_reducible apply bd_fd | exact bd_pow (by first | omega | (split <;> omega)) | exact bd_lit (by decide)))) (by decide)))); (try dsimp only))); (k_with "own exec Raise some none" => (k_here; (with_reducible show wpAny _ _ (exec (Stmt.Raise (some (Expr.Call (Expr.Name ("RunFault" : Str) _) _ _ _)) none _) _) _ _ _); refine Raise_rf rfl ?_)); (k_with "own call ref" => (k_here; refine exc_K (by k_asm) (by k_asm) (by k_asm) (by k_asm) (by k_asm) (by first | exact rfl | assumption) (by ktr_room) (by ktr_units) ?_; intro h9 tk9 e9 D9 d9 F9 N9 p9; (try dsimp only); (try k_sweep))); (k_with "own Exists" => (refine raisable_of (by k_asm) (by k_asm) (by k_asm) ?_)); (k_with "own leaving ref" => (k_here; refine leave_own (by assumption) (by k_asm) (by k_asm) (by assumption) rfl rfl rfl rfl ?_; intro h' R' U'; (try dsimp only at R' U' ⊢))); (k_with "own eval Call" => (k_here; (with_reducible show wpAny _ _ (eval (PySem.Expr.Call (PySem.Expr.Name _ _) _ [] _) _) _ _ _); k_dflt (refine Call_ ?_))); (k_with "own call ref" => (k_here; k_dflt (refine use_calls (by k_asm) (by k_asm) (by k_asm) (by k_asm) (by k_asm) (by first | exact rfl | assumption) (c_iadd _ _ _ _ _ _ _ _ (by assumption) (by assumption)) (by ktr_room) (by ktr_units) ?_; dsimp only [resI]; split; (focus (dsimp only [RetAt]; intro e9 g9 h9 tk9 F9 R9 U9; (try dsimp only); (try k_fold))); rotate_left; (focus (dsimp only [RetAt]; intro t9 h9 tk9 F9 N9; (try dsimp only); (try k_sweep); (try k_fold))); rotate_right))); (k_with "own call ref" => (k_here; k_dflt (refine use_calls (by k_asm) (by k_asm) (by k_asm) (by k_asm) (by k_asm) (by first | exact rfl | assumption) (c_isub _ _ _ _ _ _ _ _ (by assumption) (by assumption)) (by ktr_room) (by ktr_units) ?_; dsimp only [resI]; split; (focus (dsimp only [RetAt]; intro e9 g9 h9 tk9 F9 R9 U9; (try dsimp only); (try k_fold))); rotate_left; (focus (dsimp only [RetAt]; intro t9 h9 tk9 F9 N9; (try dsimp only); (try k_sweep); (try k_fold))); rotate_right))); (k_with "own call ref" => (k_here; k_dflt (refine use_calls (by k_asm) (by k_asm) (by k_asm) (by k_asm) (by k_asm) (by first | exact rfl | assumption) (c_idiv _ _ _ _ _ _ _ _ (by assumption) (by assumption) (by assumption) (by assumption)) (by ktr_room) (by ktr_units) ?_; dsimp only [resI]; split; (focus (dsimp only [RetAt]; intro e9 g9 h9 tk9 F9 R9 U9; (try dsimp only); (try k_fold))); rotate_left; (focus (dsimp only [RetAt]; intro t9 h9 tk9 F9 N9; (try dsimp only); (try k_sweep); (try k_fold))); rotate_right))); (k_with "own call ref" => (k_here; k_dflt (refine use_calls (by k_asm) (by k_asm) (by k_asm) (by k_asm) (by k_asm) (by first | exact rfl | assumption) (c_digits _ _ _ _ _ _ _ _ _ _ _ _ _ _ (by assumption) (by assumption) (by first | exact Or.inl ⟨rfl, rfl⟩ | exact Or.inr ⟨rfl, rfl⟩)) (by ktr_room) (by ktr_units) ?_; dsimp only [RetAt]; intro t9 h9 tk9 F9 N9; (try dsimp only); (try k_sweep); (try k_fold)))); (k_with "own call ref" => (k_here; k_dflt (refine use_calls (by k_asm) (by k_asm) (by k_asm) (by k_asm) (by k_asm) (by first | exact rfl | assumption) (c_radd _ _ _ _ _ _ _ _ _ _ _ _ (by first | assumption | exact .new (by k_mem) | exact PairV.up (by assumption) | exact PairV.up (PairV.up (by assumption)) | exact PairV.up (PairV.up (PairV.up (by assumption)))) (by first | assumption | exact .new (by k_mem) | exact PairV.up (by assumption) | exact PairV.up (PairV.up (by assumption)) | exact PairV.up (PairV.up (PairV.up (by assumption)))) (by assumption) (by assumption) (by assumption) (by assumption) (by first | assumption | decide)) (by ktr_room) (by ktr_units) ?_; dsimp only [resP]; split; (focus (dsimp only [RetAt]; intro e9 g9 h9 tk9 F9 R9 U9; (try dsimp only); (try k_fold))); rotate_left; dsimp only [RetAt]; (refine And.intro ?_ ?_); (focus (intro D9 t9 u9 c9 h9 tk9 F9 N9 l9; (try simp only [AllLt, and_true] at l9); (try dsimp only); (try k_sweep); (try k_fold))); rotate_left; (focus (intro e8 e9 h9 tk9 F9 N9; (try dsimp only); (try k_sweep); (try k_fold))); rotate_right))); (k_with "own call ref" => (k_here; k_dflt (refine use_calls (by k_asm) (by k_asm) (by k_asm) (by k_asm) (by k_asm) (by first | exact rfl | assumption) (c_rsub _ _ _ _ _ _ _ _ _ _ _ _ (by first | assumption | exact .new (by k_mem) | exact PairV.up (by assumption) | exact PairV.up (PairV.up (by assumption)) | exact PairV.up (PairV.up (PairV.up (by assumption)))) (by first | assumption | exact .new (by k_mem) | exact PairV.up (by assumption) | exact PairV.up (PairV.up (by assumption)) | exact PairV.up (PairV.up (PairV.up (by assumption)))) (by assumption) (by assumption) (by assumption) (by assumption) (by first | assumption | decide)) (by ktr_room) (by ktr_units) ?_; dsimp only [resP]; split; (focus (dsimp only [RetAt]; intro e9 g9 h9 tk9 F9 R9 U9; (try dsimp only); (try k_fold))); rotate_left; dsimp only [RetAt]; (refine And.intro ?_ ?_); (focus (intro D9 t9 u9 c9 h9 tk9 F9 N9 l9; (try simp only [AllLt, and_true] at l9); (try dsimp only); (try k_sweep); (try k_fold))); rotate_left; (focus (intro e8 e9 h9 tk9 F9 N9; (try dsimp only); (try k_sweep); (try k_fold))); rotate_right))); (k_with "own call ref" => (k_here; k_dflt (refine use_calls (by k_asm) (by k_asm) (by k_asm) (by k_asm) (by k_asm) (by first | exact rfl | assumption) (c_rdiv _ _ _ _ _ _ _ _ _ _ _ _ (by first | assumption | exact .new (by k_mem) | exact PairV.up (by assumption) | exact PairV.up (PairV.up (by assumption)) | exact PairV.up (PairV.up (PairV.up (by assumption)))) (by first | assumption | exact .new (by k_mem) | exact PairV.up (by assumption) | exact PairV.up (PairV.up (by assumption)) | exact PairV.up (PairV.up (PairV.up (by assumption)))) (by assumption) (by assumption) (by assumption) (by first | assumption | decide) (by first | assumption | decide)) (by ktr_room) (by ktr_units) ?_; dsimp only [resP]; split; (focus (dsimp only [RetAt]; intro e9 g9 h9 tk9 F9 R9 U9; (try dsimp only); (try k_fold))); rotate_left; dsimp only [RetAt]; (refine And.intro ?_ ?_); (focus (intro D9 t9 u9 c9 h9 tk9 F9 N9 l9; (try simp only [AllLt, and_true] at l9); (try dsimp only); (try k_sweep); (try k_fold))); rotate_left; (focus (intro e8 e9 h9 tk9 F9 N9; (try dsimp only); (try k_sweep); (try k_fold))); rotate_right)))); w_top off; unfold Calls; k_fill; intro mean mg mb dp un gd cn cs a ccd cl outer A₀ base h₀ L m s Q E B F X N T hk hdp hun hret; refine wpAny_call ?_; k_dflt ktr_enter)
    k_steps
    all_goals first
      | (refine ret_old ((retAt_of (resP_some (by assumption)) hret).2) (by k_asm) (by k_asm) (by first | exact fun _ h => h | exact fun _ h => .tail _ h | exact fun _ h => .tail _ (.tail _ h) | exact fun _ h => .tail _ (.tail _ (.tail _ h)) | exact fun _ h => .tail _ (.tail _ (.tail _ (.tail _ h))) | kcj_all | with_reducible assumption | exact sub2 (by with_reducible assumption) (by with_reducible assumption) | exact sub3 (by with_reducible assumption) (by with_reducible assumption) (by with_reducible assumption)) ?_ ?_; (focus (assumption)); (focus (assumption)))
      | exact ret_raised (retAt_of (resP_none (by assumption)) hret) (by k_asm) (by k_asm) (by assumption) (by first | exact fun _ h => h | exact fun _ h => .tail _ h | exact fun _ h => .tail _ (.tail _ h) | exact fun _ h => .tail _ (.tail _ (.tail _ h)) | exact fun _ h => .tail _ (.tail _ (.tail _ (.tail _ h))) | kcj_all | with_reducible assumption | exact sub2 (by with_reducible assumption) (by with_reducible assumption) | exact sub3 (by with_reducible assumption) (by with_reducible assumption) (by with_reducible assumption))
      | (refine ret_new ((retAt_of (resP_some (by assumption)) hret).1) (by k_asm) (by first | exact ⟨by k_asm, .head _⟩ | kcu_news) (by first | exact fun _ h => h | exact fun _ h => .tail _ h | exact fun _ h => .tail _ (.tail _ h) | exact fun _ h => .tail _ (.tail _ (.tail _ h)) | exact fun _ h => .tail _ (.tail _ (.tail _ (.tail _ h))) | kcj_all | with_reducible assumption | exact sub2 (by with_reducible assumption) (by with_reducible assumption) | exact sub3 (by with_reducible assumption) (by with_reducible assumption) (by with_reducible assumption)) (by first | with_reducible assumption | exact And.right (by with_reducible assumption) | exact And.right (And.right (by with_reducible assumption)) | exact And.right (And.right (And.right (by with_reducible assumption))) | kcu_lt) ?_ ?_; (focus (rfl)); (focus (rfl))))
theorem c_rb_div (m1 : Bd x1 20) (m2 : Bd y1 20) (hu : y1 ≠ 0) : Calls w 257 7 news [.str "div" a1, .int c a2, V, W, .ref X] (resP (rDiv x1 x2 y1 y2 d top)) := by
  rcases hcd with ⟨rfl, rfl⟩ | ⟨rfl, rfl⟩
  all_goals (
    ((k_with_none; (k_with "own binaryOp Mult int int" => (k_here; refine mul_int ?_ (mulOk_bd (by (repeat (first | assumption | with_reducible apply bd_abs | with_reducible apply bd_mul | with_reducible apply bd_add | with_reducible apply bd_sub | with_reducible apply bd_neg | with_reducible apply bd_fd | exact bd_pow (by first | omega | (split <;> omega)) | exact bd_lit (by decide)))) (by (repeat (first | assumption | with_reducible apply bd_abs | with_reducible apply bd_mul | with_reducible apply bd_add | with_reducible apply bd_sub | with_reducible apply bd_neg | with_reducible apply bd_fd | exact bd_pow (by first | omega | (split <;> omega)) | exact bd_lit (by decide)))) (by decide) (by decide)); (try dsimp only))); (k_with "own call builtin:divmod" => ((with_reducible show wpAny _ _ (call (Value.builtin _) [Value.int _ _, Value.int _ _]) _ _ _); (first | refine divmod_N (by k_asm) (by k_asm) (pow10Z_ne _) ?_ (Or.inl (noPy_pow (by omega))) | refine divmod_N (by k_asm) (by k_asm) (by first | exact abs_ne (by assumption) | assumption) ?_ (Or.inl (noPy_bd (by (repeat (first | assumption | with_reducible apply bd_abs | with_reducible apply bd_mul | with_reducible apply bd_add | with_reducible apply bd_sub | with_reducible apply bd_neg | with_reducible apply bd_fd | exact bd_pow (by first | omega | (split <;> omega)) | exact bd_lit (by decide)))) (by decide)))); intro _ _ _)); (k_with "own binaryOp Pow int int" => (k_here; refine pow_int_small (by first | omega | (split <;> omega)) (by first | omega | (split <;> omega)) (by first | decide | omega) ?_; (try dsimp only))); (k_with "own binaryOp FloorDiv int int" => (k_here; (first | refine floordiv_int (pow10Z_ne _) ?_ (Or.inl (noPy_pow (by omega))) | refine floordiv_int (by first | exact abs_ne (by assumption) | exact mulpow_ne (by assumption) _ | assumption | omega) ?_ (Or.inl (noPy_bd (by (repeat (first | assumption | with_reducible apply bd_abs | with_reducible apply bd_mul | with_reducible apply bd_add | with_reducible apply bd_sub | with_reducible apply bd_neg | with_reducible apply bd_fd | exact bd_pow (by first | omega | (split <;> omega)) | exact bd_lit (by decide)))) (by decide)))); (try dsimp only))); (k_with "own exec Raise some none" => (k_here; (with_reducible show wpAny _ _ (exec (Stmt.Raise (some (Expr.Call (Expr.Name ("RunFault" : Str) _) _ _ _)) none _) _) _ _ _); refine Raise_rf rfl ?_)); (k_with "own call ref" => (k_here; refine exc_K (by k_asm) (by k_asm) (by k_asm) (by k_asm) (by k_asm) (by first | exact rfl | assumption) (by ktr_room) (by ktr_units) ?_; intro h9 tk9 e9 D9 d9 F9 N9 p9; (try dsimp only); (try k_sweep))); (k_with "own Exists" => (refine raisable_of (by k_asm) (by k_asm) (by k_asm) ?_)); (k_with "own leaving ref" => (k_here; refine leave_own (by assumption) (by k_asm) (by k_asm) (by assumption) rfl rfl rfl rfl ?_; intro h' R' U'; (try dsimp only at R' U' ⊢))); (k_with "own eval Call" => (k_here; (with_reducible show wpAny _ _ (eval (PySem.Expr.Call (PySem.Expr.Name _ _) _ [] _) _) _ _ _); k_dflt (refine Call_ ?_))); (k_with "own call ref" => (k_here; k_dflt (refine use_calls (by k_asm) (by k_asm) (by k_asm) (by k_asm) (by k_asm) (by first | exact rfl | assumption) (c_iadd _ _ _ _ _ _ _ _ (by assumption) (by assumption)) (by ktr_room) (by ktr_units) ?_; dsimp only [resI]; split; (focus (dsimp only [RetAt]; intro e9 g9 h9 tk9 F9 R9 U9; (try dsimp only); (try k_fold))); rotate_left; (focus (dsimp only [RetAt]; intro t9 h9 tk9 F9 N9; (try dsimp only); (try k_sweep); (try k_fold))); rotate_right))); (k_with "own call ref" => (k_here; k_dflt (refine use_calls (by k_asm) (by k_asm) (by k_asm) (by k_asm) (by k_asm) (by first | exact rfl | assumption) (c_isub _ _ _ _ _ _ _ _ (by assumption) (by assumption)) (by ktr_room) (by ktr_units) ?_; dsimp only [resI]; split; (focus (dsimp only [RetAt]; intro e9 g9 h9 tk9 F9 R9 U9; (try dsimp only); (try k_fold))); rotate_left; (focus (dsimp only [RetAt]; intro t9 h9 tk9 F9 N9; (try dsimp only); (try k_sweep); (try k_fold))); rotate_right))); (k_with "own call ref" => (k_here; k_dflt (refine use_calls (by k_asm) (by k_asm) (by k_asm) (by k_asm) (by k_asm) (by first | exact rfl | assumption) (c_idiv _ _ _ _ _ _ _ _ (by assumption) (by assumption) (by assumption) (by assumption)) (by ktr_room) (by ktr_units) ?_; dsimp only [resI]; split; (focus (dsimp only [RetAt]; intro e9 g9 h9 tk9 F9 R9 U9; (try dsimp only); (try k_fold))); rotate_left; (focus (dsimp only [RetAt]; intro t9 h9 tk9 F9 N9; (try dsimp only); (try k_sweep); (try k_fold))); rotate_right))); (k_with "own call ref" => (k_here; k_dflt (refine use_calls (by k_asm) (by k_asm) (by k_asm) (by k_asm) (by k_asm) (by first | exact rfl | assumption) (c_digits _ _ _ _ _ _ _ _ _ _ _ _ _ _ (by assumption) (by assumption) (by first | exact Or.inl ⟨rfl, rfl⟩ | exact Or.inr ⟨rfl, rfl⟩)) (by ktr_room) (by ktr_units) ?_; dsimp only [RetAt]; intro t9 h9 tk9 F9 N9; (try dsimp only); (try k_sweep); (try k_fold)))); (k_with "own call ref" => (k_here; k_dflt (refine use_calls (by k_asm) (by k_asm) (by k_asm) (by k_asm) (by k_asm) (by first | exact rfl | assumption) (c_radd _ _ _ _ _ _ _ _ _ _ _ _ (by first | assumption | exact .new (by k_mem) | exact PairV.up (by assumption) | exact PairV.up (PairV.up (by assumption)) | exact PairV.up (PairV.up (PairV.up (by assumption)))) (by first | assumption | exact .new (by k_mem) | exact PairV.up (by assumption) | exact PairV.up (PairV.up (by assumption)) | exact PairV.up (PairV.up (PairV.up (by assumption)))) (by assumption) (by assumption) (by assumption) (by assumption) (by first | assumption | decide)) (by ktr_room) (by ktr_units) ?_; dsimp only [resP]; split; (focus (dsimp only [RetAt]; intro e9 g9 h9 tk9 F9 R9 U9; (try dsimp only); (try k_fold))); rotate_left; dsimp only [RetAt]; (refine And.intro ?_ ?_); (focus (intro D9 t9 u9 c9 h9 tk9 F9 N9 l9; (try simp only [AllLt, and_true] at l9); (try dsimp only); (try k_sweep); (try k_fold))); rotate_left; (focus (intro e8 e9 h9 tk9 F9 N9; (try dsimp only); (try k_sweep); (try k_fold))); rotate_right))); (k_with "own call ref" => (k_here; k_dflt (refine use_calls (by k_asm) (by k_asm) (by k_asm) (by k_asm) (by k_asm) (by first | exact rfl | assumption) (c_rsub _ _ _ _ _ _ _ _ _ _ _ _ (by first | assumption | exact .new (by k_mem) | exact PairV.up (by assumption) | exact PairV.up (PairV.up (by assumption)) | exact PairV.up (PairV.up (PairV.up (by assumption)))) (by first | assumption | exact .new (by k_mem) | exact PairV.up (by assumption) | exact PairV.up (PairV.up (by assumption)) | exact PairV.up (PairV.up (PairV.up (by assumption)))) (by assumption) (by assumption) (by assumption) (by assumption) (by first | assumption | decide)) (by ktr_room) (by ktr_units) ?_; dsimp only [resP]; split; (focus (dsimp only [RetAt]; intro e9 g9 h9 tk9 F9 R9 U9; (try dsimp only); (try k_fold))); rotate_left; dsimp only [RetAt]; (refine And.intro ?_ ?_); (focus (intro D9 t9 u9 c9 h9 tk9 F9 N9 l9; (try simp only [AllLt, and_true] at l9); (try dsimp only); (try k_sweep); (try k_fold))); rotate_left; (focus (intro e8 e9 h9 tk9 F9 N9; (try dsimp only); (try k_sweep); (try k_fold))); rotate_right))); (k_with "own call ref" => (k_here; k_dflt (refine use_calls (by k_asm) (by k_asm) (by k_asm) (by k_asm) (by k_asm) (by first | exact rfl | assumption) (c_rdiv _ _ _ _ _ _ _ _ _ _ _ _ (by first | assumption | exact .new (by k_mem) | exact PairV.up (by assumption) | exact PairV.up (PairV.up (by assumption)) | exact PairV.up (PairV.up (PairV.up (by assumption)))) (by first | assumption | exact .new (by k_mem) | exact PairV.up (by assumption) | exact PairV.up (PairV.up (by assumption)) | exact PairV.up (PairV.up (PairV.up (by assumption)))) (by assumption) (by assumption) (by assumption) (by first | assumption | decide) (by first | assumption | decide)) (by ktr_room) (by ktr_units) ?_; dsimp only [resP]; split; (focus (dsimp only [RetAt]; intro e9 g9 h9 tk9 F9 R9 U9; (try dsimp only); (try k_fold))); rotate_left; dsimp only [RetAt]; (refine And.intro ?_ ?_); (focus (intro D9 t9 u9 c9 h9 tk9 F9 N9 l9; (try simp only [AllLt, and_true] at l9); (try dsimp only); (try k_sweep); (try k_fold))); rotate_left; (focus (intro e8 e9 h9 tk9 F9 N9; (try dsimp only); (try k_sweep); (try k_fold))); rotate_right)))); w_top off; unfold Calls; k_fill; intro mean mg mb dp un gd cn cs a ccd cl outer A₀ base h₀ L m s Q E B F X N T hk hdp hun hret; refine wpAny_call ?_; k_dflt ktr_enter)
    k_steps
    all_goals first
      | (refine ret_old ((retAt_of (resP_some (by assumption)) hret).2) (by k_asm) (by k_asm) (by first | exact fun _ h => h | exact fun _ h => .tail _ h | exact fun _ h => .tail _ (.tail _ h) | exact fun _ h => .tail _ (.tail _ (.tail _ h)) | exact fun _ h => .tail _ (.tail _ (.tail _ (.tail _ h))) | kcj_all | with_reducible assumption | exact sub2 (by with_reducible assumption) (by with_reducible assumption) | exact sub3 (by with_reducible assumption) (by with_reducible assumption) (by with_reducible assumption)) ?_ ?_; (focus (assumption)); (focus (assumption)))
      | exact ret_raised (retAt_of (resP_none (by assumption)) hret) (by k_asm) (by k_asm) (by assumption) (by first | exact fun _ h => h | exact fun _ h => .tail _ h | exact fun _ h => .tail _ (.tail _ h) | exact fun _ h => .tail _ (.tail _ (.tail _ h)) | exact fun _ h => .tail _ (.tail _ (.tail _ (.tail _ h))) | kcj_all | with_reducible assumption | exact sub2 (by with_reducible assumption) (by with_reducible assumption) | exact sub3 (by with_reducible assumption) (by with_reducible assumption) (by with_reducible assumption))
      | (refine ret_new ((retAt_of (resP_some (by assumption)) hret).1) (by k_asm) (by first | exact ⟨by k_asm, .head _⟩ | kcu_news) (by first | exact fun _ h => h | exact fun _ h => .tail _ h | exact fun _ h => .tail _ (.tail _ h) | exact fun _ h => .tail _ (.tail _ (.tail _ h)) | exact fun _ h => .tail _ (.tail _ (.tail _ (.tail _ h))) | kcj_all | with_reducible assumption | exact sub2 (by with_reducible assumption) (by with_reducible assumption) | exact sub3 (by with_reducible assumption) (by with_reducible assumption) (by with_reducible assumption)) (by first | with_reducible assumption | exact And.right (by with_reducible assumption) | exact And.right (And.right (by with_reducible assumption)) | exact And.right (And.right (And.right (by with_reducible assumption))) | kcu_lt) ?_ ?_; (focus (rfl)); (focus (rfl))))
end
end

section
open PySem PySem.W PyProof.Rows
section
variable {f l st k a b c : Int}
theorem tripI_z (h : st = 0) : tripI f l st k = none := if_pos h
theorem tripI_1 (h : ¬ st = 0) (e1 : fitI (l - f) k = none) : tripI f l st k = none := by
  rw [tripI, if_neg h]; simp only [e1]
theorem tripI_2 (h : ¬ st = 0) (e1 : fitI (l - f) k = some a) (e2 : fitI (a + st) k = none) : tripI f l st k = none := by
  rw [tripI, if_neg h]; simp only [e1, e2]
theorem tripI_3 (h : ¬ st = 0) (e1 : fitI (l - f) k = some a) (e2 : fitI (a + st) k = some b) (e3 : iDiv b st k = none) : tripI f l st k = none := by
  rw [tripI, if_neg h]; simp only [e1, e2, e3]
theorem tripI_4 {r : Option Int} (h : ¬ st = 0) (e1 : fitI (l - f) k = some a) (e2 : fitI (a + st) k = some b) (e3 : iDiv b st k = some c) (e4 : fitI (if 0 > c then 0 else c) k = r) : tripI f l st k = r := by
  rw [tripI, if_neg h]; simp only [e1, e2, e3, e4]
end
















theorem c_trip_i (w : World) (f l st k top : Int) (t1 t2 t3 t4 a0 a1 a2 a3 : Tok) (u : Nat → Tok) (X D O : Addr) (oo : Obj) (news : List (Addr × Obj)) (hx : (X, instObj 289 D) ∈ news) (hd' : (D, limObj w k top t1 t2 t3 t4 u) ∈ news) (ho : (O, oo) ∈ news)
    (hoo : oo.IsDictOf (PySem.intKind PySem.Challenge.rw_no0261_01.row.prog w) (intKeyPairs opsPairs)) (k0 : 1 ≤ k) (k1 : k ≤ 30) (b : Bd st 20) :
    Calls w 271 10 news [.int 0 a0, .int f a1, .int l a2, .int st a3, .ref O, .ref X] (resI (tripI f l st k)) := by
  ((k_with_none; (k_with "own binaryOp Mult int int" => (k_here; refine mul_int ?_ (mulOk_bd (by (repeat (first | assumption | with_reducible apply bd_abs | with_reducible apply bd_mul | with_reducible apply bd_add | with_reducible apply bd_sub | with_reducible apply bd_neg | with_reducible apply bd_fd | exact bd_pow (by first | omega | (split <;> omega)) | exact bd_lit (by decide)))) (by (repeat (first | assumption | with_reducible apply bd_abs | with_reducible apply bd_mul | with_reducible apply bd_add | with_reducible apply bd_sub | with_reducible apply bd_neg | with_reducible apply bd_fd | exact bd_pow (by first | omega | (split <;> omega)) | exact bd_lit (by decide)))) (by decide) (by decide)); (try dsimp only))); (k_with "own call builtin:divmod" => ((with_reducible show wpAny _ _ (call (Value.builtin _) [Value.int _ _, Value.int _ _]) _ _ _); (first | refine divmod_N (by k_asm) (by k_asm) (pow10Z_ne _) ?_ (Or.inl (noPy_pow (by omega))) | refine divmod_N (by k_asm) (by k_asm) (by first | exact abs_ne (by assumption) | assumption) ?_ (Or.inl (noPy_bd (by (repeat (first | assumption | with_reducible apply bd_abs | with_reducible apply bd_mul | with_reducible apply bd_add | with_reducible apply bd_sub | with_reducible apply bd_neg | with_reducible apply bd_fd | exact bd_pow (by first | omega | (split <;> omega)) | exact bd_lit (by decide)))) (by decide)))); intro _ _ _)); (k_with "own binaryOp Pow int int" => (k_here; refine pow_int_small (by first | omega | (split <;> omega)) (by first | omega | (split <;> omega)) (by first | decide | omega) ?_; (try dsimp only))); (k_with "own binaryOp FloorDiv int int" => (k_here; (first | refine floordiv_int (pow10Z_ne _) ?_ (Or.inl (noPy_pow (by omega))) | refine floordiv_int (by first | exact abs_ne (by assumption) | exact mulpow_ne (by assumption) _ | assumption | omega) ?_ (Or.inl (noPy_bd (by (repeat (first | assumption | with_reducible apply bd_abs | with_reducible apply bd_mul | with_reducible apply bd_add | with_reducible apply bd_sub | with_reducible apply bd_neg | with_reducible apply bd_fd | exact bd_pow (by first | omega | (split <;> omega)) | exact bd_lit (by decide)))) (by decide)))); (try dsimp only))); (k_with "own exec Raise some none" => (k_here; (with_reducible show wpAny _ _ (exec (Stmt.Raise (some (Expr.Call (Expr.Name ("RunFault" : Str) _) _ _ _)) none _) _) _ _ _); refine Raise_rf rfl ?_)); (k_with "own call ref" => (k_here; refine exc_K (by k_asm) (by k_asm) (by k_asm) (by k_asm) (by k_asm) (by first | exact rfl | assumption) (by ktr_room) (by ktr_units) ?_; intro h9 tk9 e9 D9 d9 F9 N9 p9; (try dsimp only); (try k_sweep))); (k_with "own Exists" => (refine raisable_of (by k_asm) (by k_asm) (by k_asm) ?_)); (k_with "own leaving ref" => (k_here; refine leave_own (by assumption) (by k_asm) (by k_asm) (by assumption) rfl rfl rfl rfl ?_; intro h' R' U'; (try dsimp only at R' U' ⊢))); (k_with "own subscriptTail" => (k_here; (with_reducible show wpAny _ _ (subscriptTail _ _ (Value.ref _) (Value.int _ _)) _ _ _); k_dflt (refine kda_item (knd := PySem.intKind _ _) (by k_asm) (by k_mem) (by assumption) (intKind_is _ _ _ _) (by rfl) ?_))); (k_with "own eval Call" => (k_here; (with_reducible show wpAny _ _ (eval (PySem.Expr.Call (PySem.Expr.Name _ _) _ [] _) _) _ _ _); k_dflt (refine Call_ ?_))); (k_with "own call ref" => (k_here; k_dflt (refine use_calls (by k_asm) (by k_asm) (by k_asm) (by k_asm) (by k_asm) (by first | exact rfl | assumption) (c_iszero_i _ _ _ _) (by ktr_room) (by ktr_units) ?_; dsimp only [RetAt]; intro h9 tk9 F9 N9; (try dsimp only); (try k_sweep); (try k_fold)))); (k_with "own call ref" => (k_here; k_dflt (refine use_calls (by k_asm) (by k_asm) (by k_asm) (by k_asm) (by k_asm) (by first | exact rfl | assumption) (c_fit _ _ _ _ _ _ (by assumption) (by assumption)) (by ktr_room) (by ktr_units) ?_; dsimp only [resI]; split; (focus (dsimp only [RetAt]; intro e9 g9 h9 tk9 F9 R9 U9; (try dsimp only); (try k_fold))); rotate_left; (focus (dsimp only [RetAt]; intro t9 h9 tk9 F9 N9; (try dsimp only); (try k_sweep); (try k_fold))); rotate_right))); (k_with "own call ref" => (k_here; k_dflt (refine use_calls (by k_asm) (by k_asm) (by k_asm) (by k_asm) (by k_asm) (by first | exact rfl | assumption) (c_ib_add _ _ _ _ _ _ _ _ _ _ _ _ _ _ _ _ _ (by assumption) (by assumption) (by assumption) (by assumption)) (by ktr_room) (by ktr_units) ?_; dsimp only [resI]; split; (focus (dsimp only [RetAt]; intro e9 g9 h9 tk9 F9 R9 U9; (try dsimp only); (try k_fold))); rotate_left; (focus (dsimp only [RetAt]; intro t9 h9 tk9 F9 N9; (try dsimp only); (try k_sweep); (try k_fold))); rotate_right))); (k_with "own call ref" => (k_here; k_dflt (refine use_calls (by k_asm) (by k_asm) (by k_asm) (by k_asm) (by k_asm) (by first | exact rfl | assumption) (c_ib_sub _ _ _ _ _ _ _ _ _ _ _ _ _ _ _ _ _ (by assumption) (by assumption) (by assumption) (by assumption)) (by ktr_room) (by ktr_units) ?_; dsimp only [resI]; split; (focus (dsimp only [RetAt]; intro e9 g9 h9 tk9 F9 R9 U9; (try dsimp only); (try k_fold))); rotate_left; (focus (dsimp only [RetAt]; intro t9 h9 tk9 F9 N9; (try dsimp only); (try k_sweep); (try k_fold))); rotate_right))); (k_with "own call ref" => (k_here; k_dflt (refine use_calls (by k_asm) (by k_asm) (by k_asm) (by k_asm) (by k_asm) (by first | exact rfl | assumption) (c_ib_div _ _ _ _ _ _ _ _ _ _ _ _ _ _ _ _ _ (by assumption) (by assumption) (by assumption) (by assumption) (by assumption) (by assumption)) (by ktr_room) (by ktr_units) ?_; dsimp only [resI]; split; (focus (dsimp only [RetAt]; intro e9 g9 h9 tk9 F9 R9 U9; (try dsimp only); (try k_fold))); rotate_left; (focus (dsimp only [RetAt]; intro t9 h9 tk9 F9 N9; (try dsimp only); (try k_sweep); (try k_fold))); rotate_right)))); w_top off; unfold Calls; k_fill; intro mean mg mb dp un gd cn cs a ccd cl outer A₀ base h₀ L m s Q E B F X N T hk hdp hun hret; refine wpAny_call ?_; k_dflt ktr_enter)
  k_steps
  all_goals first
    | exact ret_raised (retAt_of (resI_none (by first | exact tripI_z (by assumption) | exact tripI_1 (by assumption) (by assumption) | exact tripI_2 (by assumption) (by assumption) (by assumption) | exact tripI_3 (by assumption) (by assumption) (by assumption) (by assumption) | exact tripI_4 (by assumption) (by assumption) (by assumption) (by assumption) (by assumption))) hret) (by k_asm) (by k_asm) (by assumption) (by first | exact fun _ h => h | exact fun _ h => .tail _ h | exact fun _ h => .tail _ (.tail _ h) | exact fun _ h => .tail _ (.tail _ (.tail _ h)) | exact fun _ h => .tail _ (.tail _ (.tail _ (.tail _ h))) | kcj_all | with_reducible assumption | exact sub2 (by with_reducible assumption) (by with_reducible assumption) | exact sub3 (by with_reducible assumption) (by with_reducible assumption) (by with_reducible assumption))
    | (refine ret_int (retAt_of (resI_some (tripI_4 (by assumption) (by assumption) (by assumption) (by assumption) (by assumption))) hret) (by k_asm) (by k_asm) (by first | exact fun _ h => h | exact fun _ h => .tail _ h | exact fun _ h => .tail _ (.tail _ h) | exact fun _ h => .tail _ (.tail _ (.tail _ h)) | exact fun _ h => .tail _ (.tail _ (.tail _ (.tail _ h))) | kcj_all | with_reducible assumption | exact sub2 (by with_reducible assumption) (by with_reducible assumption) | exact sub3 (by with_reducible assumption) (by with_reducible assumption) (by with_reducible assumption)) ?_; (rfl))
end

section
open PySem PySem.W PyProof.Rows
section
variable {x1 x2 y1 y2 z1 z2 k d top : Int} {p q r : Int × Int}
theorem rAdd_bd (h : rAdd x1 x2 y1 y2 d top = some p) (hd : 1 ≤ d) (hd5 : d ≤ 5) (ht : 0 ≤ top) (ht5 : top ≤ 45) : Bd p.1 20 ∧ -60 ≤ p.2 ∧ p.2 ≤ 60 := roundR_bd hd hd5 ht ht5 h
theorem rSub_bd (h : rSub x1 x2 y1 y2 d top = some p) (hd : 1 ≤ d) (hd5 : d ≤ 5) (ht : 0 ≤ top) (ht5 : top ≤ 45) : Bd p.1 20 ∧ -60 ≤ p.2 ∧ p.2 ≤ 60 := roundR_bd hd hd5 ht ht5 h
theorem rDiv_bd (h : rDiv x1 x2 y1 y2 d top = some p) (hd : 1 ≤ d) (hd5 : d ≤ 5) (ht : 0 ≤ top) (ht5 : top ≤ 45) : Bd p.1 20 ∧ -60 ≤ p.2 ∧ p.2 ≤ 60 := roundR_bd hd hd5 ht ht5 h
theorem tripR_z (h : z1 = 0) : tripR x1 x2 y1 y2 z1 z2 k d top = none := if_pos h
theorem tripR_1 (h : ¬ z1 = 0) (e1 : rSub y1 y2 x1 x2 d top = none) : tripR x1 x2 y1 y2 z1 z2 k d top = none := by
  rw [tripR, if_neg h]; simp only [e1]
theorem tripR_2 (h : ¬ z1 = 0) (e1 : rSub y1 y2 x1 x2 d top = some p) (e2 : rAdd p.1 p.2 z1 z2 d top = none) : tripR x1 x2 y1 y2 z1 z2 k d top = none := by
  rw [tripR, if_neg h]; simp only [e1, e2]
theorem tripR_3 (h : ¬ z1 = 0) (e1 : rSub y1 y2 x1 x2 d top = some p) (e2 : rAdd p.1 p.2 z1 z2 d top = some q) (e3 : rDiv q.1 q.2 z1 z2 d top = none) : tripR x1 x2 y1 y2 z1 z2 k d top = none := by
  rw [tripR, if_neg h]; simp only [e1, e2, e3]
theorem tripR_4 {R : Option Int} (h : ¬ z1 = 0) (e1 : rSub y1 y2 x1 x2 d top = some p) (e2 : rAdd p.1 p.2 z1 z2 d top = some q) (e3 : rDiv q.1 q.2 z1 z2 d top = some r) (e4 : fitI (if 0 > toInt r.1 r.2 then 0 else toInt r.1 r.2) k = R) : tripR x1 x2 y1 y2 z1 z2 k d top = R := by
  rw [tripR, if_neg h]; simp only [e1, e2, e3, e4]
theorem pv_old {news : List (Addr × Obj)} {x y : Int} (h1 : x = 0) (h2 : y = 0) : PairV news (.ref 131) x y := by subst h1; subst h2; exact .old
theorem PairV.sub {a b : List (Addr × Obj)} {V : Value} {x y : Int} (h : ∀ p ∈ a, p ∈ b) (v : PairV a V x y) : PairV b V x y := by
  cases v with
  | new v => exact .new (h _ v)
  | old => exact .old
theorem retP_merge {base h₀ : Heap} {L : Addr} {m : Str → Option Value} {news : List (Addr × Obj)} {stack : List Env} {s : Shared} {Q E : Value → Shared → Prop} {x y : Int}
    (h : ∀ (V : Value) (h' : Heap) (tk' : Nat) (news' : List (Addr × Obj)), Fr h₀ L h' m → News h₀ L h' news' → (∀ p ∈ news, p ∈ news') → PairV news' V x y → Q V { s with heap := h', toks := tk' }) : RetAt base h₀ L m news stack s Q E (.pair x y) :=
  ⟨fun _ _ _ _ h' tk' F N _ => h _ h' tk' _ F N (fun _ h => .tail _ h) (.new (.head _)), fun e1 e2 h' tk' F N => h _ h' tk' _ F N (fun _ h => h) (pv_old e1 e2)⟩
theorem ops_at {c d : Int} (h : (c = 1 ∧ d = 3) ∨ (c = 2 ∧ d = 5)) : valueAt (intKeyPairs opsPairs) c = some (.ref 257) := by
  rcases h with ⟨rfl, _⟩ | ⟨rfl, _⟩ <;> rfl
end
theorem sub2 {α : Type} {a b c : List α} (h1 : ∀ p ∈ a, p ∈ b) (h2 : ∀ p ∈ b, p ∈ c) : ∀ p ∈ a, p ∈ c := fun p h => h2 p (h1 p h)
theorem sub3 {α : Type} {a b c d : List α} (h1 : ∀ p ∈ a, p ∈ b) (h2 : ∀ p ∈ b, p ∈ c) (h3 : ∀ p ∈ c, p ∈ d) : ∀ p ∈ a, p ∈ d := fun p h => h3 p (h2 p (h1 p h))

















theorem c_trip_r (w : World) (x1 x2 y1 y2 z1 z2 k c d top : Int) (V1 V2 V3 : Value) (t1 t2 t3 t4 a0 : Tok) (u : Nat → Tok) (X D O : Addr) (oo : Obj) (news : List (Addr × Obj)) (hx : (X, instObj 289 D) ∈ news) (hd' : (D, limObj w k top t1 t2 t3 t4 u) ∈ news) (ho : (O, oo) ∈ news)
    (hoo : oo.IsDictOf (PySem.intKind PySem.Challenge.rw_no0261_01.row.prog w) (intKeyPairs opsPairs)) (hV1 : PairV news V1 x1 x2) (hV2 : PairV news V2 y1 y2) (hV3 : PairV news V3 z1 z2) (k0 : 1 ≤ k) (k1 : k ≤ 30) (hcd : (c = 1 ∧ d = 3) ∨ (c = 2 ∧ d = 5)) (q0 : 0 ≤ top) (q1 : top ≤ 45)
    (b1 : Bd x1 20) (b2 : Bd y1 20) (b3 : Bd z1 20) (r1 : -60 ≤ x2) (r2 : x2 ≤ 60) (r3 : -60 ≤ y2) (r4 : y2 ≤ 60) (r5 : -60 ≤ z2) (r6 : z2 ≤ 60) :
    Calls w 271 12 news [.int c a0, V1, V2, V3, .ref O, .ref X] (resI (tripR x1 x2 y1 y2 z1 z2 k d top)) := by
  have d0 : 1 ≤ d := by omega
  have d1 : d ≤ 5 := by omega
  ((k_with_none; (k_with "own binaryOp Mult int int" => (k_here; refine mul_int ?_ (mulOk_bd (by (repeat (first | assumption | with_reducible apply bd_abs | with_reducible apply bd_mul | with_reducible apply bd_add | with_reducible apply bd_sub | with_reducible apply bd_neg | with_reducible apply bd_fd | exact bd_pow (by first | omega | (split <;> omega)) | exact bd_lit (by decide)))) (by (repeat (first | assumption | with_reducible apply bd_abs | with_reducible apply bd_mul | with_reducible apply bd_add | with_reducible apply bd_sub | with_reducible apply bd_neg | with_reducible apply bd_fd | exact bd_pow (by first | omega | (split <;> omega)) | exact bd_lit (by decide)))) (by decide) (by decide)); (try dsimp only))); (k_with "own call builtin:divmod" => ((with_reducible show wpAny _ _ (call (Value.builtin _) [Value.int _ _, Value.int _ _]) _ _ _); (first | refine divmod_N (by k_asm) (by k_asm) (pow10Z_ne _) ?_ (Or.inl (noPy_pow (by omega))) | refine divmod_N (by k_asm) (by k_asm) (by first | exact abs_ne (by assumption) | assumption) ?_ (Or.inl (noPy_bd (by (repeat (first | assumption | with_reducible apply bd_abs | with_reducible apply bd_mul | with_reducible apply bd_add | with_reducible apply bd_sub | with_reducible apply bd_neg | with_reducible apply bd_fd | exact bd_pow (by first | omega | (split <;> omega)) | exact bd_lit (by decide)))) (by decide)))); intro _ _ _)); (k_with "own binaryOp Pow int int" => (k_here; refine pow_int_small (by first | omega | (split <;> omega)) (by first | omega | (split <;> omega)) (by first | decide | omega) ?_; (try dsimp only))); (k_with "own binaryOp FloorDiv int int" => (k_here; (first | refine floordiv_int (pow10Z_ne _) ?_ (Or.inl (noPy_pow (by omega))) | refine floordiv_int (by first | exact abs_ne (by assumption) | exact mulpow_ne (by assumption) _ | assumption | omega) ?_ (Or.inl (noPy_bd (by (repeat (first | assumption | with_reducible apply bd_abs | with_reducible apply bd_mul | with_reducible apply bd_add | with_reducible apply bd_sub | with_reducible apply bd_neg | with_reducible apply bd_fd | exact bd_pow (by first | omega | (split <;> omega)) | exact bd_lit (by decide)))) (by decide)))); (try dsimp only))); (k_with "own exec Raise some none" => (k_here; (with_reducible show wpAny _ _ (exec (Stmt.Raise (some (Expr.Call (Expr.Name ("RunFault" : Str) _) _ _ _)) none _) _) _ _ _); refine Raise_rf rfl ?_)); (k_with "own call ref" => (k_here; refine exc_K (by k_asm) (by k_asm) (by k_asm) (by k_asm) (by k_asm) (by first | exact rfl | assumption) (by ktr_room) (by ktr_units) ?_; intro h9 tk9 e9 D9 d9 F9 N9 p9; (try dsimp only); (try k_sweep))); (k_with "own Exists" => (refine raisable_of (by k_asm) (by k_asm) (by k_asm) ?_)); (k_with "own leaving ref" => (k_here; refine leave_own (by assumption) (by k_asm) (by k_asm) (by assumption) rfl rfl rfl rfl ?_; intro h' R' U'; (try dsimp only at R' U' ⊢))); (k_with "own subscriptTail" => (k_here; (with_reducible show wpAny _ _ (subscriptTail _ _ (Value.ref _) (Value.int _ _)) _ _ _); k_dflt (refine kda_item (knd := PySem.intKind _ _) (by k_asm) (by k_mem) (by assumption) (intKind_is _ _ _ _) (ops_at (by assumption)) ?_))); (k_with "own eval Call" => (k_here; (with_reducible show wpAny _ _ (eval (PySem.Expr.Call (PySem.Expr.Name _ _) _ [] _) _) _ _ _); k_dflt (refine Call_ ?_))); (k_with "own call ref" => (k_here; k_dflt (refine use_calls (by k_asm) (by k_asm) (by k_asm) (by k_asm) (by k_asm) (by first | exact rfl | assumption) (c_iszero_p _ _ _ _ _ (by first | assumption | exact .new (by k_mem) | exact PairV.up (by assumption) | exact PairV.up (PairV.up (by assumption)) | exact PairV.up (PairV.up (PairV.up (by assumption))))) (by ktr_room) (by ktr_units) ?_; dsimp only [RetAt]; intro h9 tk9 F9 N9; (try dsimp only); (try k_sweep); (try k_fold)))); (k_with "own call ref" => (k_here; k_dflt (refine use_calls (by k_asm) (by k_asm) (by k_asm) (by k_asm) (by k_asm) (by first | exact rfl | assumption) (c_fit _ _ _ _ _ _ (by assumption) (by assumption)) (by ktr_room) (by ktr_units) ?_; dsimp only [resI]; split; (focus (dsimp only [RetAt]; intro e9 g9 h9 tk9 F9 R9 U9; (try dsimp only); (try k_fold))); rotate_left; (focus (dsimp only [RetAt]; intro t9 h9 tk9 F9 N9; (try dsimp only); (try k_sweep); (try k_fold))); rotate_right))); (k_with "own call ref" => (k_here; k_dflt (refine use_calls (by k_asm) (by k_asm) (by k_asm) (by k_asm) (by k_asm) (by first | exact rfl | assumption) (c_toint _ _ _ _ _ (by first | assumption | exact .new (by k_mem) | exact (by with_reducible assumption : ∀ n9, PairV n9 (Value.ref 131) _ _) _ | exact PairV.up (by assumption) | exact PairV.up (PairV.up (by assumption)) | exact PairV.up (PairV.up (PairV.up (by assumption)))) (by omega) (by omega) (by assumption)) (by ktr_room) (by ktr_units) ?_; dsimp only [RetAt]; intro t9 h9 tk9 F9 N9; (try dsimp only); (try k_sweep); (try k_fold)))); (k_with "own call ref" => (k_here; k_dflt (refine use_calls (by k_asm) (by k_asm) (by k_asm) (by k_asm) (by k_asm) (by first | exact rfl | assumption) (c_rb_add _ _ _ _ _ _ _ _ _ _ _ _ _ _ _ _ _ _ _ _ _ (by k_mem) (by k_mem) (by assumption) (by first | assumption | exact .new (by k_mem) | exact (by with_reducible assumption : ∀ n9, PairV n9 (Value.ref 131) _ _) _ | exact PairV.up (by assumption) | exact PairV.up (PairV.up (by assumption)) | exact PairV.up (PairV.up (PairV.up (by assumption)))) (by first | assumption | exact .new (by k_mem) | exact (by with_reducible assumption : ∀ n9, PairV n9 (Value.ref 131) _ _) _ | exact PairV.up (by assumption) | exact PairV.up (PairV.up (by assumption)) | exact PairV.up (PairV.up (PairV.up (by assumption)))) (by omega) (by omega) (by assumption) (by assumption)) (by ktr_room) (by ktr_units) ?_; (dsimp only [resP]; split; (focus (dsimp only [RetAt]; intro e9 g9 h9 tk9 F9 R9 U9; (try dsimp only); (try k_fold))); rotate_left; (focus (rename_i p9 hp9; obtain ⟨bA9, bB9, bC9⟩ := rAdd_bd hp9 (by assumption) (by assumption) (by assumption) (by assumption); refine retP_merge ?_; intro V9 h9 tk9 n9 F9 N9 S9 P9; have i9 := S9 (_, instObj 289 _) (by with_reducible assumption); have j9 := S9 (_, limObj _ _ _ _ _ _ _ _) (by with_reducible assumption); have v9 := PairV.sub S9 (by with_reducible assumption); (try dsimp only); (try k_sweep); (try k_fold))); rotate_right)))); (k_with "own call ref" => (k_here; k_dflt (refine use_calls (by k_asm) (by k_asm) (by k_asm) (by k_asm) (by k_asm) (by first | exact rfl | assumption) (c_rb_sub _ _ _ _ _ _ _ _ _ _ _ _ _ _ _ _ _ _ _ _ _ (by k_mem) (by k_mem) (by assumption) (by first | assumption | exact .new (by k_mem) | exact (by with_reducible assumption : ∀ n9, PairV n9 (Value.ref 131) _ _) _ | exact PairV.up (by assumption) | exact PairV.up (PairV.up (by assumption)) | exact PairV.up (PairV.up (PairV.up (by assumption)))) (by first | assumption | exact .new (by k_mem) | exact (by with_reducible assumption : ∀ n9, PairV n9 (Value.ref 131) _ _) _ | exact PairV.up (by assumption) | exact PairV.up (PairV.up (by assumption)) | exact PairV.up (PairV.up (PairV.up (by assumption)))) (by omega) (by omega) (by assumption) (by assumption)) (by ktr_room) (by ktr_units) ?_; (dsimp only [resP]; split; (focus (dsimp only [RetAt]; intro e9 g9 h9 tk9 F9 R9 U9; (try dsimp only); (try k_fold))); rotate_left; (focus (rename_i p9 hp9; obtain ⟨bA9, bB9, bC9⟩ := rSub_bd hp9 (by assumption) (by assumption) (by assumption) (by assumption); refine retP_merge ?_; intro V9 h9 tk9 n9 F9 N9 S9 P9; have i9 := S9 (_, instObj 289 _) (by with_reducible assumption); have j9 := S9 (_, limObj _ _ _ _ _ _ _ _) (by with_reducible assumption); have v9 := PairV.sub S9 (by with_reducible assumption); (try dsimp only); (try k_sweep); (try k_fold))); rotate_right)))); (k_with "own call ref" => (k_here; k_dflt (refine use_calls (by k_asm) (by k_asm) (by k_asm) (by k_asm) (by k_asm) (by first | exact rfl | assumption) (c_rb_div _ _ _ _ _ _ _ _ _ _ _ _ _ _ _ _ _ _ _ _ _ (by k_mem) (by k_mem) (by assumption) (by first | assumption | exact .new (by k_mem) | exact (by with_reducible assumption : ∀ n9, PairV n9 (Value.ref 131) _ _) _ | exact PairV.up (by assumption) | exact PairV.up (PairV.up (by assumption)) | exact PairV.up (PairV.up (PairV.up (by assumption)))) (by first | assumption | exact .new (by k_mem) | exact (by with_reducible assumption : ∀ n9, PairV n9 (Value.ref 131) _ _) _ | exact PairV.up (by assumption) | exact PairV.up (PairV.up (by assumption)) | exact PairV.up (PairV.up (PairV.up (by assumption)))) (by assumption) (by assumption) (by assumption)) (by ktr_room) (by ktr_units) ?_; (dsimp only [resP]; split; (focus (dsimp only [RetAt]; intro e9 g9 h9 tk9 F9 R9 U9; (try dsimp only); (try k_fold))); rotate_left; (focus (rename_i p9 hp9; obtain ⟨bA9, bB9, bC9⟩ := rDiv_bd hp9 (by assumption) (by assumption) (by assumption) (by assumption); refine retP_merge ?_; intro V9 h9 tk9 n9 F9 N9 S9 P9; have i9 := S9 (_, instObj 289 _) (by with_reducible assumption); have j9 := S9 (_, limObj _ _ _ _ _ _ _ _) (by with_reducible assumption); have v9 := PairV.sub S9 (by with_reducible assumption); (try dsimp only); (try k_sweep); (try k_fold))); rotate_right))))); w_top off; unfold Calls; k_fill; intro mean mg mb dp un gd cn cs a ccd cl outer A₀ base h₀ L m s Q E B F X N T hk hdp hun hret; refine wpAny_call ?_; k_dflt ktr_enter)
  k_steps
  all_goals first
    | exact ret_raised (retAt_of (resI_none (by first | exact tripR_z (by assumption) | exact tripR_1 (by assumption) (by assumption) | exact tripR_2 (by assumption) (by assumption) (by assumption) | exact tripR_3 (by assumption) (by assumption) (by assumption) (by assumption) | exact tripR_4 (by assumption) (by assumption) (by assumption) (by assumption) (by assumption))) hret) (by k_asm) (by k_asm) (by assumption) (by first | exact fun _ h => h | exact fun _ h => .tail _ h | exact fun _ h => .tail _ (.tail _ h) | exact fun _ h => .tail _ (.tail _ (.tail _ h)) | exact fun _ h => .tail _ (.tail _ (.tail _ (.tail _ h))) | kcj_all | with_reducible assumption | exact sub2 (by with_reducible assumption) (by with_reducible assumption) | exact sub3 (by with_reducible assumption) (by with_reducible assumption) (by with_reducible assumption))
    | (refine ret_int (retAt_of (resI_some (tripR_4 (by assumption) (by assumption) (by assumption) (by assumption) (by assumption))) hret) (by k_asm) (by k_asm) (by first | exact fun _ h => h | exact fun _ h => .tail _ h | exact fun _ h => .tail _ (.tail _ h) | exact fun _ h => .tail _ (.tail _ (.tail _ h)) | exact fun _ h => .tail _ (.tail _ (.tail _ (.tail _ h))) | kcj_all | with_reducible assumption | exact sub2 (by with_reducible assumption) (by with_reducible assumption) | exact sub3 (by with_reducible assumption) (by with_reducible assumption) (by with_reducible assumption)) ?_; (rfl))
    | (exfalso; omega)
end

section
open PySem PySem.W PyProof.Rows
theorem c_trip_i' (w : World) (c f l st k top : Int) (t1 t2 t3 t4 a0 a1 a2 a3 : Tok) (u : Nat → Tok) (X D O : Addr) (oo : Obj) (news : List (Addr × Obj)) (hx : (X, instObj 289 D) ∈ news) (hd' : (D, limObj w k top t1 t2 t3 t4 u) ∈ news) (ho : (O, oo) ∈ news)
    (hoo : oo.IsDictOf (PySem.intKind PySem.Challenge.rw_no0261_01.row.prog w) (intKeyPairs opsPairs)) (k0 : 1 ≤ k) (k1 : k ≤ 30) (b : Bd st 20) (hc : c = 0) :
    Calls w 271 10 news [.int c a0, .int f a1, .int l a2, .int st a3, .ref O, .ref X] (resI (tripI f l st k)) := by
  subst hc
  exact c_trip_i w f l st k top t1 t2 t3 t4 a0 a1 a2 a3 u X D O oo news hx hd' ho hoo k0 k1 b
theorem kind_cd {k d : Int} (h : ¬ k = 0) (b0 : 0 ≤ k) (b1 : k < 3) (f : d = if k = 1 then 3 else 5) : (k = 1 ∧ d = 3) ∨ (k = 2 ∧ d = 5) := by
  by_cases e : k = 1
  · rw [if_pos e] at f; exact Or.inl ⟨e, f⟩
  · rw [if_neg e] at f; exact Or.inr ⟨by omega, f⟩
theorem ne_self {b : Bool} (h : (b != b) = true) : False := by simp at h
theorem kind_no {x : Int} (h : x.fmod 3 ≠ 0) (e : x.fmod 3 = 0) : False := h e
theorem off_cons {I C D a : Addr} {o : Obj} {n : List (Addr × Obj)} (h : a ≠ I ∧ a ≠ C ∧ a ≠ D) (r : LCg.Off3 I C D n) : LCg.Off3 I C D ((a, o) :: n) := ⟨h, r⟩
theorem sub_front {α : Type} {x a b c : α} {n : List α} : ∀ p ∈ a :: b :: c :: x :: n, p ∈ x :: a :: b :: c :: n := by
  intro p h
  simp only [List.mem_cons] at h ⊢
  rcases h with h | h | h | h | h
  · exact Or.inr (Or.inl h)
  · exact Or.inr (Or.inr (Or.inl h))
  · exact Or.inr (Or.inr (Or.inr (Or.inl h)))
  · exact Or.inl h
  · exact Or.inr (Or.inr (Or.inr (Or.inr h)))
theorem compEnd_new {h₀ : Heap} {L I C D a : Addr} {o : Obj} {n : List (Addr × Obj)} {m : Str → Option Value} {s₁ : Shared} {oI oC oD : Obj} {S : List (Addr × Obj) → Prop} {rest : Value → List (Addr × Obj) → Prop} {y : Value} {h' : Heap} {tk : Nat}
    (F : Fr h₀ L h' m) (N : News h₀ L h' ((a, o) :: (I, oI) :: (C, oC) :: (D, oD) :: n)) (h : a ≠ I ∧ a ≠ C ∧ a ≠ D) (off : LCg.Off3 I C D n) (hS : S ((a, o) :: n)) (r : rest y ((a, o) :: n)) :
    LCg.CompEnd h₀ L m s₁ I oI C oC D oD S rest y { s₁ with heap := h', toks := tk } := LCg.CompEnd.intro F N _ sub_front (off_cons h off) hS r
/-- what _law_due hands back, as a value -/
inductive DueV : Value → Option Int → Prop where
  | no : DueV .none none
  | yes {x : Int} {t : Tok} : DueV (.int x t) (some x)
section
variable {base h₀ : Heap} {L : Addr} {m : Str → Option Value} {news : List (Addr × Obj)} {stack : List Env} {s : Shared} {Q E : Value → Shared → Prop} {o o' : Option Int} {V : Value}
theorem retD_merge (h : ∀ (V : Value) (h' : Heap) (tk' : Nat), Fr h₀ L h' m → News h₀ L h' news → DueV V o → Q V { s with heap := h', toks := tk' }) : RetAt base h₀ L m news stack s Q E (resD o) := by
  cases o with
  | none => exact fun h' tk' F N => h _ h' tk' F N .no
  | some x => exact fun t h' tk' F N => h _ h' tk' F N .yes
theorem retI_merge (hV : DueV V o) (he : o' = o) (h1 : V = .none → RetRaised base h₀ L m news stack s E) (h2 : ∀ (x : Int) (t : Tok), V = .int x t → RetInt h₀ L m news s Q x) : RetAt base h₀ L m news stack s Q E (resI o') := by
  subst he
  cases hV with
  | no => exact h1 rfl
  | yes => exact h2 _ _ rfl
end
end

section
open PySem PySem.W PyProof.Rows









theorem news_tail {h₀ : Heap} {L : Addr} {h : Heap} {p : Addr × Obj} {news : List (Addr × Obj)} (N : News h₀ L h (p :: news)) : News h₀ L h news := fun q hq => N q (.tail _ hq)
theorem frozen2 (P : Prop) (h : id P) : P := h






local macro_rules | `(tactic| k_qdec) => `(tactic| decide +kernel)
local macro_rules | `(tactic| lcg_src) => `(tactic| exact Or.inr ⟨_, by k_mem, rfl, _, rfl⟩)
















theorem whole : PySem.Challenge.rw_no0261_01.Holds := Mine.hd (by
  (k_with_none; (k_with "own binaryOp Mult int int" => (k_here; refine mul_int ?_ (mulOk_bd (by (repeat (first | assumption | with_reducible apply bd_abs | with_reducible apply bd_mul | with_reducible apply bd_add | with_reducible apply bd_sub | with_reducible apply bd_neg | with_reducible apply bd_fd | exact bd_pow (by first | omega | (split <;> omega)) | exact bd_lit (by decide)))) (by (repeat (first | assumption | with_reducible apply bd_abs | with_reducible apply bd_mul | with_reducible apply bd_add | with_reducible apply bd_sub | with_reducible apply bd_neg | with_reducible apply bd_fd | exact bd_pow (by first | omega | (split <;> omega)) | exact bd_lit (by decide)))) (by decide) (by decide)); (try dsimp only))); (k_with "own call builtin:divmod" => ((with_reducible show wpAny _ _ (call (Value.builtin _) [Value.int _ _, Value.int _ _]) _ _ _); (first | refine divmod_N (by k_asm) (by k_asm) (pow10Z_ne _) ?_ (Or.inl (noPy_pow (by omega))) | refine divmod_N (by k_asm) (by k_asm) (by first | exact abs_ne (by assumption) | assumption) ?_ (Or.inl (noPy_bd (by (repeat (first | assumption | with_reducible apply bd_abs | with_reducible apply bd_mul | with_reducible apply bd_add | with_reducible apply bd_sub | with_reducible apply bd_neg | with_reducible apply bd_fd | exact bd_pow (by first | omega | (split <;> omega)) | exact bd_lit (by decide)))) (by decide)))); intro _ _ _)); (k_with "own binaryOp Pow int int" => (k_here; refine pow_int_small (by first | omega | (split <;> omega)) (by first | omega | (split <;> omega)) (by first | decide | omega) ?_; (try dsimp only))); (k_with "own binaryOp FloorDiv int int" => (k_here; (first | refine floordiv_int (pow10Z_ne _) ?_ (Or.inl (noPy_pow (by omega))) | refine floordiv_int (by first | exact abs_ne (by assumption) | exact mulpow_ne (by assumption) _ | assumption | omega) ?_ (Or.inl (noPy_bd (by (repeat (first | assumption | with_reducible apply bd_abs | with_reducible apply bd_mul | with_reducible apply bd_add | with_reducible apply bd_sub | with_reducible apply bd_neg | with_reducible apply bd_fd | exact bd_pow (by first | omega | (split <;> omega)) | exact bd_lit (by decide)))) (by decide)))); (try dsimp only))); (k_with "own exec Raise some none" => (k_here; (with_reducible show wpAny _ _ (exec (Stmt.Raise (some (Expr.Call (Expr.Name ("RunFault" : Str) _) _ _ _)) none _) _) _ _ _); refine Raise_rf rfl ?_)); (k_with "own call ref" => (k_here; refine exc_K (by k_asm) (by k_asm) (by k_asm) (by k_asm) (by k_asm) (by first | exact rfl | assumption) (by ktr_room) (by ktr_units) ?_; intro h9 tk9 e9 D9 d9 F9 N9 p9; (try dsimp only); (try k_sweep))); (k_with "own Exists" => (refine raisable_of (by k_asm) (by k_asm) (by k_asm) ?_)); (k_with "own leaving ref" => (k_here; refine leave_own (by assumption) (by k_asm) (by k_asm) (by assumption) rfl rfl rfl rfl ?_; intro h' R' U'; (try dsimp only at R' U' ⊢))); (k_with "own call ref" => (k_here; refine frozen2 _ ?_)); (k_with "own exec Try" => (k_here; refine wpAny_Try_except ?_)); (k_with "own noteFrame ref" => (k_here; k_dflt (refine' caught_rf ?k1L10 ?k2L10 ?k3L10 ?k4L10 ?k5L10 ?k6L10 ?_ ?kEL10 ?aL10 ?bL10; (case aL10 => rfl); (case bL10 => rfl); (case k4L10 => assumption); (case k3L10 => assumption); (case k2L10 => assumption); (case k1L10 => assumption); (case k5L10 => k_asm); (case k6L10 => k_asm); (case kEL10 => first | passes_own | with_unfolding_all passes_own); k_whole; intro h' F' N'; (try k_sweep)))); (k_with "own callWith ref" => (k_here; (with_reducible show wpAny _ _ (callWith _ (Value.ref 394) _ _ _) _ _ _); k_dflt (refine' callWith_K0 ?k1L11 ?k2L11 ?_; (case k1L11 => exact Frag.In.keeps (by with_reducible assumption) (Fr.keep (by with_reducible assumption))); (case k2L11 => k_is); k_whole))); (k_with "own CompRest" => ((with_unfolding_all (refine LCg.CompRest.succ ?_; intro v' I' oI' C' oC' D' m' h' tk' E' hv' hC' hx' F' N' off' ne'; have off9 := off'; (first | lcg_open hv' | (obtain ⟨t9', hv9'⟩ := hv'; subst hv9')); (try simp only [LCg.Off3, and_true] at off'))))); (k_with "own CompEnd" => (k_dflt (first | (refine' compEnd_new ?FL13 ?NL13 ?hL13 ?offL13 ?srcL13 ?_; (case FL13 => with_reducible assumption); (case NL13 => with_reducible assumption); (case hL13 => refine ⟨?_, ?_, ?_⟩ <;> k_ne); (case offL13 => with_reducible assumption); (case srcL13 => lcg_src)) | (refine' LCg.CompEnd.intro ?FL13 ?NL13 _ ?subL13 ?offL13 ?srcL13 ?_; (case FL13 => with_reducible assumption); (case NL13 => with_reducible assumption); (case offL13 => with_reducible assumption); (case subL13 => first | exact fun _ h => h | lcg_sub); (case srcL13 => lcg_src))))); (k_with "own call ref" => (k_here; (with_reducible show wpAny _ _ (call (Value.ref 394) _) _ _ _); k_dflt (refine use_ops (by k_asm) (by k_asm) (by k_asm) (by k_asm) (by k_asm) (by first | exact rfl | assumption) (by ktr_room) (by ktr_units) ?_; intro O9 o9 h9 tk9 F9 N9 hd9 l9; (try simp only [AllLt, and_true] at l9); (try dsimp only); (try k_sweep); (try k_fold)))); (k_with "own call ref" => (k_here; (with_reducible show wpAny _ _ (call (Value.ref 289) _) _ _ _); k_dflt (refine use_limits (by k_asm) (by k_asm) (by k_asm) (by k_asm) (by k_asm) (by first | exact rfl | assumption) (by ktr_room) (by ktr_units) ?_; intro D9 x9 u9 h9 tk9 F9 N9 l9 l10; (try simp only [AllLt, and_true] at l9); (try dsimp only); (try k_sweep); (try k_fold)))); (k_with "own call ref" => (k_here; (with_reducible show wpAny _ _ (call (Value.ref 271) [Value.int _ _, Value.int _ _, Value.int _ _, Value.int _ _, Value.ref _, Value.ref _]) _ _ _); k_dflt (refine' use_calls (sz := 10) ?BL16 ?FL16 ?XL16 ?NL16 ?TL16 ?hkL16 ?CL16 ?roomL16 ?unitsL16 ?_; (case BL16 => k_asm); (case FL16 => k_asm); (case XL16 => k_asm); (case NL16 => k_asm); (case TL16 => k_asm); (case hkL16 => first | exact rfl | assumption); (case roomL16 => ktr_room); (case unitsL16 => ktr_units); (case' CL16 => refine' c_trip_i' _ _ _ _ _ _ _ _ _ _ _ _ _ _ _ _ _ _ _ _ _ ?x1L16 ?x2L16 ?x3L16 ?x4L16 ?x5L16 ?x6L16 ?x7L16 ?x8L16); (case x1L16 => k_mem); (case x2L16 => k_mem); (case x3L16 => k_mem); (case x4L16 => assumption); (case x5L16 => omega); (case x6L16 => omega); (case x7L16 => exact bd_whole (by omega) (by omega)); (case x8L16 => assumption); refine' retI_merge ?hVL16 ?heL16 ?_ ?_; (case hVL16 => with_reducible assumption); (case heL16 => exact tripI_eq _ _ _ _); ((focus (intro hV9; subst hV9; intro e9 g9 h9 tk9 F9 R9 U9; (try dsimp only); (try k_fold))); rotate_left; (focus (intro x9 t9 hV9; subst hV9; intro t9 h9 tk9 F9 N9; (try dsimp only); (try k_sweep); (try k_fold))); rotate_right)))); (k_with "own call ref" => (k_here; (with_reducible show wpAny _ _ (call (Value.ref 271) [Value.int _ _, Value.ref _, Value.ref _, Value.ref _, Value.ref _, Value.ref _]) _ _ _); k_dflt (refine' use_calls (sz := 12) ?rBL17 ?rFL17 ?rXL17 ?rNL17 ?rTL17 ?rhkL17 ?rCL17 ?rroomL17 ?runitsL17 ?_; (case rBL17 => k_asm); (case rFL17 => k_asm); (case rXL17 => k_asm); (case rNL17 => k_asm); (case rTL17 => k_asm); (case rhkL17 => first | exact rfl | assumption); (case rroomL17 => ktr_room); (case runitsL17 => ktr_units); (case' rCL17 => refine' c_trip_r _ _ _ _ _ _ _ _ _ _ _ _ _ _ _ _ _ _ _ _ _ _ _ _ _ ?rx1L17 ?rx2L17 ?rx3L17 ?rx4L17 ?rx5L17 ?rx6L17 ?rx7L17 ?rx8L17 ?rx9L17 ?rx10L17 ?rx11L17 ?rx12L17 ?ry1L17 ?ry2L17 ?ry3L17 ?rz1L17 ?rz2L17 ?rz3L17 ?rz4L17 ?rz5L17 ?rz6L17); (case rx1L17 => k_mem); (case rx2L17 => k_mem); (case rx3L17 => k_mem); (case rx4L17 => assumption); (case rx5L17 => exact .new (by k_mem)); (case rx6L17 => exact .new (by k_mem)); (case rx7L17 => exact .new (by k_mem)); (case rx8L17 => omega); (case rx9L17 => omega); (case rx10L17 => exact kind_cd (by assumption) (by assumption) (by assumption) (by assumption)); (case rx11L17 => omega); (case rx12L17 => omega); (case ry1L17 => assumption); (case ry2L17 => assumption); (case ry3L17 => assumption); (case rz1L17 => assumption); (case rz2L17 => assumption); (case rz3L17 => assumption); (case rz4L17 => assumption); (case rz5L17 => assumption); (case rz6L17 => assumption); refine' retI_merge ?rhVL17 ?rheL17 ?_ ?_; (case rhVL17 => with_reducible assumption); (case rheL17 => exact tripR_eq (by assumption) (by assumption) (by assumption) (by assumption) (by assumption) (by omega)); ((focus (intro hV9; subst hV9; intro e9 g9 h9 tk9 F9 R9 U9; (try dsimp only); (try k_fold))); rotate_left; (focus (intro x9 t9 hV9; subst hV9; intro t9 h9 tk9 F9 N9; (try dsimp only); (try k_sweep); (try k_fold))); rotate_right)))); (k_with "own call ref" => (k_here; k_dflt (refine use_at (by k_asm) (by k_asm) (by k_asm) (by k_asm) (by k_asm) (by first | exact rfl | assumption) (by assumption) (by first | decide | omega) (by first | decide | omega) (by assumption) (by omega) (by ktr_room) (by ktr_units) ?_; intro x9 b1 b2 b3 b4; (intro t9 h9 tk9 F9 N9; (try dsimp only); (try k_sweep); (try k_fold))))); (k_with "own call ref" => (k_here; (with_reducible show wpAny _ _ (call (Value.ref 408) _) _ _ _); k_dflt (refine use_init (by k_asm) (by k_asm) (by k_asm) (by k_asm) (by k_asm) (by first | exact rfl | assumption) (by ktr_room) (by ktr_units) (by assumption) (by assumption) (by assumption) (by assumption) (by assumption) (by assumption) ?_; intro o9 u9 b9 c9 d9 e9; (intro D9 t9 u9 c9 h9 tk9 F9 N9 l9; (try simp only [AllLt, and_true] at l9); (try dsimp only); (try k_sweep); (try k_fold))))); (k_with "own call ref" => (k_here; (with_reducible show wpAny _ _ (call (Value.ref 415) _) _ _ _); k_dflt (refine use_pair (by k_asm) (by k_asm) (by k_asm) (by k_asm) (by k_asm) (by first | exact rfl | assumption) (by ktr_room) (by ktr_units) (by k_mem) (by assumption) (by assumption) ?_; intro x9 y9 b9 c9 d9 e9; (intro D9 t9 u9 c9 h9 tk9 F9 N9 l9; (try simp only [AllLt, and_true] at l9); (try dsimp only); (try k_sweep); (try k_fold))))); (k_with "own call ref" => (k_here; (with_reducible show wpAny _ _ (call (Value.ref 264) [Value.ref _]) _ _ _); k_dflt (refine use_zero (by k_asm) (by k_asm) (by k_asm) (by k_asm) (by k_asm) (by first | exact rfl | assumption) (by ktr_room) (by ktr_units) (by k_mem) (by assumption) ?_; (intro h9 tk9 F9 N9; (try dsimp only); (try k_sweep); (try k_fold))))); (k_with "own call ref" => (k_here; (with_reducible show wpAny _ _ (call (Value.ref 264) [Value.int _ _]) _ _ _); k_dflt (refine use_calls (by k_asm) (by k_asm) (by k_asm) (by k_asm) (by k_asm) (by first | exact rfl | assumption) (c_iszero_i _ _ _ _) (by ktr_room) (by ktr_units) ?_; (dsimp only [RetAt]; intro h9 tk9 F9 N9; (try dsimp only); (try k_sweep); (try k_fold))))); (k_with "own call ref" => (k_here; (with_reducible show wpAny _ _ (call (Value.ref 420) _) _ _ _); k_dflt (first | (refine use_calls (by k_asm) (by k_asm) (by k_asm) (by k_asm) (by k_asm) (by first | exact rfl | assumption) (c_dueI' _ _ _ _ _ _ _ _ _ _ _ _ _ _ _ _ _ _ _ _ _ _ _ _ _ (by assumption) (by k_mem) (by k_mem) (by k_mem) (by omega) (by omega) (bd_whole (by omega) (by omega))) (by ktr_room) (by ktr_units) ?_; ((refine retD_merge ?_; intro V9 h9 tk9 F9 N9 d9; (try dsimp only); (try k_sweep); (try k_fold)))) | (refine use_calls (by k_asm) (by k_asm) (by k_asm) (by k_asm) (by k_asm) (by first | exact rfl | assumption) (c_dueR _ _ _ _ _ _ _ _ _ _ _ _ _ _ _ _ _ _ _ _ _ _ _ _ _ _ _ _ (by k_mem) (by k_mem) (by k_mem) (by omega) (by omega) (by omega) (by assumption) (by assumption) (by omega) (by omega) (by assumption) (by assumption) (by assumption) (by assumption) (by assumption) (by assumption) (by assumption) (by assumption) (by assumption)) (by ktr_room) (by ktr_units) ?_; ((refine retD_merge ?_; intro V9 h9 tk9 F9 N9 d9; (try dsimp only); (try k_sweep); (try k_fold))))))); (k_with "own subscriptTail" => (k_here; (with_reducible show wpAny _ _ (subscriptTail _ _ (Value.ref _) (Value.int (Int.fmod _ 5) _)) _ _ _); with_unfolding_all (refine' item_small ?k1L24 ?k2L24 ?k3L24 ?k4L24 ?_; (case k1L24 => exact News.isTup (by k_asm) (by k_mem)); (case k2L24 => l_ints); (case k3L24 => rfl); (case k4L24 => decide); k_whole); intro t9 v9 b9 c9; (rename News _ _ _ (_ :: _) => Nd9; have Ne9 := news_tail Nd9; clear Nd9))); (k_with "own subscriptTail" => (k_here; (with_reducible show wpAny _ _ (subscriptTail _ _ (Value.ref _) (Value.int (Int.fmod _ 3) _)) _ _ _); with_unfolding_all (refine' item_kind ?k1L25 ?k2L25 ?k3L25 ?k4L25 ?_ ?_; (case k1L25 => exact News.isTup (by k_asm) (by k_mem)); (case k2L25 => l_ints); (case k3L25 => assumption); (case k4L25 => assumption)); (focus (intro e9 t9; (rename News _ _ _ (_ :: _) => Nd9; have Ne9 := news_tail Nd9; clear Nd9))); rotate_left; (focus (intro e9 t9 d9 b9 c9 f9; (rename News _ _ _ (_ :: _) => Nd9; have Ne9 := news_tail Nd9; clear Nd9))); rotate_right)); (k_with "own eval Call" => (k_here; (with_reducible show wpAny _ _ (eval (PySem.Expr.Call (PySem.Expr.Name _ _) _ [] _) _) _ _ _); k_dflt (refine Call_ ?_))); (k_with "own eval Call" => (k_here; exact (kind_no (by with_reducible assumption) (by with_reducible assumption)).elim)); (k_with "own eval Subscript" => (k_here; exact (kind_no (by with_reducible assumption) (by with_reducible assumption)).elim)); (k_with "own execs cons" => (k_here; exact (kind_no (by with_reducible assumption) (by with_reducible assumption)).elim)))
  w_top off
  k_go0
  (all_goals try k_fold)
  repeat' (first | (k_unfold; (try dsimp only)) | walk1 | (dsimp only; walk1) | (leave1; try dsimp only) | fail "no step")
  all_goals first
    | (exact (ne_self (by assumption)).elim)
    | ((try simp only [beq_self_eq_true]); k_steps; done))
end
end
end Mine
theorem PySem.Challenge.cw_no0261_01_holds : PySem.Challenge.rw_no0261_01.Holds := by
  exact Mine.whole
#print axioms PySem.Challenge.cw_no0261_01_holds
