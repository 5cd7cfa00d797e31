import PyProof.Rows.All
import Wide.All
import OpenK.AllK
import Wide.FinOn
import PySem.Challenge.RW_np0173_01
open PySem PySem.W PyProof.Rows
set_option Elab.async false
set_option compiler.extract_closed false
set_option maxRecDepth 100000
set_option maxHeartbeats 8000000
namespace Mine
noncomputable def seenTop : Program := { PySem.Challenge.pw_np0173_01 with main := { PySem.Challenge.pw_np0173_01.main with body := ((PySem.Challenge.pw_np0173_01.main.body.eraseIdx 16).eraseIdx 3).eraseIdx 0 } }
section
set_option hygiene false in
local macro_rules | `(tactic| o_head $H:term) => `(tactic| (
  refine holds_open (q := Mine.seenTop) (loose := []) (Xt := fun s => xlAt Mine.seenTop [] s && recOk (RowW.records (OpenRow.toRowW (OpenLaw.row PySem.Challenge.rw_np0173_01))) s) (XP := XL Mine.seenTop []) (Yf := Hook.obs $H) (Ya := Hook.val $H) (YP := Hook.says $H) (N := 2340) ?hl (Hook.of $H) (Hook.keeps $H) (fun s e => xl_of s (Bool.and_eq_true_iff.mp e).1) XL.keeps (by rfl) (by rfl) (by rfl) (fun s e => recFacts_of (Bool.and_eq_true_iff.mp e).2) (by rfl) (by first | assumption | decide +kernel) (by decide +kernel) ⟨rfl, rfl, rfl, rfl, rfl, by decide +kernel⟩ ?hw ?hc
  (case hl => (intro w; delta openEnds fencedOpening topFrom; rw [PySem.W.Fast.te14364793385576792824, PySem.W.Fast.te10274390034422433532, PySem.W.Fast.te14082659384304107361, PySem.W.Fast.te4187177175401517315, PySem.W.Fast.te14289696077712309145, PySem.W.Fast.te1435165496053646825]; kernel_rfl))))
local macro_rules | `(tactic| o_law) => `(tactic| refine holds_law (by rw [PySem.W.Fast.te9446332074065402090]; decide +kernel) fun said => ?_)
open_top hd for PySem.Challenge.rw_np0173_01
end
local macro_rules | `(tactic| k_qdec) => `(tactic| decide +kernel)
section


theorem nat_xor_add (m : Nat) : ∀ n : Nat, (m ^^^ n) + 2 * (m &&& n) = m + n := by
  induction m using Nat.strongRecOn with
  | ind m ih =>
    intro n
    by_cases h0 : m = 0
    · subst h0; simp
    · have ih' := ih (m / 2) (by omega) (n / 2)
      rw [← Nat.xor_div_two, ← Nat.and_div_two] at ih'
      have o1 := @Nat.xor_mod_two_eq_one m n
      have a1 := @Nat.and_mod_two_eq_one m n
      have d1 := Nat.div_add_mod m 2
      have d2 := Nat.div_add_mod n 2
      have d3 := Nat.div_add_mod (m ^^^ n) 2
      have d4 := Nat.div_add_mod (m &&& n) 2
      clear ih h0
      generalize m ^^^ n = x at *
      generalize m &&& n = y at *
      rcases Nat.mod_two_eq_zero_or_one m with h1 | h1 <;> rcases Nat.mod_two_eq_zero_or_one n with h2 | h2 <;> rcases Nat.mod_two_eq_zero_or_one x with h3 | h3 <;> rcases Nat.mod_two_eq_zero_or_one y with h4 | h4 <;> simp only [h1, h2, h3, h4] at o1 a1 d1 d2 d3 d4 <;> first | (exfalso; revert o1 a1; decide) | (clear o1 a1 h1 h2 h3 h4; omega)
theorem bx_nat (m n : Nat) : Builtin.bitXor (m : Int) (n : Int) = ((m ^^^ n : Nat) : Int) := by
  rw [bitXor_and, bitAnd_pp (by omega) (by omega)]
  have := nat_xor_add m n
  simp only [Int.toNat_natCast]
  omega

noncomputable abbrev GF := BitVec 8
noncomputable def toF (x : Int) : BitVec 8 := BitVec.ofInt 8 x
noncomputable def ofF (x : BitVec 8) : Int := (x.toNat : Int)
noncomputable def Oct (x : Int) : Prop := 0 ≤ x ∧ x < 256
theorem Oct.ge {x : Int} (h : Oct x) : 0 ≤ x := h.1
theorem Oct.lt {x : Int} (h : Oct x) : x < 256 := h.2
theorem oct_ofF (x : BitVec 8) : Oct (ofF x) := ⟨by unfold ofF; omega, by unfold ofF; have := x.isLt; omega⟩
theorem toF_ofF (x : BitVec 8) : toF (ofF x) = x := by unfold toF ofF; simp
theorem toF_nat (n : Nat) : toF (n : Int) = BitVec.ofNat 8 n := by unfold toF; simp
theorem ofF_toF {x : Int} (h : Oct x) : ofF (toF x) = x := by
  obtain ⟨n, rfl⟩ := Int.eq_ofNat_of_zero_le h.1
  have := h.2
  rw [toF_nat]; unfold ofF; simp; omega
theorem oct_xor {x y : Int} (hx : Oct x) (hy : Oct y) : Oct (Builtin.bitXor x y) := by
  obtain ⟨n, rfl⟩ := Int.eq_ofNat_of_zero_le hx.1
  obtain ⟨m, rfl⟩ := Int.eq_ofNat_of_zero_le hy.1
  have h1 := hx.2; have h2 := hy.2
  rw [bx_nat]
  have : n ^^^ m < 2 ^ 8 := Nat.xor_lt_two_pow (by omega) (by omega)
  exact ⟨by omega, by omega⟩
theorem toF_xor {x y : Int} (hx : 0 ≤ x) (hy : 0 ≤ y) : toF (Builtin.bitXor x y) = toF x ^^^ toF y := by
  obtain ⟨n, rfl⟩ := Int.eq_ofNat_of_zero_le hx
  obtain ⟨m, rfl⟩ := Int.eq_ofNat_of_zero_le hy
  rw [bx_nat, toF_nat, toF_nat, toF_nat]; simp
theorem xor_ofF (x y : BitVec 8) : Builtin.bitXor (ofF x) (ofF y) = ofF (x ^^^ y) := by unfold ofF; rw [bx_nat]; simp
theorem ofF_inj {x y : BitVec 8} (h : ofF x = ofF y) : x = y := by rw [← toF_ofF x, h, toF_ofF]
theorem oct_ind {P : Int → Prop} (h : ∀ x : BitVec 8, P (ofF x)) {x : Int} (hx : Oct x) : P x := ofF_toF hx ▸ h (toF x)

/-- twice, in the field -/
noncomputable def gdbl (x : BitVec 8) : BitVec 8 := if x.msb then (x <<< 1) ^^^ 0x1d#8 else x <<< 1
noncomputable def dblI (x : Int) : Int := if 127 < x then Builtin.bitXor (x * 2) 285 else x * 2
theorem dbl_ofF (x : BitVec 8) : dblI (ofF x) = ofF (gdbl x) := by
  revert x; decide +kernel
noncomputable def gmulGo : Nat → BitVec 8 → BitVec 8 → BitVec 8 → BitVec 8
  | 0, f, _, _ => f
  | n+1, f, x, y => gmulGo n (if y.getLsbD 0 then f ^^^ x else f) (gdbl x) (y >>> 1)
noncomputable def gmul (x y : BitVec 8) : BitVec 8 := gmulGo 8 0 x y
theorem gmulGo_zero : ∀ n f x, gmulGo n f x 0 = f := by
  intro n
  induction n with
  | zero => intros; rfl
  | succ n ih => intro f x; unfold gmulGo; simpa using ih f (gdbl x)
theorem gmulGo_more (n : Nat) : ∀ k f x y, n ≤ 8 → y.toNat < 2 ^ n → gmulGo (n + k) f x y = gmulGo n f x y := by
  induction n with
  | zero => intro k f x y _ h; have : y = 0 := by apply BitVec.eq_of_toNat_eq; simp; omega
            subst this; rw [gmulGo_zero, gmulGo_zero]
  | succ n ih =>
    intro k f x y hn h
    rw [show n + 1 + k = (n + k) + 1 from by omega]
    show gmulGo (n + k) _ _ _ = gmulGo n _ _ _
    refine ih k _ _ _ (by omega) ?_
    rw [BitVec.toNat_ushiftRight, Nat.shiftRight_eq_div_pow]
    rw [Nat.pow_succ] at h
    omega
noncomputable def mulI (x y : Int) : Int := ofF (gmul (toF x) (toF y))
theorem oct_mulI (x y : Int) : Oct (mulI x y) := oct_ofF _
theorem mulI_ofF (x y : BitVec 8) : mulI (ofF x) (ofF y) = ofF (gmul x y) := by unfold mulI; rw [toF_ofF, toF_ofF]
theorem oct_dbl {x : Int} (h : Oct x) : Oct (dblI x) := oct_ind (P := fun x => Oct (dblI x)) (fun x => by rw [dbl_ofF]; exact oct_ofF _) h
theorem toF_dbl {x : Int} (h : Oct x) : toF (dblI x) = gdbl (toF x) := oct_ind (P := fun x => toF (dblI x) = gdbl (toF x)) (fun x => by rw [dbl_ofF, toF_ofF, toF_ofF]) h
theorem oct_half {y : Int} (h : Oct y) : Oct (y.fdiv 2) := by
  rw [Int.fdiv_eq_ediv_of_nonneg _ (by decide)]; have := h.1; have := h.2; exact ⟨by omega, by omega⟩
theorem toF_half {y : Int} (h : Oct y) : toF (y.fdiv 2) = toF y >>> 1 := by
  refine oct_ind (P := fun y => toF (y.fdiv 2) = toF y >>> 1) (fun y => ?_) h
  rw [toF_ofF]; revert y; decide +kernel
theorem bit_toF {y : Int} (h : Oct y) : (toF y).getLsbD 0 = decide (Builtin.bitAnd y 1 = 1) := by
  refine oct_ind (P := fun y => (toF y).getLsbD 0 = decide (Builtin.bitAnd y 1 = 1)) (fun y => ?_) h
  rw [toF_ofF]; revert y; decide +kernel

noncomputable def MulInv (x y f x' y' : Int) : Prop := Oct f ∧ Oct x' ∧ Oct y' ∧ gmulGo 8 (toF f) (toF x') (toF y') = gmul (toF x) (toF y)
theorem MulInv.x {x y f x' y' : Int} (I : MulInv x y f x' y') : Oct x' := I.2.1
theorem mul_start {x y : Int} (hx : Oct x) (hy : Oct y) : MulInv x y 0 x y := ⟨⟨by decide, by decide⟩, hx, hy, rfl⟩
theorem gmulGo_turn (f x y : BitVec 8) : gmulGo 8 (if y.getLsbD 0 then f ^^^ x else f) (gdbl x) (y >>> 1) = gmulGo 8 f x y := by
  have h := gmulGo_more 8 1 f x y (by decide) y.isLt
  exact h
theorem mul_turn1 {x y f x' y' : Int} (I : MulInv x y f x' y') (hb : Builtin.bitAnd y' 1 = 1) : MulInv x y (Builtin.bitXor f x') (dblI x') (y'.fdiv 2) := by
  obtain ⟨hf, hx, hy, e⟩ := I
  refine ⟨oct_xor hf hx, oct_dbl hx, oct_half hy, ?_⟩
  rw [← e, toF_xor hf.1 hx.1, toF_dbl hx, toF_half hy, ← gmulGo_turn (toF f) (toF x'), bit_toF hy, hb]; simp
theorem mul_turn0 {x y f x' y' : Int} (I : MulInv x y f x' y') (hb : ¬ Builtin.bitAnd y' 1 = 1) : MulInv x y f (dblI x') (y'.fdiv 2) := by
  obtain ⟨hf, hx, hy, e⟩ := I
  refine ⟨hf, oct_dbl hx, oct_half hy, ?_⟩
  rw [← e, toF_dbl hx, toF_half hy, ← gmulGo_turn (toF f) (toF x'), bit_toF hy]; simp [hb]
theorem half_lt {y : Int} (h : 0 < y) : (y.fdiv (2 ^ Int.toNat 1)).toNat < y.toNat := by
  rw [show (2 : Int) ^ Int.toNat 1 = 2 from rfl, Int.fdiv_eq_ediv_of_nonneg _ (by decide)]; omega
theorem mul_end {x y f x' y' : Int} (I : MulInv x y f x' y') (h : ¬ 0 < y') : f = mulI x y := by
  obtain ⟨hf, hx, hy, e⟩ := I
  have := hy.1
  obtain rfl : y' = 0 := by omega
  unfold mulI
  rw [← e, show toF 0 = 0 from rfl, gmulGo_zero, ofF_toF hf]

theorem xor4 (a b c d : BitVec 8) : (a ^^^ b) ^^^ (c ^^^ d) = (a ^^^ c) ^^^ (b ^^^ d) := by
  rw [BitVec.xor_assoc, BitVec.xor_assoc, ← BitVec.xor_assoc b c d, BitVec.xor_comm b c, BitVec.xor_assoc c b d]
theorem gdbl_xor (a b : BitVec 8) : gdbl (a ^^^ b) = gdbl a ^^^ gdbl b := by
  unfold gdbl
  rw [BitVec.msb_xor, BitVec.shiftLeft_xor_distrib]
  cases a.msb <;> cases b.msb <;> simp [BitVec.xor_assoc]
  · exact BitVec.xor_comm _ _
  · rw [BitVec.xor_comm (b <<< 1) 29#8, ← BitVec.xor_assoc]; simp
theorem gmulGo_xl : ∀ n (f g x x' y : BitVec 8), gmulGo n (f ^^^ g) (x ^^^ x') y = gmulGo n f x y ^^^ gmulGo n g x' y := by
  intro n
  induction n with
  | zero => intros; rfl
  | succ n ih =>
    intro f g x x' y
    show gmulGo n _ _ _ = gmulGo n _ _ _ ^^^ gmulGo n _ _ _
    rw [gdbl_xor, ← ih]
    congr 1
    split
    · rw [xor4]
    · rfl
theorem gmulGo_xr : ∀ n (f g x y z : BitVec 8), gmulGo n (f ^^^ g) x (y ^^^ z) = gmulGo n f x y ^^^ gmulGo n g x z := by
  intro n
  induction n with
  | zero => intros; rfl
  | succ n ih =>
    intro f g x y z
    show gmulGo n _ _ _ = gmulGo n _ _ _ ^^^ gmulGo n _ _ _
    rw [BitVec.ushiftRight_xor_distrib, ← ih]
    congr 1
    rw [BitVec.getLsbD_xor]
    cases y.getLsbD 0 <;> cases z.getLsbD 0 <;> simp [BitVec.xor_assoc]
    · exact BitVec.xor_comm _ _
    · rw [BitVec.xor_comm g x, ← BitVec.xor_assoc]; simp
theorem gmul_xl (x x' y : BitVec 8) : gmul (x ^^^ x') y = gmul x y ^^^ gmul x' y := by
  have := gmulGo_xl 8 0 0 x x' y
  simpa [gmul] using this
theorem gmul_xr (x y z : BitVec 8) : gmul x (y ^^^ z) = gmul x y ^^^ gmul x z := by
  have := gmulGo_xr 8 0 0 x y z
  simpa [gmul] using this
theorem bit_ind {P : BitVec 8 → Prop} (h0 : P 0) (hx : ∀ a b, P a → P b → P (a ^^^ b)) (hb : ∀ i : Fin 8, P (1#8 <<< i.val)) : ∀ x, P x := by
  have e : ∀ x : BitVec 8, x = (if x.getLsbD 0 then 1#8 <<< 0 else 0) ^^^ ((if x.getLsbD 1 then 1#8 <<< 1 else 0) ^^^ ((if x.getLsbD 2 then 1#8 <<< 2 else 0) ^^^ ((if x.getLsbD 3 then 1#8 <<< 3 else 0) ^^^ ((if x.getLsbD 4 then 1#8 <<< 4 else 0) ^^^ ((if x.getLsbD 5 then 1#8 <<< 5 else 0) ^^^ ((if x.getLsbD 6 then 1#8 <<< 6 else 0) ^^^ (if x.getLsbD 7 then 1#8 <<< 7 else 0))))))) := by decide +kernel
  have one : ∀ (b : Bool) (i : Fin 8), P (if b then 1#8 <<< i.val else 0) := fun b i => by cases b; exact h0; exact hb i
  intro x
  rw [e x]
  exact hx _ _ (one _ 0) (hx _ _ (one _ 1) (hx _ _ (one _ 2) (hx _ _ (one _ 3) (hx _ _ (one _ 4) (hx _ _ (one _ 5) (hx _ _ (one _ 6) (one _ 7)))))))
theorem gmul_zl (y : BitVec 8) : gmul 0 y = 0 := by revert y; decide +kernel
theorem gmul_zr (y : BitVec 8) : gmul y 0 = 0 := by revert y; decide +kernel
theorem gmul_comm (x y : BitVec 8) : gmul x y = gmul y x := by
  refine bit_ind (P := fun x => gmul x y = gmul y x) (by rw [gmul_zl, gmul_zr]) (fun a b ha hb => by rw [gmul_xl, gmul_xr, ha, hb]) (fun i => ?_) x
  refine bit_ind (P := fun y => gmul (1#8 <<< i.val) y = gmul y (1#8 <<< i.val)) (by rw [gmul_zl, gmul_zr]) (fun a b ha hb => by rw [gmul_xl, gmul_xr, ha, hb]) (fun j => ?_) y
  revert i j; decide +kernel
theorem gmul_assoc (x y z : BitVec 8) : gmul (gmul x y) z = gmul x (gmul y z) := by
  refine bit_ind (P := fun x => gmul (gmul x y) z = gmul x (gmul y z)) (by simp only [gmul_zl]) (fun a b ha hb => by simp only [gmul_xl, ha, hb]) (fun i => ?_) x
  refine bit_ind (P := fun y => gmul (gmul (1#8 <<< i.val) y) z = gmul (1#8 <<< i.val) (gmul y z)) (by simp only [gmul_zl, gmul_zr]) (fun a b ha hb => by simp only [gmul_xl, gmul_xr, ha, hb]) (fun j => ?_) y
  refine bit_ind (P := fun z => gmul (gmul (1#8 <<< i.val) (1#8 <<< j.val)) z = gmul (1#8 <<< i.val) (gmul (1#8 <<< j.val) z)) (by simp only [gmul_zr]) (fun a b ha hb => by simp only [gmul_xr, ha, hb]) (fun k => ?_) z
  revert i j k; decide +kernel
theorem gmul_one (x : BitVec 8) : gmul x 1 = x := by revert x; decide +kernel
theorem gmul_one' (x : BitVec 8) : gmul 1 x = x := by revert x; decide +kernel

/-- powers -/
noncomputable def gpw (x : BitVec 8) : Nat → BitVec 8
  | 0 => 1
  | n+1 => gmul (gpw x n) x
theorem gpw_add (x : BitVec 8) (a : Nat) : ∀ b, gpw x (a + b) = gmul (gpw x a) (gpw x b) := by
  intro b
  induction b with
  | zero => show gpw x a = gmul (gpw x a) 1; rw [gmul_one]
  | succ b ih => show gmul (gpw x (a + b)) x = gmul (gpw x a) (gmul (gpw x b) x); rw [ih, gmul_assoc]
theorem gpw_sq (x : BitVec 8) (n : Nat) : gpw (gmul x x) n = gpw x (2 * n) := by
  induction n with
  | zero => rfl
  | succ n ih => show gmul (gpw (gmul x x) n) (gmul x x) = gmul (gmul (gpw x (2 * n)) x) x; rw [ih, gmul_assoc]
noncomputable def powI (x m : Int) : Int := ofF (gpw (toF x) m.toNat)
theorem oct_powI (x m : Int) : Oct (powI x m) := oct_ofF _
noncomputable def PowInv (x m f x' m' : Int) : Prop := Oct f ∧ Oct x' ∧ (0 ≤ m' ∧ m' < 4096) ∧ gmul (toF f) (gpw (toF x') m'.toNat) = gpw (toF x) m.toNat
theorem PowInv.f {x m f x' m' : Int} (I : PowInv x m f x' m') : Oct f := I.1
theorem PowInv.x {x m f x' m' : Int} (I : PowInv x m f x' m') : Oct x' := I.2.1
theorem pow_start {x m : Int} (hx : Oct x) (h0 : 0 ≤ m ∧ m < 4096) : PowInv x m 1 x m := ⟨⟨by decide, by decide⟩, hx, h0, by rw [show toF 1 = 1 from rfl, gmul_one']⟩
theorem toF_mulI (x y : Int) : toF (mulI x y) = gmul (toF x) (toF y) := toF_ofF _
theorem pow_turn1 {x m f x' m' : Int} (I : PowInv x m f x' m') (hb : Builtin.bitAnd m' 1 = 1) : PowInv x m (mulI f x') (mulI x' x') (m'.fdiv (2 ^ Int.toNat 1)) := by
  obtain ⟨hf, hx, hm, e⟩ := I
  rw [bitAnd_m1] at hb
  rw [show (2 : Int) ^ Int.toNat 1 = 2 from rfl, Int.fdiv_eq_ediv_of_nonneg _ (by decide)]
  refine ⟨oct_mulI _ _, oct_mulI _ _, ⟨by omega, by omega⟩, ?_⟩
  rw [← e, toF_mulI, toF_mulI, gpw_sq, gmul_assoc, show m'.toNat = 1 + 2 * (m' / 2).toNat from by omega, gpw_add]
  show _ = gmul (toF f) (gmul (gmul 1 (toF x')) _)
  rw [gmul_one']
theorem pow_turn0 {x m f x' m' : Int} (I : PowInv x m f x' m') (hb : ¬ Builtin.bitAnd m' 1 = 1) : PowInv x m f (mulI x' x') (m'.fdiv (2 ^ Int.toNat 1)) := by
  obtain ⟨hf, hx, hm, e⟩ := I
  rw [bitAnd_m1] at hb
  rw [show (2 : Int) ^ Int.toNat 1 = 2 from rfl, Int.fdiv_eq_ediv_of_nonneg _ (by decide)]
  refine ⟨hf, oct_mulI _ _, ⟨by omega, by omega⟩, ?_⟩
  rw [← e, toF_mulI, gpw_sq, show m'.toNat = 2 * (m' / 2).toNat from by omega]
theorem pow_end {x m f x' m' : Int} (I : PowInv x m f x' m') (h : ¬ 0 < m') : f = powI x m := by
  obtain ⟨hf, hx, hm, e⟩ := I
  unfold powI
  rw [← e, show m'.toNat = 0 from by omega]
  show f = ofF (gmul (toF f) 1)
  rw [gmul_one, ofF_toF hf]

/-- the law's own long product -/
noncomputable def lpI (x y : Int) : Nat → Int
  | 0 => 0
  | k+1 => Builtin.bitXor (lpI x y k) ((x * 2 ^ k) * Builtin.bitAnd (y.fdiv (2 ^ k)) 1)
noncomputable def rdI (f p : Int) : Int := if Builtin.bitAnd (f.fdiv (2 ^ p.toNat)) 1 = 1 then Builtin.bitXor f (285 * 2 ^ (p - 8).toNat) else f
noncomputable def lpN (x y : Nat) : Nat → Nat
  | 0 => 0
  | k+1 => lpN x y k ^^^ (if y.testBit k then x <<< k else 0)
noncomputable def rdN (f p : Nat) : Nat := if f.testBit p then f ^^^ (285 <<< (p - 8)) else f
theorem bit_nat (y k : Nat) : Builtin.bitAnd ((y : Int).fdiv (2 ^ k)) 1 = if y.testBit k then 1 else 0 := by
  rw [bitAnd_m1, Int.fdiv_eq_ediv_of_nonneg _ (by have := kbt_pos k; omega), ← kbt_cast, ← Int.natCast_ediv]
  rw [Nat.testBit_eq_decide_div_mod_eq]
  generalize y / 2 ^ k = z
  by_cases h : z % 2 = 1
  · rw [if_pos (by simp [h])]; omega
  · rw [if_neg (by simp [h])]; omega
theorem lp_nat (x y : Nat) : ∀ k, lpI x y k = (lpN x y k : Int) := by
  intro k
  induction k with
  | zero => rfl
  | succ k ih =>
    show Builtin.bitXor _ _ = _
    rw [ih, bit_nat]
    have : ((x : Int) * 2 ^ k * (if y.testBit k then 1 else 0)) = ((if y.testBit k then x <<< k else 0 : Nat) : Int) := by
      split
      · rw [Nat.shiftLeft_eq, Int.natCast_mul, kbt_cast, Int.mul_one]
      · simp
    rw [this, bx_nat]
    rfl
theorem rd_nat (f p : Nat) (hp : 8 ≤ p) : rdI f p = (rdN f p : Int) := by
  unfold rdI rdN
  rw [Int.toNat_natCast, bit_nat, show ((p : Int) - 8).toNat = p - 8 from by omega]
  have e : (285 : Int) * (2 : Int) ^ (p - 8) = (((285 : Nat) <<< (p - 8) : Nat) : Int) := by rw [Nat.shiftLeft_eq, Int.natCast_mul, kbt_cast]; rfl
  by_cases h : f.testBit p = true
  · rw [if_pos h, if_pos h, if_pos rfl, e, bx_nat]
  · rw [if_neg h, if_neg h, if_neg (by decide)]
theorem nx4 (a b c d : Nat) : (a ^^^ b) ^^^ (c ^^^ d) = (a ^^^ c) ^^^ (b ^^^ d) := by
  rw [Nat.xor_assoc, Nat.xor_assoc, ← Nat.xor_assoc b c d, Nat.xor_comm b c, Nat.xor_assoc c b d]
theorem nxx (a b : Nat) : (a ^^^ b) ^^^ b = a := by rw [Nat.xor_assoc, Nat.xor_self, Nat.xor_zero]
theorem lpN_xl (x x' y : Nat) : ∀ k, lpN (x ^^^ x') y k = lpN x y k ^^^ lpN x' y k := by
  intro k
  induction k with
  | zero => simp [lpN]
  | succ k ih =>
    show lpN _ _ k ^^^ _ = (lpN _ _ k ^^^ _) ^^^ (lpN _ _ k ^^^ _)
    rw [ih, nx4]
    congr 1
    split
    · exact Nat.shiftLeft_xor_distrib ..
    · rfl
theorem lpN_xr (x y z : Nat) : ∀ k, lpN x (y ^^^ z) k = lpN x y k ^^^ lpN x z k := by
  intro k
  induction k with
  | zero => simp [lpN]
  | succ k ih =>
    show lpN _ _ k ^^^ _ = (lpN _ _ k ^^^ _) ^^^ (lpN _ _ k ^^^ _)
    rw [ih, nx4]
    congr 1
    rw [Nat.testBit_xor]
    cases y.testBit k <;> cases z.testBit k <;> simp
theorem rdN_x (f g p : Nat) : rdN (f ^^^ g) p = rdN f p ^^^ rdN g p := by
  unfold rdN
  rw [Nat.testBit_xor]
  cases f.testBit p <;> cases g.testBit p <;> simp
  · rw [Nat.xor_assoc]
  · rw [Nat.xor_assoc, Nat.xor_assoc, Nat.xor_comm g]
  · rw [nx4, Nat.xor_self, Nat.xor_zero]
noncomputable def rdsN (f : Nat) : Nat := rdN (rdN (rdN (rdN (rdN (rdN (rdN f 14) 13) 12) 11) 10) 9) 8
theorem rdsN_x (f g : Nat) : rdsN (f ^^^ g) = rdsN f ^^^ rdsN g := by unfold rdsN; simp only [rdN_x]
theorem long_nat (a b : BitVec 8) : rdsN (lpN a.toNat b.toNat 8) = (gmul a b).toNat := by
  have base : ∀ i j : Fin 8, rdsN (lpN (1#8 <<< i.val).toNat (1#8 <<< j.val).toNat 8) = (gmul (1#8 <<< i.val) (1#8 <<< j.val)).toNat := by decide +kernel
  have z1 : ∀ y, lpN 0 y 8 = 0 := fun y => by simp [lpN]
  have z2 : ∀ x, lpN x 0 8 = 0 := fun x => by simp [lpN]
  have z3 : rdsN 0 = 0 := by decide
  refine bit_ind (P := fun a => rdsN (lpN a.toNat b.toNat 8) = (gmul a b).toNat) ?_ (fun x y hx hy => ?_) (fun i => ?_) a
  · rw [gmul_zl]; show rdsN (lpN 0 _ 8) = 0; rw [z1, z3]
  · rw [gmul_xl, BitVec.toNat_xor, BitVec.toNat_xor, lpN_xl, rdsN_x, hx, hy]
  refine bit_ind (P := fun b => rdsN (lpN (1#8 <<< i.val).toNat b.toNat 8) = (gmul (1#8 <<< i.val) b).toNat) ?_ (fun x y hx hy => ?_) (fun j => base i j) b
  · rw [gmul_zr]; show rdsN (lpN _ 0 8) = 0; rw [z2, z3]
  · rw [gmul_xr, BitVec.toNat_xor, BitVec.toNat_xor, lpN_xr, rdsN_x, hx, hy]
theorem long_mul {x y : Int} (hx : Oct x) (hy : Oct y) : [14, 13, 12, 11, 10, 9, 8].foldl rdI (lpI x y 8) = mulI x y := by
  refine oct_ind (P := fun x => [14, 13, 12, 11, 10, 9, 8].foldl rdI (lpI x y 8) = mulI x y) (fun a => ?_) hx
  refine oct_ind (P := fun y => [14, 13, 12, 11, 10, 9, 8].foldl rdI (lpI (ofF a) y 8) = mulI (ofF a) y) (fun b => ?_) hy
  rw [mulI_ofF]
  unfold ofF
  rw [lp_nat, ← long_nat]
  simp only [List.foldl_cons, List.foldl_nil]
  rw [show (14 : Int) = ((14 : Nat) : Int) from rfl, show (13 : Int) = ((13 : Nat) : Int) from rfl, show (12 : Int) = ((12 : Nat) : Int) from rfl, show (11 : Int) = ((11 : Nat) : Int) from rfl, show (10 : Int) = ((10 : Nat) : Int) from rfl, show (9 : Int) = ((9 : Nat) : Int) from rfl, show (8 : Int) = ((8 : Nat) : Int) from rfl]
  rw [rd_nat _ _ (by decide), rd_nat _ _ (by decide), rd_nat _ _ (by decide), rd_nat _ _ (by decide), rd_nat _ _ (by decide), rd_nat _ _ (by decide), rd_nat _ _ (by decide)]
  rfl

/-- the law's menu -/
noncomputable def elemI (x : Int) : Int := if x.fmod 4 = 0 then [0, 1, 2, 128, 142, 255].getD ((x.fdiv 4).fmod 6).toNat 0 else (x.fdiv 4).fmod 256
theorem oct_elemI (x : Int) : Oct (elemI x) := by
  unfold elemI
  split
  · have h0 := Int.fmod_nonneg_of_pos (x.fdiv 4) (show (0 : Int) < 6 by decide)
    have h1 := Int.fmod_lt_of_pos (x.fdiv 4) (show (0 : Int) < 6 by decide)
    generalize (x.fdiv 4).fmod 6 = z at h0 h1
    have : z = 0 ∨ z = 1 ∨ z = 2 ∨ z = 3 ∨ z = 4 ∨ z = 5 := by omega
    rcases this with rfl | rfl | rfl | rfl | rfl | rfl <;> exact ⟨by decide, by decide⟩
  · exact ⟨Int.fmod_nonneg_of_pos _ (by decide), Int.fmod_lt_of_pos _ (by decide)⟩
noncomputable def digI (ns : List Int) (i : Int) : Int := if i < ns.length then ns.getD i.toNat 0 else 37 * i + 2

/-- the law's power: the bits from above -/
theorem lpow_turn1 {x n f : Int} {p : Nat} (hx : Oct x) (hn : 0 ≤ n) (e : f = powI x (n.fdiv (2 ^ (p + 1)))) (hb : Builtin.bitAnd (n.fdiv (2 ^ p)) 1 = 1) : mulI (mulI f f) x = powI x (n.fdiv (2 ^ p)) := by
  obtain ⟨n, rfl⟩ := Int.eq_ofNat_of_zero_le hn
  rw [Int.fdiv_eq_ediv_of_nonneg _ (by have := kbt_pos p; omega)] at hb ⊢
  rw [Int.fdiv_eq_ediv_of_nonneg _ (by have := kbt_pos (p + 1); omega)] at e
  rw [bitAnd_m1, ← kbt_cast, ← Int.natCast_ediv] at hb
  rw [← kbt_cast, ← Int.natCast_ediv] at e ⊢
  have h2 : n / 2 ^ (p + 1) = n / 2 ^ p / 2 := by rw [Nat.pow_succ, Nat.div_div_eq_div_mul]
  rw [h2] at e
  generalize n / 2 ^ p = k at *
  subst e
  unfold powI
  rw [mulI_ofF, ← ofF_toF hx, mulI_ofF, toF_ofF, Int.toNat_natCast, Int.toNat_natCast, ← gpw_add]
  show ofF (gpw (toF x) ((k / 2 + k / 2) + 1)) = _
  congr 2
  omega
theorem lpow_turn0 {x n f : Int} {p : Nat} (hn : 0 ≤ n) (e : f = powI x (n.fdiv (2 ^ (p + 1)))) (hb : ¬ Builtin.bitAnd (n.fdiv (2 ^ p)) 1 = 1) : mulI f f = powI x (n.fdiv (2 ^ p)) := by
  obtain ⟨n, rfl⟩ := Int.eq_ofNat_of_zero_le hn
  rw [Int.fdiv_eq_ediv_of_nonneg _ (by have := kbt_pos p; omega)] at hb ⊢
  rw [Int.fdiv_eq_ediv_of_nonneg _ (by have := kbt_pos (p + 1); omega)] at e
  rw [bitAnd_m1, ← kbt_cast, ← Int.natCast_ediv] at hb
  rw [← kbt_cast, ← Int.natCast_ediv] at e ⊢
  have h2 : n / 2 ^ (p + 1) = n / 2 ^ p / 2 := by rw [Nat.pow_succ, Nat.div_div_eq_div_mul]
  rw [h2] at e
  generalize n / 2 ^ p = k at *
  subst e
  unfold powI
  rw [mulI_ofF, Int.toNat_natCast, Int.toNat_natCast, ← gpw_add]
  congr 2
  omega

theorem bit1_range (z : Int) : 0 ≤ Builtin.bitAnd z 1 ∧ Builtin.bitAnd z 1 < 2 := by rw [bitAnd_m1]; omega
theorem bit1_ok (a z : Int) : IntMulOk a (Builtin.bitAnd z 1) := IntMulOk.of_right (intBits_le_64 (by have := bit1_range z; omega) (by have := bit1_range z; omega))

theorem times_s0 (x y : Int) : (0 : Int) = lpI x y ([] : List Int).length := rfl
theorem times_t1 {x y f k : Int} {pre : List Int} (h : f = lpI x y pre.length) (e : k = 0 + (pre.length : Int)) : Builtin.bitXor f (x * 2 ^ k.toNat * Builtin.bitAnd (y.fdiv (2 ^ k.toNat)) 1) = lpI x y (pre ++ [k]).length := by
  rw [List.length_append, List.length_singleton, h, show k.toNat = pre.length from by omega]; rfl
theorem times_s1 {x y f : Int} {n : Nat} (h : f = lpI x y n) (hn : n = 8) : ([] : List Int).foldl rdI (lpI x y 8) = f := by rw [h, hn]; rfl
theorem times_t2 {x y f k : Int} {pre : List Int} (h : pre.foldl rdI (lpI x y 8) = f) (hb : Builtin.bitAnd (f.fdiv (2 ^ k.toNat)) 1 = 1) : (pre ++ [k]).foldl rdI (lpI x y 8) = Builtin.bitXor f (285 * 2 ^ (k - 8).toNat) := by
  rw [List.foldl_append, h]
  show rdI f k = _
  unfold rdI
  rw [if_pos hb]
theorem times_t3 {x y f k : Int} {pre : List Int} (h : pre.foldl rdI (lpI x y 8) = f) (hb : ¬ Builtin.bitAnd (f.fdiv (2 ^ k.toNat)) 1 = 1) : (pre ++ [k]).foldl rdI (lpI x y 8) = f := by
  rw [List.foldl_append, h]
  show rdI f k = _
  unfold rdI
  rw [if_neg hb]

theorem times_end {x y f : Int} {l : List Int} (h : l.foldl rdI (lpI x y 8) = f) (hl : l = [14, 13, 12, 11, 10, 9, 8]) (hx : Oct x) (hy : Oct y) : f = mulI x y := by rw [← h, hl, long_mul hx hy]

theorem oct_of_pow {f a b : Int} (h : f = powI a b) : Oct f := h ▸ oct_powI _ _
theorem lp_s {x n : Int} (hn : 0 ≤ n ∧ n < 4096) : (1 : Int) = powI x (n.fdiv (2 ^ (12 - ([] : List Int).length))) := by
  show (1 : Int) = powI x (n.fdiv (2 ^ 12))
  rw [Int.fdiv_eq_ediv_of_nonneg _ (by decide), show n / 2 ^ 12 = 0 from by omega]; rfl
theorem lp_t1 {x n f k : Int} {pre : List Int} (h : f = powI x (n.fdiv (2 ^ (12 - pre.length)))) (e : k = 11 - (pre.length : Int)) (lt : pre.length < (11 - -1 : Int).toNat) (hx : Oct x) (hn : 0 ≤ n ∧ n < 4096) (hb : Builtin.bitAnd (n.fdiv (2 ^ k.toNat)) 1 = 1) :
    mulI (mulI f f) x = powI x (n.fdiv (2 ^ (12 - (pre ++ [k]).length))) := by
  rw [List.length_append, List.length_singleton, show 12 - (pre.length + 1) = k.toNat from by omega]
  exact lpow_turn1 hx hn.1 (by rw [h, show 12 - pre.length = k.toNat + 1 from by omega]) hb
theorem lp_t0 {x n f k : Int} {pre : List Int} (h : f = powI x (n.fdiv (2 ^ (12 - pre.length)))) (e : k = 11 - (pre.length : Int)) (lt : pre.length < (11 - -1 : Int).toNat) (hx : Oct x) (hn : 0 ≤ n ∧ n < 4096) (hb : ¬ Builtin.bitAnd (n.fdiv (2 ^ k.toNat)) 1 = 1) :
    mulI f f = powI x (n.fdiv (2 ^ (12 - (pre ++ [k]).length))) := by
  rw [List.length_append, List.length_singleton, show 12 - (pre.length + 1) = k.toNat from by omega]
  exact lpow_turn0 hn.1 (by rw [h, show 12 - pre.length = k.toNat + 1 from by omega]) hb
theorem lp_end {x n f : Int} {l : List Int} (h : f = powI x (n.fdiv (2 ^ (12 - l.length)))) (hl : l.length = 12) : f = powI x n := by
  rw [h, hl]; show powI x (n.fdiv (2 ^ 0)) = _; simp

end
section
/-- the program whose law it is -/
noncomputable def lawProg : Program := PySem.Challenge.rw_np0173_01.row.prog
noncomputable abbrev Ret := Heap → Addr → (Str → Option Value) → List (Addr × Obj) → Shared → (Value → Shared → Prop) → (Value → Shared → Prop) → List Env → Prop
/-- what a call of the def at f with the values vs does, whoever calls -/
noncomputable def Tells (w : World) (p : Program) (loose : List Str) (mean : ExcName → Option Value) (mg mb : Str → Option Value) (d : Nat) (f : Addr) (news : CbLed) (vs : List Value) (R : Ret) : Prop :=
  ∀ (dp un : Nat) (gd : Option (List Code)) (cn : Str) (cs : Scope) (a : Addr) (ccd : Value) (cl : List (Str × Addr)) (outer : List Env) (A₀ : Around) (base h₀ : Heap) (L : Addr) (m : Str → Option Value) (s : Shared) (Q E : Value → Shared → Prop),
    Below A₀ base outer h₀ → Fr h₀ L s.heap m → (hd.heap_1 w.params).In h₀ → News h₀ L s.heap news → Top p loose mean mg mb h₀ → cs.kind = .function → dp + d < recursionLimit → un + 8 * d < cLine →
    R h₀ L m news s Q E (envX cn cs L a ccd cl :: outer) →
    wpAny (model lawProg w) (ktrTop dp un gd cn cs L a ccd cl outer) (call (.ref f) vs) Q E s

noncomputable def AllNe (d : Addr) : List (Addr × Obj) → Prop
  | [] => True
  | p :: r => @Ne Nat p.1 d ∧ AllNe d r
theorem allNe_of {d : Addr} : ∀ {l : List (Addr × Obj)}, (∀ p ∈ l, p.1 ≠ d) → AllNe d l
  | [], _ => trivial
  | p :: _, h => ⟨h p (.head _), allNe_of fun q hq => h q (.tail _ hq)⟩

noncomputable abbrev RetI (x : Int) : Ret := fun h₀ L m news s Q _ _ => ∀ (t : Tok) (h' : Heap) (tk' : Nat), Fr h₀ L h' m → News h₀ L h' news → Q (.int x t) { s with heap := h', toks := tk' }
noncomputable abbrev RetB (x : Bool) : Ret := fun h₀ L m news s Q _ _ => ∀ (h' : Heap) (tk' : Nat), Fr h₀ L h' m → News h₀ L h' news → Q (.bool x) { s with heap := h', toks := tk' }
noncomputable abbrev RetY (x : Array UInt8) : Ret := fun h₀ L m news s Q _ _ => ∀ (t : Tok) (h' : Heap) (tk' : Nat), Fr h₀ L h' m → News h₀ L h' news → Q (.bytes x t) { s with heap := h', toks := tk' }
noncomputable abbrev RetL (ns : List Int) : Ret := fun h₀ L m news s Q _ _ => ∀ (a : Addr) (vs : List Value) (n : Nat) (h' : Heap) (tk' : Nat), Fr h₀ L h' m → News h₀ L h' ((a, listOf vs.toArray n) :: news) → (∀ p ∈ news, p.1 ≠ a) → IntsAre vs ns → Q (.ref a) { s with heap := h', toks := tk' }

section
variable {w : World} {p : Program} {loose : List Str} {mean : ExcName → Option Value} {mg mb : Str → Option Value} {d : Nat} {f : Addr} {news : CbLed} {vs : List Value} {R : Ret}
  {dp un : Nat} {gd : Option (List Code)} {cn : Str} {cs : Scope} {a : Addr} {ccd : Value} {cl : List (Str × Addr)} {outer : List Env} {A₀ : Around} {base h₀ : Heap} {L : Addr} {m : Str → Option Value} {s : Shared} {Q E : Value → Shared → Prop}
theorem tell (C : Tells w p loose mean mg mb d f news vs R) (B : Below A₀ base outer h₀) (F : Fr h₀ L s.heap m) (X : (hd.heap_1 w.params).In h₀) (N : News h₀ L s.heap news) (T : Top p loose mean mg mb h₀) (hk : cs.kind = .function) (hd : dp + d < recursionLimit) (hu : un + 8 * d < cLine)
    (ret : R h₀ L m news s Q E (envX cn cs L a ccd cl :: outer)) : wpAny (model lawProg w) (ktrTop dp un gd cn cs L a ccd cl outer) (call (.ref f) vs) Q E s := C _ _ _ _ _ _ _ _ _ _ _ _ _ _ _ _ _ B F X N T hk hd hu ret
end

section
open PySem.Calls
variable {prog : Program} {w : World} {A A₀ : Around} {s : Shared} {base h₀ : Heap} {outer : List Env} {L : Addr} {m : Str → Option Value} {env : Env} {news : List (Addr × Obj)} {K : Frag} {p : Program} {loose : List Str} {mean : ExcName → Option Value} {mg mb : Str → Option Value}
  {R : Result → Shared → Prop} {name qual : Str} {params : Arguments} {body : List Stmt} {scope : Scope} {dV kV doc pm cdv ct oc : Value} {an od : Option Addr} {osl : Array (Option Value)} {f : Addr} {args : Args} {vals : List Value} {binds : List (Str × Value)}

/-- the caller's ledger when the callee has kept all that stood at its start -/
theorem newsBack {h₁ h' : Heap} {L' : Addr} {m' : Str → Option Value} (N : News h₀ L h₁ news) (F' : Fr h₁ L' h' m') : News h₀ L h' news := fun q hq => ⟨F'.keep _ _ (N q hq).1, (N q hq).2⟩
theorem newsBack1 {h₁ h' : Heap} {L' : Addr} {m' : Str → Option Value} {a : Addr} {o : Obj} {tl : List (Addr × Obj)} (N : News h₀ L h₁ news) (F' : Fr h₁ L' h' m') (N' : News h₀ L h' ((a, o) :: tl)) : News h₀ L h' ((a, o) :: news) := fun q hq => by
  rcases List.mem_cons.mp hq with rfl | hq
  · exact N' _ (.head _)
  · exact newsBack N F' q hq
theorem neBack {h₁ h' : Heap} {L' : Addr} {a : Addr} {o : Obj} {tl : List (Addr × Obj)} (N : News h₀ L h₁ news) (N' : News h₁ L' h' ((a, o) :: tl)) : ∀ q ∈ news, q.1 ≠ a := fun q hq e => by
  have h1 := (N q hq).1
  have h2 := (N' _ (.head _)).2.2
  dsimp only at h2
  rw [e, h2] at h1
  cases h1

theorem leaveE (F : Fr h₀ L s.heap m) {v : Value} {s' : Shared} (hl : LeaveK h₀ L m s.heap R v s') : R (.ok (.ret v)) s' := by
  obtain ⟨L', m', news', F', N', k⟩ := hl
  obtain ⟨oL, es, ep, hL, hLd, hLk, hLf⟩ := F.ns
  refine k ⟨⟨oL, es, ep, F'.keep L oL hL, hLd, hLk, hLf⟩, fun b o e => F'.keep b o (F.keep b o e), F.above⟩ fun q hq => ⟨(N' q hq).1, fun e => ?_, ?_⟩
  · have := (N' q hq).2.2; rw [e, hL] at this; cases this
  · cases z : h₀.get? q.1 with
    | none => rfl
    | some o => have := (N' q hq).2.2; rw [F.keep _ _ z] at this; cases this
theorem belowE (B : Below A₀ base outer h₀) (F : Fr h₀ L s.heap m) (hA : A.frames = some (env :: outer)) (hf : env.frame = some L) (hke : env.scope.kind = .function) : Below A base (env :: outer) s.heap :=
  ⟨hA, fun b o e => F.keep b o (B.stays b o e), (pushX B F hf hke).frames⟩

theorem enterE (B : Below A₀ base outer h₀) (F : Fr h₀ L s.heap m) (X₀ : K.In h₀) (T : Top p loose mean mg mb h₀) (hA : A.frames = some (env :: outer)) (hf : env.frame = some L) (hke : env.scope.kind = .function)
    (ho : K.lookup f = some ⟨oc, od, .func (fnOf name qual params body scope dV kV doc pm an cdv ct), osl⟩) (hcd : codeIn K cdv qual = true) (hroom : A.depth < recursionLimit)
    (hbind : BindsTo s (fnOf name qual params body scope dV kV doc pm an cdv ct) ⟨vals, []⟩ ((params.args.map (·.arg)).zip vals)) (hloc : ∀ y ∈ (params.args.map (·.arg)).zip vals, scope.names.lookup y.1 = some .local)
    (h : ∀ L' h₁ tk, Fr s.heap L' h₁ (fun y => ((params.args.map (·.arg)).zip vals).reverse.lookup y) → Below A base (env :: outer) s.heap → K.In s.heap → Top p loose mean mg mb s.heap →
      wpAny (model prog w) (A.deeper (envOf qual scope L' f cdv)) (execs body (envOf qual scope L' f cdv))
        (fun fl s' => LeaveK h₀ L m s.heap R (match fl with | .ret v => v | _ => .none) s')
        (fun e s' => wpAny (model prog w) (A.deeper (envOf qual scope L' f cdv)) (leaving (envOf qual scope L' f cdv) e) (fun _ s'' => R (.error e) s'') (fun e' s'' => R (.error e') s'') s')
        { s with heap := h₁, toks := tk })
    (hco : scope.isCoroutine = false) (hgen : scope.isGenerator = false) (hk : scope.kind = .function)
    (hcell : ∀ x ∈ scope.names, x.2 ≠ .cell) : codeAny (model prog w) A (.call (.ref f) ⟨vals, []⟩) R s := by
  refine codeAny_call_def (fd := fnOf name qual params body scope dV kV doc pm an cdv ct) (body := body) (binds := (params.args.map (·.arg)).zip vals) hroom ((X₀.keeps F.keep) _ _ ho) rfl (T.nolimit.keeps F.keep) (codeRec_of (X₀.keeps F.keep) hcd) rfl hbind hcell hloc (fun h₁ hns hk₁ => ?_) hco hgen hk
  exact wpAny_mono (h s.heap.objs.size h₁ _ ⟨hns, hk₁, Nat.le_refl _⟩ (belowE B F hA hf hke) (X₀.keeps F.keep) (T.keeps F.keep)) (fun fl s' hl => leaveE F hl) fun _ _ y => y

theorem enterC (B : Below A₀ base outer h₀) (F : Fr h₀ L s.heap m) (X₀ : K.In h₀) (T : Top p loose mean mg mb h₀) (hA : A.frames = some (env :: outer)) (hf : env.frame = some L) (hke : env.scope.kind = .function)
    (ho : K.lookup f = some ⟨oc, od, .func (fnOf name qual params body scope dV kV doc pm an cdv ct), osl⟩) (hcd : codeIn K cdv qual = true) (hroom : A.depth < recursionLimit)
    (hbind : BindsTo s (fnOf name qual params body scope dV kV doc pm an cdv ct) ⟨vals, []⟩ ((params.args.map (·.arg)).zip vals)) (hkind : (((params.args.map (·.arg)).zip vals).all fun y => scope.names.lookup y.1 == some .local || scope.names.lookup y.1 == some .cell) = true)
    (hnd : ((cellsFrom 0 scope.names []).map (·.1)).Nodup)
    (h : ∀ L' h₁ tk cells, Fr s.heap L' h₁ (bindL (envOfC qual scope L' f cdv).kindOf ((params.args.map (·.arg)).zip vals) fun _ => none) → News s.heap L' h₁ cells →
      CellsAre (bindC (envOfC qual scope L' f cdv).kindOf ((params.args.map (·.arg)).zip vals) fun _ => none) (cellsFrom (L' + 1) scope.names []) cells → Below A base (env :: outer) s.heap → K.In s.heap → Top p loose mean mg mb s.heap →
      wpAny (model prog w) (A.deeper (envOfC qual scope L' f cdv)) (execs body (envOfC qual scope L' f cdv))
        (fun fl s' => LeaveK h₀ L m s.heap R (match fl with | .ret v => v | _ => .none) s')
        (fun e s' => wpAny (model prog w) (A.deeper (envOfC qual scope L' f cdv)) (leaving (envOfC qual scope L' f cdv) e) (fun _ s'' => R (.error e) s'') (fun e' s'' => R (.error e') s'') s')
        { s with heap := h₁, toks := tk })
    (hco : scope.isCoroutine = false) (hgen : scope.isGenerator = false) (hk : scope.kind = .function) : codeAny (model prog w) A (.call (.ref f) ⟨vals, []⟩) R s := by
  refine codeAny_call_function hroom ((X₀.keeps F.keep) _ _ ho) rfl hco hgen rfl (codeRec_of (X₀.keeps F.keep) hcd) (hbind _ _ _ _ ?_)
  refine wpAny_newFunctionEnv_cells hk (kindsX hkind _) fun env' he s' x => ?_
  subst he
  refine ⟨(T.nolimit.keeps F.keep).keeps x.toInCall.keep, codeAny_func ?_⟩
  obtain ⟨h₁, tk, rfl, _⟩ := x.done
  obtain ⟨cells, NC, Y⟩ := Cl.news (h₀ := s.heap) (Nat.le_refl _) fun n c hm => ⟨x.cell n c (lookup_of_mem_nodup (cellsFrom_names scope.names 0 (s.heap.objs.size + 1) [] [] rfl ▸ hnd) hm), x.above n c hm⟩
  exact wpAny_mono (h s.heap.objs.size h₁ tk cells ⟨x.toInCall.ns, x.toInCall.keep, Nat.le_refl _⟩ NC Y (belowE B F hA hf hke) (X₀.keeps F.keep) (T.keeps F.keep)) (fun fl s' hl => leaveE F hl) fun _ _ y => y
end
section
open PySem.Calls PyProof.Rows.LCg
variable {M : Model} {A : Around} {E : Value → Shared → Prop} {s : Shared} {h₀ : Heap} {L C c : Addr} {m : Str → Option Value} {news : List (Addr × Obj)} {scope : Scope} {cl : List (Str × Addr)} {env : Env} {x : Str} {pos : Pos} {v : Value} {o : Obj} {Q : Value → Shared → Prop}
theorem ld_ccell (hk : (compEnvC scope cl C env).scope.kind = .function) (hx : (compEnvC scope cl C env).kindOf x = some .cell) (hb : (x == ("__debug__" : Str)) = false) (hc : cl.lookup x = some c) (N : News h₀ L s.heap news) (hm : (c, o) ∈ news) (hd : o.data = .cell (some v)) (h : Q v s) :
    wpAny M A (eval (.Name x pos) (compEnvC scope cl C env)) Q E s := wpAny_Name (wpAny_loadName_cell hk hx hc ⟨o, N.get hm, hd⟩ h) hb
end

end
local macro_rules | `(tactic| tbn_conj) => `(tactic| (intro t9 h9 tk9 F9 N9; (try dsimp only); (try k_sweep); (try k_fold)))
local macro_rules | `(tactic| k_mem) => `(tactic| (refine List.mem_cons_of_mem _ ?_; refine (by assumption : ∀ p ∈ _, p ∈ _) _ ?_; k_mem))
local macro_rules | `(tactic| k_mem) => `(tactic| with_reducible assumption)
local macro_rules | `(tactic| walk_at "subscriptTail") => `(tactic| (k_here; (with_reducible show wpAny _ _ (subscriptTail (PySem.Expr.List _ _) _ (Value.ref _) (Value.int _ _)) _ _ _); (with_unfolding_all refine' item_list_intsR (ns := [0, 1, 2, 128, 142, 255]) ?k1 ?k2 ?k3 ?k4 ?k5 ?_; (case k1 => is_list); (case k2 => exact .cons _ _ (.cons _ _ (.cons _ _ (.cons _ _ (.cons _ _ (.cons _ _ .nil)))))); (case k3 => exact Int.fmod_nonneg_of_pos _ (by decide)); (case k4 => exact Int.fmod_lt_of_pos _ (by decide)); (case k5 => exact Int.lt_trans (Int.fmod_lt_of_pos _ (by decide)) (by decide)); k_whole); intro _; (try dsimp only)))
local macro_rules | `(tactic| walk_at $s:str) => `(tactic| k_extra $s)
theorem fill_all : PySem.Challenge.rw_np0173_01 = PySem.Challenge.rw_np0173_01 ∧ hd.heap_1 = hd.heap_1 := by
  k_fill
  k_with "tb_start" =>
      tb_start
  k_with "tb_start" =>
      (
        intro dp un gd cn cs a ccd cl outer A₀ base h₀ L m s Q E B F X N T hk hd hu hret
        refine wpAny_call ?_
        k_dflt (refine' enterE B F X T ?kA ?kF ?kK ?k6 ?k7 ?k8 ?k9 ?kB ?_ ?c2 ?c3 ?c4 ?c5; (case kA => exact rfl); (case kF => exact rfl); (case kK => assumption); (case k6 => k_is); (case k7 => k_is); (case k8 => ktr_room); (case k9 => exact BindsTo.of_eq rfl); (case c5 => decide); (case kB => exact locs rfl); (case c2 => exact rfl); (case c3 => exact rfl); (case c4 => exact rfl); k_whole; intro L' h' tk' F' B' X' T'; (have N' : News s.heap L' h' [] := News.nil); (try simp only [List.map_cons, List.map_nil, List.zip_cons_cons, List.zip_nil_right, List.zip_nil_left, List.reverse_cons, List.nil_append, List.cons_append, List.reverse_nil] at F'); (try dsimp only); (try k_fold)))
  k_with "kt_ors" =>
      kt_ors
  k_with "kt_ors" =>
      (
        intro dp un gd cn cs a ccd cl outer A₀ base h₀ L m s Q E B F X N T hk hd hu hret
        refine wpAny_call ?_
        k_dflt (refine' enterC B F X T ?kA ?kF ?kK ?k6 ?k7 ?k8 ?k9 ?kB ?kD ?_ ?c2 ?c3 ?c4; (case kA => exact rfl); (case kF => exact rfl); (case kK => assumption); (case k6 => k_is); (case k7 => k_is); (case k8 => ktr_room); (case k9 => exact BindsTo.of_eq rfl); (case kB => exact rfl); (case kD => decide +kernel); (case c2 => exact rfl); (case c3 => exact rfl); (case c4 => exact rfl); k_whole; intro L' h' tk' cells' F' N' Y' B' X' T'; k_cells Y'; (try simp only [List.map_cons, List.map_nil, List.zip_cons_cons, List.zip_nil_right, List.zip_nil_left] at F'); (try dsimp only); (try k_fold)))
  k_with "tb_rel" =>
      tb_rel
  k_with "tb_rel" =>
      first
        | with_reducible assumption
        | with_reducible exact oct_mulI _ _
        | with_reducible exact oct_ofF _
        | with_reducible exact oct_powI _ _
        | with_reducible exact oct_elemI _
        | exact MulInv.x (by with_reducible assumption)
        | exact PowInv.f (by with_reducible assumption)
        | exact PowInv.x (by with_reducible assumption)
        | exact oct_of_pow (by with_reducible assumption)
        | (refine oct_xor ?_ ?_ <;> k_extra "tb_rel")
        | (refine oct_dbl ?_; k_extra "tb_rel")
        | (refine oct_half ?_; k_extra "tb_rel")
        | exact ⟨by omega, by omega⟩
        | fail "no octet"
  k_with "kwd_rel" =>
      kwd_rel
  k_with "kwd_rel" =>
      first | omega | ktr_room
  k_with "kwd_less" =>
      kwd_less
  k_with "kwd_less" =>
      first | omega | ktr_units
  k_with "call ref" =>
      (k_here; (with_reducible show wpAny _ _ (call (Value.ref 53) _) _ _ _); k_dflt (refine' tell (double_tells _ _ _ (by k_extra "tb_rel")) (by k_asm) (by k_asm) (by k_asm) (by k_asm) (by k_asm) (by first | exact rfl | assumption) (by k_extra "kwd_rel") (by k_extra "kwd_less") ?_); tbn_conj)
  k_with "call ref" =>
      (k_here; (with_reducible show wpAny _ _ (call (Value.ref 60) _) _ _ _); k_dflt (refine' tell (mul_tells _ _ _ _ _ (by k_extra "tb_rel") (by k_extra "tb_rel")) (by k_asm) (by k_asm) (by k_asm) (by k_asm) (by k_asm) (by first | exact rfl | assumption) (by k_extra "kwd_rel") (by k_extra "kwd_less") ?_); tbn_conj)
  k_with "call ref" =>
      (k_here; (with_reducible show wpAny _ _ (call (Value.ref 134) _) _ _ _); k_dflt (refine' tell (times_tells _ _ _ _ _ (by k_extra "tb_rel") (by k_extra "tb_rel")) (by k_asm) (by k_asm) (by k_asm) (by k_asm) (by k_asm) (by first | exact rfl | assumption) (by k_extra "kwd_rel") (by k_extra "kwd_less") ?_); tbn_conj)
  k_with "binaryOp Mult int int" =>
      with_reducible (refine mul_int ?_ (bit1_ok _ _))
  k_with "binaryOp LShift int int" =>
      with_reducible (refine lshift_int_small (by omega) (by omega) (by omega) ?_)
  k_with "call ref" =>
      (k_here; (with_reducible show wpAny _ _ (call (Value.ref 67) _) _ _ _); k_dflt (refine' tell (power_tells _ _ _ _ _ (by k_extra "tb_rel") (by k_extra "kba_ints")) (by k_asm) (by k_asm) (by k_asm) (by k_asm) (by k_asm) (by first | exact rfl | assumption) (by k_extra "kwd_rel") (by k_extra "kwd_less") ?_); tbn_conj)
  k_with "call ref" =>
      (k_here; (with_reducible show wpAny _ _ (call (Value.ref 127) _) _ _ _); k_dflt (refine' tell (element_tells _ _ _) (by k_asm) (by k_asm) (by k_asm) (by k_asm) (by k_asm) (by first | exact rfl | assumption) (by k_extra "kwd_rel") (by k_extra "kwd_less") ?_); tbn_conj)
  k_with "call ref" =>
      (k_here; (with_reducible show wpAny _ _ (call (Value.ref 120) _) _ _ _); k_dflt (refine' tell (digit_tells _ _ _ _ _ _ (by l_ints) (by assumption) (by k_extra "kba_ints")) (by k_asm) (by k_asm) (by k_asm) (by k_asm) (by k_asm) (by first | exact rfl | assumption) (by k_extra "kwd_rel") (by k_extra "kwd_less") ⟨by is_list, ?_⟩); tbn_conj)
  k_with "call ref" =>
      (k_here; (with_reducible show wpAny _ _ (call (Value.ref 141) _) _ _ _); k_dflt (refine' tell (lpower_tells _ _ _ _ _ (by k_extra "tb_rel") (by k_extra "kba_ints")) (by k_asm) (by k_asm) (by k_asm) (by k_asm) (by k_asm) (by first | exact rfl | assumption) (by k_extra "kwd_rel") (by k_extra "kwd_less") ?_); tbn_conj)
  k_with "kba_ints" =>
      kba_ints
  k_with "kba_ints" =>
      first | with_reducible assumption | exact ⟨by omega, by omega⟩
  k_with "kd_p" =>
      kd_p
  k_with "kd_p" =>
      (first | ((fail_if_success (with_reducible show wpAny _ _ (PySem.eval (PySem.Expr.ListComp _ _ _ _) _) _ _ _)); (fail_if_success (with_reducible show wpAny _ _ (PySem.call (Value.type "zip") _) _ _ _)); first | (k_unfold; (try dsimp only)) | (k_end; wrow_close) | walk1 | (dsimp only; walk1) | (leave1; walk_say "STEP leave1"; try dsimp only)) | fail "no step")
  k_with "kd_adr" =>
      kd_adr
  k_with "kd_adr" =>
      repeat' k_extra "kd_p"
  k_with "eval Name" =>
      (k_here; (with_reducible show wpAny _ _ (PySem.eval _ (compEnvC _ _ _ _)) _ _ _); k_dflt (first
        | (refine' LCgL.ld_own (by k_asm) (List.Mem.head _) (by assumption) (by assumption) ?_ (by rfl) (by rfl) (by decide); k_whole)
        | (refine' LCgL.ld_global (by k_asm) (by k_asm) (by k_asm) (by k_is) ?_ (by rfl) (by rfl) (by rfl) (by decide); k_whole)
        | (refine' ld_ccell (by rfl) (by rfl) (by decide) (by rfl) (by k_asm) (by k_mem) (by assumption) ?_; k_whole)))
  k_with "call type:bytes" =>
      (k_here; (with_reducible show wpAny _ _ (call (Value.type "bytes") [Value.bytes _ _]) _ _ _); (refine call_bytes_bytes ?_); (try dsimp only))
  k_with "call type:bytes" =>
      (k_here; (with_reducible show wpAny _ _ (call (Value.type "bytes") [Value.int _ _]) _ _ _); (refine call_bytes_intK (by omega) (by omega) ?_); (intro _ _ _ kbz); (try dsimp only))
  k_with "call ref" =>
      (k_here; (with_reducible show wpAny _ _ (call (Value.ref 86) _) _ _ _); k_dflt (refine' tell (doubled_tells _ _ _ _ (by k_extra "kct_strs") (by k_extra "kat_tups")) (by k_asm) (by k_asm) (by k_asm) (by k_asm) (by k_asm) (by first | exact rfl | assumption) (by k_extra "kwd_rel") (by k_extra "kwd_less") ?_); (intro b9 t9 h9 tk9 e9 F9 N9; (try dsimp only); (try k_sweep); (try k_fold)))
  k_with "call ref" =>
      (k_here; (with_reducible show wpAny _ _ (call (Value.ref 91) _) _ _ _); k_dflt (refine' tell (added_tells _ _ _ _ _ _ _ (by k_extra "kct_strs") (by k_extra "kct_strs") (by k_extra "kat_tups") (by k_extra "kat_tups")) (by k_asm) (by k_asm) (by k_asm) (by k_asm) (by k_asm) (by first | exact rfl | assumption) (by k_extra "kwd_rel") (by k_extra "kwd_less") ?_); (intro b9 t9 h9 tk9 e9 F9 N9; (try dsimp only); (try k_sweep); (try k_fold)))
  k_with "kct_strs" =>
      kct_strs
  k_with "kct_strs" =>
      first | with_reducible assumption | exact KBa.ints_make (by with_reducible assumption) | exact rfl
  k_with "kat_tups" =>
      kat_tups
  k_with "kat_tups" =>
      first | omega | exact ScInv.lf (by with_reducible assumption) (by omega) | exact ScInv.lo (by with_reducible assumption) (by omega) | fail "kat_tups"
  k_with "binaryOp FloorDiv int int" =>
      (k_here; (with_reducible show wpAny _ _ (binaryOp Operator.FloorDiv (Value.int _ _) (Value.int (_ ^ _) _)) _ _ _); (refine floordiv_int (PwOk.ne (by with_reducible assumption)) ?_ (Or.inl (PyProof.noPylong_small (PwOk.lt (by with_reducible assumption))))))
  k_with "call ref" =>
      (k_here; (with_reducible show wpAny _ _ (call (Value.ref 98) _) _ _ _); k_dflt (refine' tell (scaled_tells _ _ _ _ _ _ (by k_extra "kct_strs") (by k_extra "kat_tups") (by k_extra "tb_rel")) (by k_asm) (by k_asm) (by k_asm) (by k_asm) (by k_asm) (by first | exact rfl | assumption) (by k_extra "kwd_rel") (by k_extra "kwd_less") ?_); (intro b9 t9 h9 tk9 e9 F9 N9; (try dsimp only); (try k_sweep); (try k_fold)))
  k_with "call ref" =>
      (k_here; (with_reducible show wpAny _ _ (call (Value.ref 146) _) _ _ _); k_dflt (refine' tell (lrow_tells _ _ _ _ _ _ (by l_ints) (by assumption) (by k_extra "kba_ints")) (by k_asm) (by k_asm) (by k_asm) (by k_asm) (by k_asm) (by first | exact rfl | assumption) (by k_extra "kwd_rel") (by k_extra "kwd_less") ⟨by is_list, ?_⟩); (intro b9 t9 h9 tk9 e9 F9 N9; (try dsimp only); (try k_sweep); (try k_fold)))
  k_with "compareOp NotEq ref ref" =>
      (k_here; (with_reducible show wpAny _ _ (compareOp CmpOp.NotEq (Value.ref _) (Value.ref _)) _ _ _); k_dflt (refine ne_pair_bytes (by k_asm) (by k_mem) (by k_mem) (by k_extra "kct_strs") (by k_extra "kct_strs") (by k_extra "kct_strs") (by k_extra "kct_strs") (by with_reducible assumption) (by with_reducible assumption) (by ke_room) ?_))
  k_with "compareOp NotEq bytes bytes" =>
      (k_here; k_dflt (refine ne_bytes_same (by k_extra "kct_strs") (by k_extra "kct_strs") ?_))
  k_with "compareOp Eq bytes bytes" =>
      (k_here; k_dflt (refine eq_bytes_same (by k_extra "kct_strs") (by k_extra "kct_strs") ?_))
  k_with "call ref" =>
      (k_here; (with_reducible show wpAny _ _ (call (Value.ref 44) [Value.str _ _]) _ _ _); k_dflt (refine' mis_call (by k_asm) (by k_asm) (by k_asm) (by k_asm) (by first | exact rfl | assumption) (by k_extra "kwd_rel") ?_; k_whole; (intro h9 tk9 e9 t9 dd9 kp9 new9 he9; (try dsimp only))))
  k_with "exec Raise some none" =>
      (k_here; k_dflt (refine' raise_own (C := 44) (nm := "Misused") (q := "Misused") (N := 43) (bs := [.ref 31]) (bm := [.ref 31, .type "Exception", .type "BaseException", .type "object"]) (hdct := true) (sn := []) (sub := []) (ab := false) (col := none) (dd := none) (k0 := some (.ref 35)) (k1 := none) (k2 := some (.str "Misused" 218)) (k3 := some (.str "Misused" 226)) (k5 := some (.bool true)) (newId := "Exception.__new__") (by decide) rfl ?_))
  k_with "call ref" =>
      (k_here; (with_reducible show wpAny _ _ (call (Value.ref 74) _) _ _ _); k_dflt (refine' tell (inverse_tells _ _ _ (by k_extra "tb_rel") (by with_reducible assumption)) (by k_asm) (by k_asm) (by k_asm) (by k_asm) (by k_asm) (by first | exact rfl | assumption) (by k_extra "kwd_rel") (by k_extra "kwd_less") ?_); tbn_conj)
  k_with "call ref" =>
      (k_here; (with_reducible show wpAny _ _ (call (Value.ref 74) [Value.int 0 _]) _ _ _); k_dflt (refine' tellX (inverse0_tells _ _) (by k_asm) (by k_asm) (by k_asm) (by k_asm) (by k_asm) (by first | exact rfl | assumption) (by k_extra "kwd_rel") (by k_extra "kwd_less") ?_); (intro e9 h9 tk9 R9 U9; (try dsimp only)))
  k_with "call ref" =>
      (k_here; (with_reducible show wpAny _ _ (call (Value.ref 81) _) _ _ _); k_dflt (refine' tell (divided_tells _ _ _ _ _ (by k_extra "tb_rel") (by k_extra "tb_rel") (by with_reducible assumption)) (by k_asm) (by k_asm) (by k_asm) (by k_asm) (by k_asm) (by first | exact rfl | assumption) (by k_extra "kwd_rel") (by k_extra "kwd_less") ?_); tbn_conj)
  k_with "call ref" =>
      (k_here; (with_reducible show wpAny _ _ (call (Value.ref 81) [_, Value.int 0 _]) _ _ _); k_dflt (refine' tellX (divided0_tells _ _ _ _) (by k_asm) (by k_asm) (by k_asm) (by k_asm) (by k_asm) (by first | exact rfl | assumption) (by k_extra "kwd_rel") (by k_extra "kwd_less") ?_); (intro e9 h9 tk9 R9 U9; (try dsimp only)))
  k_with "kfm_cat1@Turn1" =>
      kfm_cat1
  k_with "kfm_cat1@Turn1" =>
      first | with_reducible assumption | with_reducible exact List.Mem.head _ | (refine List.mem_cons_of_mem _ ?_; k_extra "kfm_cat1@Turn1")
  k_with "kfm_run@Turn1" =>
      kfm_run
  k_with "kfm_run@Turn1" =>
      (intro q hq; (repeat (rcases List.mem_cons.mp hq with rfl | hq; · k_extra "kfm_cat1@Turn1")); k_extra "kfm_cat1@Turn1")
  k_with "kfm_eq@Turn1" =>
      kfm_eq
  k_with "kfm_eq@Turn1" =>
      ((fail_if_success (with_reducible show REnd _ _ _ _ _ _ _ _ _)); (fail_if_success (with_reducible show wpAny _ _ (PySem.pyIter (Value.ref _)) _ _ _)); (fail_if_success (with_reducible show wpAny _ _ (PyProof.Rows.subscriptTail _ _ (Value.ref _) _) _ _ _)); (fail_if_success (with_reducible show wpAny _ _ (PySem.compareOp _ (Value.ref _) (Value.ref _)) _ _ _)); (fail_if_success (with_reducible show wpAny _ _ (PySem.exec (PySem.Stmt.For _ _ _ _ _) _) _ _ _)); (fail_if_success (with_reducible show wpAny _ _ (PySem.setItem _ _ _) _ _ _)); (fail_if_success (with_reducible show wpAny _ _ (PySem.call (Value.ref 108) _) _ _ _)); (fail_if_success (with_reducible show wpAny _ _ (PySem.call (Value.ref 113) _) _ _ _)); k_extra "kd_p")
  k_with "kfm_num@Turn1" =>
      kfm_num
  k_with "kfm_num@Turn1" =>
      repeat' k_extra "kfm_eq@Turn1"
  k_with "kfm_cat1@Sum1" =>
      kfm_cat1
  k_with "kfm_cat1@Sum1" =>
      first | with_reducible assumption | with_reducible exact List.Mem.head _ | (refine List.mem_cons_of_mem _ ?_; k_extra "kfm_cat1@Sum1")
  k_with "kfm_run@Sum1" =>
      kfm_run
  k_with "kfm_run@Sum1" =>
      (intro q hq; (repeat (rcases List.mem_cons.mp hq with rfl | hq; · k_extra "kfm_cat1@Sum1")); k_extra "kfm_cat1@Sum1")
  k_with "kfm_eq@Sum1" =>
      kfm_eq
  k_with "kfm_eq@Sum1" =>
      ((fail_if_success (with_reducible show RowPost _ _ _ _ _ _ _ _)); (fail_if_success (with_reducible show REnd2 _ _ _ _ _ _ _ _ _ _ _)); (fail_if_success (with_reducible show wpAny _ _ (PySem.call (Value.ref 170) _) _ _ _)); (fail_if_success (with_reducible show wpAny _ _ (PySem.binaryOp _ (Value.ref _) (Value.ref _)) _ _ _)); (fail_if_success (with_reducible show REnd _ _ _ _ _ _ _ _ _)); (fail_if_success (with_reducible show wpAny _ _ (PySem.pyIter (Value.ref _)) _ _ _)); (fail_if_success (with_reducible show wpAny _ _ (PyProof.Rows.subscriptTail _ _ (Value.ref _) _) _ _ _)); (fail_if_success (with_reducible show wpAny _ _ (PySem.compareOp _ (Value.ref _) (Value.ref _)) _ _ _)); (fail_if_success (with_reducible show wpAny _ _ (PySem.exec (PySem.Stmt.For _ _ _ _ _) _) _ _ _)); (fail_if_success (with_reducible show wpAny _ _ (PySem.setItem _ _ _) _ _ _)); (fail_if_success (with_reducible show wpAny _ _ (PySem.call (Value.ref 108) _) _ _ _)); (fail_if_success (with_reducible show wpAny _ _ (PySem.call (Value.ref 113) _) _ _ _)); k_extra "kd_p")
  k_with "kfm_num@Sum1" =>
      kfm_num
  k_with "kfm_num@Sum1" =>
      repeat' k_extra "kfm_eq@Sum1"
  k_with "kfm_cat1@Sq1" =>
      kfm_cat1
  k_with "kfm_cat1@Sq1" =>
      first | with_reducible assumption | with_reducible exact List.Mem.head _ | (refine List.mem_cons_of_mem _ ?_; k_extra "kfm_cat1@Sq1")
  k_with "kfm_run@Sq1" =>
      kfm_run
  k_with "kfm_run@Sq1" =>
      (intro q hq; (repeat (rcases List.mem_cons.mp hq with rfl | hq; · k_extra "kfm_cat1@Sq1")); k_extra "kfm_cat1@Sq1")
  k_with "kwk_eq@Sq1" =>
      kwk_eq
  k_with "kwk_eq@Sq1" =>
      ((fail_if_success (with_reducible show RowPost _ _ _ _ _ _ _ _)); (fail_if_success (with_reducible show REnd _ _ _ _ _ _ _ _ _)); (fail_if_success (with_reducible show wpAny _ _ (PySem.call (Value.ref 170) _) _ _ _)); (fail_if_success (with_reducible show wpAny _ _ (PySem.call (Value.ref 103) _) _ _ _)); (fail_if_success (with_reducible show wpAny _ _ (PySem.call (Value.ref 153) _) _ _ _)); (fail_if_success (with_reducible show wpAny _ _ (PySem.eval (PySem.Expr.Lambda _ _ _ _) _) _ _ _)); (fail_if_success (with_reducible show wpAny _ _ (PySem.binaryOp _ (Value.ref _) (Value.ref _)) _ _ _)); (fail_if_success (with_reducible show wpAny _ _ (PySem.pyIter (Value.ref _)) _ _ _)); (fail_if_success (with_reducible show wpAny _ _ (PyProof.Rows.subscriptTail _ _ (Value.ref _) _) _ _ _)); (fail_if_success (with_reducible show wpAny _ _ (PySem.compareOp _ (Value.ref _) (Value.ref _)) _ _ _)); (fail_if_success (with_reducible show wpAny _ _ (PySem.exec (PySem.Stmt.For _ _ _ _ _) _) _ _ _)); (fail_if_success (with_reducible show wpAny _ _ (PySem.exec (PySem.Stmt.If _ _ _ _) _) _ _ _)); (fail_if_success (with_reducible show wpAny _ _ (PySem.exec (PySem.Stmt.Assign _ (PySem.Expr.ListComp _ _ _ _) _) _) _ _ _)); (fail_if_success (with_reducible show wpAny _ _ (PySem.setItem _ _ _) _ _ _)); (fail_if_success (with_reducible show wpAny _ _ (PySem.call (Value.type "list") _) _ _ _)); k_extra "kd_p")
  k_with "kwk_ne@Sq1" =>
      kwk_ne
  k_with "kwk_ne@Sq1" =>
      repeat' k_extra "kwk_eq@Sq1"
  k_with "kso_len@Law1" =>
      kso_len
  k_with "kso_len@Law1" =>
      ((fail_if_success (with_reducible show wpAny _ _ (PySem.call (Value.ref 160) _) _ _ _)); (fail_if_success (with_reducible show wpAny _ _ (PySem.call (Value.ref 165) _) _ _ _)); (fail_if_success (with_reducible show wpAny _ _ (PySem.call (Value.ref 175) _) _ _ _)); (fail_if_success (with_reducible show wpAny _ _ (PySem.exec (PySem.Stmt.For _ _ _ _ _) _) _ _ _)); (fail_if_success (with_reducible show wpAny _ _ (PySem.pyIter (Value.ref _)) _ _ _)); (fail_if_success (with_reducible show REndT _ _ _ _ _ _ _ _ _ _ _)); k_extra "kd_p")
  k_with "kso_list@Law1" =>
      kso_list
  k_with "kso_list@Law1" =>
      repeat' k_extra "kso_len@Law1"
  exact ⟨rfl, rfl⟩
section
section
variable {w : World} {mean : ExcName → Option Value} {mg mb : Str → Option Value} {p : Program} {loose : List Str}

theorem double_tells (news : CbLed) (x : Int) (t : CbTok) (hx : Oct x) : Tells w p loose mean mg mb 1 53 news [.int x t] (RetI (dblI x)) := by
  have hx0 := hx.1
  have hx1 := hx.2
  k_extra "tb_start"
  k_steps
  all_goals (refine cb_retI hret ?_ (by k_asm) (newsBack N (by assumption)); unfold dblI; simp_all <;> omega)

theorem mul_tells (news : CbLed) (x y : Int) (t u : CbTok) (hx : Oct x) (hy : Oct y) : Tells w p loose mean mg mb 2 60 news [.int x t, .int y u] (RetI (mulI x y)) := by
  k_extra "tb_start"
  k_with "state" => first
    | exact mul_start (by assumption) (by assumption)
    | exact mul_turn1 (by with_reducible assumption) (by with_reducible assumption)
    | exact mul_turn0 (by with_reducible assumption) (by with_reducible assumption)
  k_with "exec While Compare cons nil" => k_while (fun _ f x' y' => MulInv x y f x' y') (fun _ f x' y' => y'.toNat) "found" "x" "y"
  k_with "measure" => exact half_lt (by with_reducible assumption)
  k_steps
  all_goals (refine cb_retI hret ?_ (by k_asm) (newsBack N (by assumption)); exact mul_end (by assumption) (by assumption))
end
end
section
open PySem.Calls PyProof.Rows.LCg
section
variable {prog : Program} {w : World} {A : Around} {E : Value → Shared → Prop} {s : Shared} {h₀ : Heap} {L : Addr} {m : Str → Option Value} {env : Env}

/-- one turn of a list comprehension's loop, over any target and any tests -/
theorem comp_turns {elt iter target : Expr} {ifs : List Expr} {scope : Scope} {pos : Pos} {it acc : Value} {env : Env} {R : Result → Shared → Prop} (I : Nat → Shared → Prop)
    (turn : ∀ n s, I n s → wpAny (model prog w) A (pyNext it) (fun r s₁ => match r with
      | none => R (.ok .next) s₁
      | some v => wpAny (model prog w) A (letOwnedTupleGo target it v) (fun _ s₁' => wpAny (model prog w) A (assign target env v) (fun _ s₂ =>
          wpAny (model prog w) A (forIn ifs true fun c r => if r = true then do let ok ← isTrue c env (eval c env); pure (ForInStep.yield ok) else pure (ForInStep.yield r)) (fun ok s₃ =>
            if ok = true then wpAny (model prog w) A (eval elt env) (fun x s₄ =>
              wpAny (model prog w) A (call (.builtin "list.append") [acc, x]) (fun _ s₅ => ∃ m, m < n ∧ I m s₅) (notedBy (model prog w) A env fun e s' => R (.error e) s') s₄) (notedBy (model prog w) A env fun e s' => R (.error e) s') s₃
            else ∃ m, m < n ∧ I m s₃) (notedBy (model prog w) A env fun e s' => R (.error e) s') s₂) (notedBy (model prog w) A env fun e s' => R (.error e) s') s₁')
          (notedBy (model prog w) A env fun e s' => R (.error e) s') s₁) (notedBy (model prog w) A env fun e s' => R (.error e) s') s)
    (n : Nat) (h : I n s) : codeAny (model prog w) A (.compLoop (.ListComp elt [⟨target, iter, ifs, 0⟩] scope pos) 0 it acc env) R s := by
  refine codeAny_loop rfl I (fun n s hI => ?_) n h
  show wpAny _ A ((compTurn (.ListComp elt [⟨target, iter, ifs, 0⟩] scope pos) 0 it acc env).onRaise (fun x => do noteFrame x env; theTreesLotGoes x)) _ _ s
  refine wpAny_noted ?_
  rw [compTurn_list]
  refine wpAny_bind (wpAny_standAt (wpAny_bind (wpAny_mono (turn n s hI) (fun r s₁ h₁ => ?_) fun _ _ h' => h')))
  cases r with
  | none => exact wpAny_pure h₁
  | some v =>
    refine wpAny_bind (wpAny_mono h₁ (fun _ s₁' h₁' => wpAny_bind (wpAny_mono h₁' (fun _ s₂ h₂ => wpAny_bind (wpAny_mono h₂ (fun ok s₃ h₃ => ?_) fun _ _ h' => h')) fun _ _ h' => h')) fun _ _ h' => h')
    cases ok with
    | false => exact wpAny_pure ⟨rfl, h₃⟩
    | true =>
      exact wpAny_bind (wpAny_bind (wpAny_mono h₃ (fun x s₄ h₄ => wpAny_bind (wpAny_mono h₄ (fun _ s₅ h₅ => wpAny_pure (wpAny_pure ⟨rfl, h₅⟩)) fun _ _ h' => h')) fun _ _ h' => h'))

/-- what a turn leaves: the frame, the kept ledger, new things off the loop's own -/
noncomputable def CEnd {α : Type} (h₀ : Heap) (L : Addr) (m : Str → Option Value) (s : Shared) (keep : List (Addr × Obj)) (no : List Addr) (J : α → List (Addr × Obj) → Prop) (y : α) (s₂ : Shared) : Prop :=
  ∃ h' tk news', s₂ = { s with heap := h', toks := tk } ∧ Fr h₀ L h' m ∧ News h₀ L h' (keep ++ news') ∧ (∀ p ∈ news', p.1 ∉ no) ∧ J y news'

/-- what the target's names hold, whoever stores them -/
noncomputable def CAsg (prog : Program) (w : World) (A : Around) (env : Env) (scope : Scope) (cl : List (Str × Addr)) (target : Expr) (n : Nat) (P : Nat → Value → Heap → Prop) (Bd : Nat → (Str → Option Value) → Prop) : Prop :=
  ∀ i v C m' (s' : Shared) (Q : Unit → Shared → Prop) (E' : Value → Shared → Prop), i < n → P i v s'.heap → s'.heap.Ns C m' →
    (∀ h' tk m₂, h'.Ns C m₂ → Bd i m₂ → (∀ b o, b ≠ C → s'.heap.get? b = some o → h'.get? b = some o) → Q () { s' with heap := h', toks := tk }) →
    wpAny (model prog w) A (assign target (compEnvC scope cl C env) v) Q E' s'

noncomputable def CStep (prog : Program) (w : World) (A : Around) (h₀ : Heap) (L : Addr) (m : Str → Option Value) (env : Env) (elt : Expr) (ifs : List Expr) (scope : Scope) (cl : List (Str × Addr)) (s : Shared) (wr : List Addr) (n : Nat) (Bd : Nat → (Str → Option Value) → Prop) (J : Nat → List Value → List (Addr × Obj) → Prop) : Prop :=
  ∀ i ys news' C oC D m₂ own h tk (E' : Value → Shared → Prop), i < n → J i ys news' → (∀ p ∈ news', p.1 ∉ C :: D :: wr) → (∀ b ∈ C :: D :: wr, ∃ o, (b, o) ∈ (C, oC) :: (D, lst ys) :: own) → NsObj oC m₂ → Bd i m₂ → Fr h₀ L h m → News h₀ L h ((C, oC) :: (D, lst ys) :: own ++ news') →
    wpAny (model prog w) A (forIn ifs true fun c r => if r = true then do let ok ← isTrue c (compEnvC scope cl C env) (eval c (compEnvC scope cl C env)); pure (ForInStep.yield ok) else pure (ForInStep.yield r))
      (fun ok s₃ => if ok = true then wpAny (model prog w) A (eval elt (compEnvC scope cl C env)) (CEnd h₀ L m { s with heap := h, toks := tk } ((C, oC) :: (D, lst ys) :: own) (C :: D :: wr) fun y nx => J (i + 1) (ys ++ [y]) nx) E' s₃
        else CEnd h₀ L m { s with heap := h, toks := tk } ((C, oC) :: (D, lst ys) :: own) (C :: D :: wr) (fun (_ : Unit) nx => J (i + 1) ys nx) () s₃) E' { s with heap := h, toks := tk }

theorem comp_block {elt iter target : Expr} {ifs : List Expr} {scope : Scope} {cl : List (Str × Addr)} {pos : Pos} {s₂ : Shared} {I : Addr} {fp wr : List Addr} {n : Nat} {P Md : Nat → Value → Heap → Prop} {St : Nat → Heap → Prop} {news : List (Addr × Obj)} {Bd : Nat → (Str → Option Value) → Prop}
    {J : Nat → List Value → List (Addr × Obj) → Prop} {RR : Value → Addr → Result → Shared → Prop}
    (W : KTurns prog w A target I fp wr n P Md St) (hself : ∀ i (s : Shared) (Q : Value → Shared → Prop) (E : Value → Shared → Prop), St i s.heap → Q (.ref I) s → wpAny (model prog w) A (pyIter (.ref I)) Q E s)
    (hsz : n ≤ sizeLine) (asg : CAsg prog w A env scope cl target n P Bd)
    (hcell : ∀ y ∈ scope.names, y.2 ≠ .cell) (hkind : scope.kind = .function) (hst : St 0 s₂.heap) (hfp : ∀ b ∈ fp, b < s₂.heap.objs.size) (hfo : ∀ b ∈ wr, ∃ o, s₂.heap.get? b = some o)
    (hwo : ∀ i h, St i h → ∀ b ∈ wr, ∃ o, h.get? b = some o)
    (F : Fr h₀ L s₂.heap m) (N : News h₀ L s₂.heap news) (hLf : L ∉ fp) (hwr : ∀ b ∈ wr, h₀.get? b = none) (off : ∀ p ∈ news, p.1 ∉ wr) (hJ : J 0 [] news)
    (step : CStep prog w A h₀ L m env elt ifs scope cl s₂ wr n Bd J)
    (hRR : ∀ D C h tk m' ys news', Fr h₀ L h m → News h₀ L h ((D, lst ys) :: news') → (∀ p ∈ news', p.1 ∉ C :: D :: wr) → h.Ns C m' → h₀.get? C = none → h₀.get? D = none → C ≠ L → D ≠ L → C ≠ D → (∀ p ∈ news, p.1 < D) → J n ys news' → RR (.ref D) C (.ok .next) { s₂ with heap := h, toks := tk }) :
    wpAny (model prog w) A (newList []) (fun acc s₃ => wpAny (model prog w) A (newFunctionEnv scope env.globals cl [] env.qual none .none (some env)) (fun cenv s₄ =>
      codeAny (model prog w) A (.compStart (.ListComp elt [⟨target, iter, ifs, 0⟩] scope pos) 0 (.ref I) acc { cenv with scope := relabel scope env }) (RR acc cenv.locals) s₄) E s₃) E s₂ := by
  refine wpAny_newObj_type (wpAny_newFunctionEnv hcell (by intro y hy; simp at hy) (fun h₁ hns₁ hsb₁ => ?_) hkind)
  dsimp only at hns₁ hsb₁ ⊢
  generalize hH2 : s₂.heap.push { cls := .type "list", dict := none, data := .seq ([] : List Value).toArray } = H2 at hns₁ hsb₁ ⊢
  have hC : H2.objs.size = s₂.heap.objs.size + 1 := by rw [← hH2, Heap.size_push]
  generalize hD : s₂.heap.objs.size = D at hC
  generalize hCn : H2.objs.size = C at hC hns₁ hsb₁
  have hDC : D ≠ C := by rw [hC]; exact Nat.ne_of_lt (Nat.lt_succ_self _)
  have below : ∀ b, b < D → b ≠ C ∧ b ≠ D := fun b hb => ⟨by rw [hC]; exact Nat.ne_of_lt (Nat.lt_succ_of_lt hb), Nat.ne_of_lt hb⟩
  have hDf : D ∉ fp := fun hm => Nat.lt_irrefl _ (hD ▸ hfp _ hm)
  have hCf : C ∉ fp := fun hm => by have := hfp _ hm; rw [hC, hD] at this; exact Nat.lt_irrefl _ (Nat.lt_of_succ_lt this)
  have old : ∀ b o, s₂.heap.get? b = some o → h₁.get? b = some o := fun b o e => hsb₁.extBut b o (below b (hD ▸ Heap.lt_size e)).1 (Heap.get?_push_of_some _ (hH2 ▸ Heap.get?_push_of_some _ e))
  have hacc : h₁.get? D = some (lst []) := hsb₁.extBut _ _ hDC (Heap.get?_push_of_some _ (hH2 ▸ hD ▸ Heap.get?_push_size _ rfl))
  have hst₁ : St 0 h₁ := W.frame _ _ _ hst fun b _ o e => old b o e
  have fresh : ∀ a, D ≤ a → s₂.heap.get? a = none := fun a ha => by
    cases e : s₂.heap.get? a with
    | none => rfl
    | some o' => exact absurd (Heap.lt_size e) (by rw [hD]; exact Nat.not_lt.mpr ha)
  have fresh₀ : ∀ a, D ≤ a → h₀.get? a = none := fun a ha => by
    cases e : h₀.get? a with
    | none => rfl
    | some o' => have := F.keep a o' e; rw [fresh a ha] at this; cases this
  have hD₀ : h₀.get? D = none := fresh₀ _ (Nat.le_refl _)
  have hC₀ : h₀.get? C = none := fresh₀ _ (by rw [hC]; exact Nat.le_succ _)
  have hLlt : L < D := hD ▸ F.ns.lt
  have hDL : D ≠ L := Ne.symm (below L hLlt).2
  have hCL : C ≠ L := Ne.symm (below L hLlt).1
  have wlt : ∀ b ∈ wr, b < D := fun b hb => hD ▸ hfp _ (W.sub b hb)
  have nlt : ∀ p ∈ news, p.1 < D := fun p hp => hD ▸ Heap.lt_size (N p hp).1
  have hLw : L ∉ wr := fun h => hLf (W.sub _ h)
  have off₀ : ∀ p ∈ news, p.1 ∉ C :: D :: wr := fun p hp hm => by
    rcases List.mem_cons.mp hm with e | hm
    · exact (below _ (nlt p hp)).1 e
    · rcases List.mem_cons.mp hm with e | hm
      · exact (below _ (nlt p hp)).2 e
      · exact off p hp hm
  have loop : ∀ s₃ : Shared, s₃ = { s₂ with heap := h₁, toks := s₂.toks + ([] : List (Str × Value)).length } →
      codeAny (model prog w) A (.compLoop (.ListComp elt [⟨target, iter, ifs, 0⟩] scope pos) 0 (.ref I) (.ref D) (compEnvC scope cl C env))
        (RR (.ref D) C) s₃ := by
    rintro s₃ rfl
    refine comp_turns
      (fun k s' => ∃ h' tk i ys m' news', s' = { s₂ with heap := h', toks := tk } ∧ i ≤ n ∧ k = n + 1 - i ∧ ys.length ≤ i ∧ St i h' ∧ Fr h₀ L h' m ∧ h'.Ns C m' ∧ News h₀ L h' ((D, lst ys) :: news') ∧
        (∀ p ∈ news', p.1 ∉ C :: D :: wr) ∧ J i ys news') ?_ (n + 1)
      ⟨h₁, _, 0, [], _, news, rfl, Nat.zero_le _, rfl, Nat.le_refl _, hst₁, F.keeps old, hns₁, fun p hp => ?_, off₀, hJ⟩
    · rintro k s' ⟨h', tk, i, ys, m', news', rfl, hi, rfl, hyl, hst', F', hn', N', off', hJ'⟩
      have next : ∀ h₂ : Heap, (∀ b o, b ∉ wr → h'.get? b = some o → h₂.get? b = some o) → Fr h₀ L h₂ m ∧ News h₀ L h₂ ((D, lst ys) :: news') ∧ h₂.Ns C m' := fun h₂ hk => by
        refine ⟨⟨F'.ns.at' fun o e => hk _ o hLw e, fun b o e => hk b o (fun hb => by rw [hwr b hb] at e; cases e) (F'.keep b o e), F'.above⟩, fun p hp => ⟨hk _ _ ?_ (N' p hp).1, (N' p hp).2⟩, hn'.at' fun o e => hk _ o (fun hm => hCf (W.sub _ hm)) e⟩
        rcases List.mem_cons.mp hp with rfl | hp
        · exact fun hm => hDf (W.sub _ hm)
        · exact fun hm => off' p hp (List.mem_cons_of_mem _ (List.mem_cons_of_mem _ hm))
      by_cases hlt : i < n
      · refine W.item i _ _ _ hlt hst' fun v h₂ tk₂ hMd hk₂ => W.go i v _ _ _ hMd fun h₃ hP hst₃ hk₃ => ?_
        obtain ⟨F₃, N₃, hn₃⟩ := next h₃ fun b o hb x => hk₃ b o hb (hk₂ b o hb x)
        refine asg i v C _ _ _ _ hlt hP hn₃ fun h₄ tk₄ m₂ hn₄ hBd hk₄ => ?_
        have hk₄' : ∀ b o, b ≠ C → h₃.get? b = some o → h₄.get? b = some o := hk₄
        have hst₄ : St (i + 1) h₄ := W.frame _ _ _ hst₃ fun b hb o e => hk₄' b o (fun q => hCf (q ▸ hb)) e
        obtain ⟨oC, heC, hoC⟩ := ns_obj hn₄
        have F₄ : Fr h₀ L h₄ m := ⟨F₃.ns.at' fun o e => hk₄' _ o (Ne.symm hCL) e, fun b o e => hk₄' b o (fun q => by rw [q, hC₀] at e; cases e) (F₃.keep b o e), F₃.above⟩
        have Nown : News h₀ L h₄ (ownOf h₀ fp h₄) := news_ownOf hLf
        have N₄ : News h₀ L h₄ ((C, oC) :: (D, lst ys) :: ownOf h₀ fp h₄ ++ news') := fun p hp => by
          have keepN : ∀ q ∈ (D, lst ys) :: news', h₄.get? q.1 = some q.2 ∧ q.1 ≠ L ∧ h₀.get? q.1 = none := fun q hq => by
            refine ⟨hk₄' _ _ ?_ (N₃ q hq).1, (N₃ q hq).2⟩
            rcases List.mem_cons.mp hq with rfl | hq
            · exact hDC
            · exact fun e => off' q hq (e ▸ List.mem_cons_self)
          rcases List.mem_append.mp hp with hp | hp
          · rcases List.mem_cons.mp hp with rfl | hp
            · exact ⟨heC, hCL, hC₀⟩
            · rcases List.mem_cons.mp hp with rfl | hp
              · exact keepN _ List.mem_cons_self
              · exact Nown p hp
          · exact keepN _ (List.mem_cons_of_mem _ hp)
        have hin : ∀ b ∈ C :: D :: wr, ∃ o, (b, o) ∈ (C, oC) :: (D, lst ys) :: ownOf h₀ fp h₄ := fun b hb => by
          rcases List.mem_cons.mp hb with rfl | hb
          · exact ⟨_, List.mem_cons_self⟩
          · rcases List.mem_cons.mp hb with rfl | hb
            · exact ⟨_, List.mem_cons_of_mem _ List.mem_cons_self⟩
            · obtain ⟨o, ho⟩ := hwo _ _ hst₄ b hb
              exact ⟨o, List.mem_cons_of_mem _ (List.mem_cons_of_mem _ (mem_ownOf (W.sub b hb) (hwr b hb) ho))⟩
        have hfrm : ∀ h₅, News h₀ L h₅ (ownOf h₀ fp h₄) → (∀ b o, h₀.get? b = some o → h₅.get? b = some o) → St (i + 1) h₅ := fun h₅ N₅ k₅ => W.frame _ _ _ hst₄ fun b hb o e => by
          cases hn : h₀.get? b with
          | some o₀ =>
            have : o₀ = o := by have q := F₄.keep b o₀ hn; rw [e] at q; exact (Option.some.inj q).symm
            exact this ▸ k₅ b o₀ hn
          | none => exact (N₅ _ (mem_ownOf hb hn e)).1
        refine wpAny_mono (step i ys news' C oC D m₂ _ h₄ tk₄ _ hlt hJ' off' hin hoC hBd F₄ N₄) (fun ok s₅ h₅ => ?_) fun _ _ e => e
        cases ok with
        | false =>
          simp only [Bool.false_eq_true, if_false] at h₅ ⊢
          obtain ⟨h₅, tk₅, nx, rfl, F₅, N₅, off₅, hJ₅⟩ := h₅
          refine ⟨n + 1 - (i + 1), by omega, h₅, tk₅, i + 1, ys, _, nx, rfl, hlt, rfl, by omega, hfrm h₅ (fun p hp => N₅ p (List.mem_append_left _ (List.mem_cons_of_mem _ (List.mem_cons_of_mem _ hp)))) F₅.keep, F₅, hoC.ns (N₅ (C, oC) List.mem_cons_self).1, fun p hp => ?_, off₅, hJ₅⟩
          rcases List.mem_cons.mp hp with rfl | hp
          · exact N₅ _ (List.mem_append_left _ (List.mem_cons_of_mem _ List.mem_cons_self))
          · exact N₅ _ (List.mem_append_right _ hp)
        | true =>
          simp only [if_true] at h₅ ⊢
          refine wpAny_mono h₅ (fun y s₆ h₆ => ?_) fun _ _ e => e
          obtain ⟨h₅, tk₅, nx, rfl, F₅, N₅, off₅, hJ₅⟩ := h₆
          have zD := (N₅ (D, lst ys) (List.mem_append_left _ (List.mem_cons_of_mem _ List.mem_cons_self))).1
          have zC := (N₅ (C, oC) List.mem_cons_self).1
          refine append_at (hsz := by show ys.toArray.size ≤ sizeLine; rw [List.size_toArray]; omega) zD fun h₆ hs₆ hD₆ => ?_
          have hst₅ := hfrm h₅ (fun p hp => N₅ p (List.mem_append_left _ (List.mem_cons_of_mem _ (List.mem_cons_of_mem _ hp)))) F₅.keep
          refine ⟨n + 1 - (i + 1), by omega, h₆, tk₅, i + 1, ys ++ [y], _, nx, rfl, hlt, rfl, by rw [List.length_append, List.length_singleton]; omega, W.frame _ _ _ hst₅ fun b hb o e => hs₆.extBut b o (fun q => hDf (q ▸ hb)) e, F₅.change hs₆ hDL hD₀,
            (hoC.ns zC).sameBut hs₆ (Ne.symm hDC), fun p hp => ?_, off₅, hJ₅⟩
          rcases List.mem_cons.mp hp with rfl | hp
          · exact ⟨hD₆.trans (congrArg some (lst_snoc ys y)), hDL, hD₀⟩
          · have z := N₅ p (List.mem_append_right _ hp)
            exact ⟨hs₆.extBut _ _ (fun e => off₅ p hp (e ▸ List.mem_cons_of_mem _ List.mem_cons_self)) z.1, z.2⟩
      · obtain rfl : i = n := Nat.le_antisymm hi (Nat.not_lt.mp hlt)
        refine W.done _ _ _ hst' fun h₂ tk₂ hk₂ => ?_
        obtain ⟨F₂, N₂, hn₂⟩ := next h₂ hk₂
        exact hRR D C h₂ tk₂ _ ys news' F₂ N₂ off' hn₂ hC₀ hD₀ hCL hDL (Ne.symm hDC) nlt hJ'
    · rcases List.mem_cons.mp hp with rfl | hp
      · exact ⟨hacc, hDL, hD₀⟩
      · exact ⟨old _ _ (N p hp).1, (N p hp).2⟩

  have hl := loop _ rfl
  exact codeAny_compStart_list hl (hself 0 _ _ _ hst₁ hl)
end
end
section
open PySem.Calls PyProof.Rows.LCg PySem.W.KBw
section
variable {prog : Program} {w : World} {A : Around} {E : Value → Shared → Prop} {s : Shared}
theorem bi_at {h h' : Heap} {it : Addr} {b : Array UInt8} {t : Tok} {i : Nat} (x : IsBytesIter h it b t i) (e : ∀ o, h.get? it = some o → h'.get? it = some o) : IsBytesIter h' it b t i := let ⟨o, ho, r⟩ := x; ⟨o, e o ho, r⟩

theorem nextOf_bytes_item {b : Array UInt8} {t : Tok} {it : Addr} {i : Nat} {c : UInt8} {Q : Value → Shared → Prop} (hit : IsBytesIter s.heap it b t i) (hx : b[i]? = some c)
    (hQ : ∀ h', IsBytesIter h' it b t (i + 1) → Heap.SameBut it s.heap h' → Q (.int (c.toNat : Int) s.toks) { s with heap := h', toks := s.toks + 1 }) : wpAny (model prog w) A (Builtin.SmallTypes.nextOf (.ref it)) Q E s := by
  obtain ⟨o, ho, hc, hd⟩ := id hit
  unfold Builtin.SmallTypes.nextOf
  refine wpAny_bind (wpAny_callSpecial?_slot (name := PySem.Str.ofString "__next__") (iter_typeIs hit) slot_next
    (wpAny_call_entry slot_next (iter_typeIs hit) entry_next ?_ (args_next _)))
  show wpAny _ _ (field (.ref it) 0 >>= _) _ _ s
  refine wpAny_bind (wpAny_field ho hd (x := .bytes b t) rfl ?_)
  show wpAny _ _ (if (Value.bytes b t == Value.none) = true then _ else _) _ _ s
  rw [if_neg (show ¬ ((Value.bytes b t == Value.none) = true) from Bool.false_ne_true)]
  show wpAny _ _ (field (.ref it) 1 >>= _) _ _ s
  refine wpAny_bind (wpAny_field ho hd (x := .int i 0) rfl ?_)
  refine wpAny_bind (wpAny_of_eq (a := b) rfl ?_)
  simp only [Int.toNat_natCast, hx]
  refine wpAny_bind (wpAny_setField ho hd (by simp) (wpAny_bind (wpAny_mkInt (wpAny_pure ⟨_, rfl, wpAny_pure (hQ _ ?_ (Heap.SameBut.update ..))⟩))))
  exact ⟨_, Heap.get?_update_self _ ho (Obj.isFreed_of_fields (Obj.data_mapFields hd _)), (Obj.cls_mapFields ..).trans hc, by
    rw [Obj.data_mapFields hd]; simp [rawInt]⟩

theorem nextOf_bytes_end {b : Array UInt8} {t : Tok} {it : Addr} {i : Nat} {Q : Value → Shared → Prop} (hh : A.handled = none) (hit : IsBytesIter s.heap it b t i) (hx : b[i]? = none)
    (hE : ∀ h' e, Heap.ExtBut it s.heap h' → (∃ o, h'.get? e = some o ∧ o.cls = .type "StopIteration") → E (.ref e) { s with heap := h' }) : wpAny (model prog w) A (Builtin.SmallTypes.nextOf (.ref it)) Q E s := by
  obtain ⟨o, ho, hc, hd⟩ := id hit
  unfold Builtin.SmallTypes.nextOf
  refine wpAny_bind (wpAny_callSpecial?_slot (name := PySem.Str.ofString "__next__") (iter_typeIs hit) slot_next
    (wpAny_call_entry slot_next (iter_typeIs hit) entry_next ?_ (args_next _)))
  show wpAny _ _ (field (.ref it) 0 >>= _) _ _ s
  refine wpAny_bind (wpAny_field ho hd (x := .bytes b t) rfl ?_)
  show wpAny _ _ (if (Value.bytes b t == Value.none) = true then _ else _) _ _ s
  rw [if_neg (show ¬ ((Value.bytes b t == Value.none) = true) from Bool.false_ne_true)]
  show wpAny _ _ (field (.ref it) 1 >>= _) _ _ s
  refine wpAny_bind (wpAny_field ho hd (x := .int i 0) rfl ?_)
  refine wpAny_bind (wpAny_of_eq (a := b) rfl ?_)
  simp only [Int.toNat_natCast, hx]
  refine wpAny_bind (wpAny_rule (wpAny_bind (wpAny_setField ho hd (by simp) ?_)))
  show wpAny _ _ (newExc (.type "StopIteration") [] >>= _) _ _ _
  refine wpAny_bind ?_
  simp only [newExc, newTuple]
  refine wpAny_bind (wpAny_newObj_type ?_ (by size_fits))
  refine wpAny_bind (m := firstArgMember _ _) (wpAny_of_eq (a := Value.none) (by first | rfl | (simp only [firstArgMember]; rfl)) ?_)
  refine wpAny_newObj_type ?_ (by size_fits)
  simp only [raiseNew]
  refine wpAny_bind (wpAny_handled ?_)
  rw [show A.in1.handled = none from hh]
  refine wpAny_bind (wpAny_pure (wpAny_throw ?_))
  exact hE _ _ (((Heap.SameBut.update ..).extBut.push _).push _) ⟨_, Heap.get?_push_size _ rfl, rfl⟩

structure ZB (z TI TO i1 i2 : Addr) : Prop where
  TIz : TI ≠ z
  TOz : TO ≠ z
  i1z : i1 ≠ z
  i2z : i2 ≠ z
  TITO : TI ≠ TO
  TIi1 : TI ≠ i1
  TIi2 : TI ≠ i2
  TOi1 : TO ≠ i1
  TOi2 : TO ≠ i2
  i12 : i1 ≠ i2

theorem zipb_item {z TI TO i1 i2 : Addr} {k : Nat} {b1 b2 : Array UInt8} {t1 t2 : Tok} {c d : UInt8} {a b : Value} {Q : Option Value → Shared → Prop} (D : ZB z TI TO i1 i2)
    (hz : IsZip s.heap z TI TO .none) (hTI : IsPair s.heap TI (.ref i1) (.ref i2)) (hTO : IsPair s.heap TO a b)
    (h1 : IsBytesIter s.heap i1 b1 t1 k) (h2 : IsBytesIter s.heap i2 b2 t2 k) (hx : b1[k]? = some c) (hy : b2[k]? = some d)
    (hQ : ∀ h' x y, IsZip h' z TI TO (rawInt s.heap.objs.size) → IsPair h' TO x y → IsBytesIter h' i1 b1 t1 (k + 1) → IsBytesIter h' i2 b2 t2 (k + 1) → IsPair h' s.heap.objs.size x y → (∃ t, x = .int (c.toNat : Int) t) → (∃ t, y = .int (d.toNat : Int) t) →
      (∀ c o, c ≠ z → c ≠ TO → c ≠ i1 → c ≠ i2 → s.heap.get? c = some o → h'.get? c = some o) → Q (some (.ref s.heap.objs.size)) { s with heap := h', toks := s.toks + 1 + 1 }) :
    wpAny (model prog w) A (pyNext (.ref z)) Q E s := by
  have hT : s.TypeIs (.ref z) "zip" := ⟨_, hz, rfl⟩
  unfold pyNext
  refine wpAny_bind (wpAny_attempt (wpAny_callSpecial?_slot (name := Str.ofString "__next__") hT F.slot_zip_next (wpAny_call_entry F.slot_zip_next hT F.entry_zip_next ?_ (F.args_zip_next_1 _))))
  show wpAny _ _ (field (.ref z) 2 >>= _) _ _ _
  refine wpAny_bind (wpAny_field hz rfl (x := .bool false) rfl ?_)
  show wpAny _ _ (field (.ref z) 3 >>= _) _ _ _
  refine wpAny_bind (wpAny_field hz rfl (x := .ref TI) rfl ?_)
  refine wpAny_bind (wpAny_seqItems hTI rfl ?_)
  show wpAny _ _ (Builtin.SmallTypes.ownedTupleIsFree (.ref z) >>= _) _ _ _
  refine wpAny_bind ?_
  unfold Builtin.SmallTypes.ownedTupleIsFree
  refine wpAny_bind (wpAny_field hz rfl (x := .none) rfl (wpAny_pure ?_))
  simp only [if_true]
  refine wpAny_bind (wpAny_rule ?_)
  refine wpAny_bind (wpAny_field hz rfl (x := .ref TO) rfl ?_)
  refine wpAny_bind (wpAny_setField_rec hz (by simp) fun h₁ hz₁ hs₁ => ?_)
  replace hz₁ : IsZip h₁ z TI TO .ellipsis := hz₁
  refine wpAny_bind ?_
  simp only [List.zipIdx_cons, List.zipIdx_nil, List.forIn_cons, List.forIn_nil]
  refine wpAny_bind (wpAny_bind (wpAny_onRaise ?_))
  show wpAny _ _ (Builtin.SmallTypes.nextOf (.ref i1) >>= _) _ _ _
  refine wpAny_bind (nextOf_bytes_item (bi_at h1 fun o e => hs₁.extBut _ o D.i1z e) hx fun h₂ h1₂ hs₂ => wpAny_pure ?_)
  have hTO₂ : IsPair h₂ TO a b := hs₂.extBut _ _ D.TOi1 (hs₁.extBut _ _ D.TOz hTO)
  refine wpAny_bind (wpAny_seqItems hTO₂ rfl ?_)
  refine wpAny_bind (wpAny_updateSeq_pair hTO₂ fun h₃ hTO₃ hs₃ => ?_)
  replace hTO₃ : IsPair h₃ TO (.int (c.toNat : Int) s.toks) b := hTO₃
  refine wpAny_bind (wpAny_letGo (wpAny_pure ?_))
  refine wpAny_bind (wpAny_bind (wpAny_onRaise ?_))
  show wpAny _ _ (Builtin.SmallTypes.nextOf (.ref i2) >>= _) _ _ _
  refine wpAny_bind (nextOf_bytes_item (bi_at (bi_at (bi_at h2 fun o e => hs₁.extBut _ o D.i2z e) fun o e => hs₂.extBut _ o D.i12.symm e) fun o e => hs₃.extBut _ o D.TOi2.symm e) hy fun h₄ h2₄ hs₄ => wpAny_pure ?_)
  have hTO₄ : IsPair h₄ TO (.int (c.toNat : Int) s.toks) b := hs₄.extBut _ _ D.TOi2 hTO₃
  refine wpAny_bind (wpAny_seqItems hTO₄ rfl ?_)
  refine wpAny_bind (wpAny_updateSeq_pair hTO₄ fun h₅ hTO₅ hs₅ => ?_)
  replace hTO₅ : IsPair h₅ TO (.int (c.toNat : Int) s.toks) (.int (d.toNat : Int) (s.toks + 1)) := hTO₅
  refine wpAny_bind (wpAny_letGo (wpAny_pure (wpAny_pure ?_)))
  refine wpAny_bind (wpAny_seqItems hTO₅ rfl ?_)
  refine wpAny_bind (wpAny_newTuple ?_)
  have hsz : h₅.objs.size = s.heap.objs.size := by rw [hs₅.1, hs₄.1, hs₃.1, hs₂.1, hs₁.1]
  have hz₅ : IsZip h₅ z TI TO .ellipsis := hs₅.extBut _ _ D.TOz.symm (hs₄.extBut _ _ D.i2z.symm (hs₃.extBut _ _ D.TOz.symm (hs₂.extBut _ _ D.i1z.symm hz₁)))
  have hk₅ : ∀ c o, c ≠ z → c ≠ TO → c ≠ i1 → c ≠ i2 → s.heap.get? c = some o → h₅.get? c = some o := fun c o c1 c2 c3 c4 e =>
    hs₅.extBut _ _ c2 (hs₄.extBut _ _ c4 (hs₃.extBut _ _ c2 (hs₂.extBut _ _ c3 (hs₁.extBut _ _ c1 e))))
  have h1₅ : IsBytesIter h₅ i1 b1 t1 (k + 1) := bi_at (bi_at (bi_at h1₂ fun o e => hs₃.extBut _ o D.TOi1.symm e) fun o e => hs₄.extBut _ o D.i12 e) fun o e => hs₅.extBut _ o D.TOi1.symm e
  have h2₅ : IsBytesIter h₅ i2 b2 t2 (k + 1) := bi_at h2₄ fun o e => hs₅.extBut _ o D.TOi2.symm e
  have hzlt : z < h₅.objs.size := Heap.lt_size hz₅
  show wpAny _ _ (Builtin.SmallTypes.ownedTupleHandOut (.ref z) (.ref h₅.objs.size) >>= _) _ _ _
  refine wpAny_bind ?_
  unfold Builtin.SmallTypes.ownedTupleHandOut
  have hz₆ : IsZip (h₅.push { cls := .type "tuple", data := .seq #[.int (c.toNat : Int) s.toks, .int (d.toNat : Int) (s.toks + 1)] }) z TI TO .ellipsis := Heap.get?_push_of_some _ hz₅
  refine wpAny_bind (wpAny_setField_rec hz₆ (by simp) fun h₇ hz₇ hs₇ => ?_)
  replace hz₇ : IsZip h₇ z TI TO (rawInt h₅.objs.size) := hz₇
  refine wpAny_setField_rec hz₇ (by simp) fun h₈ hz₈ hs₈ => ?_
  replace hz₈ : IsZip h₈ z TI TO (rawInt h₅.objs.size) := hz₈
  have up : ∀ c o, c ≠ z → h₅.get? c = some o → h₈.get? c = some o := fun c o c1 e => hs₈.extBut _ _ c1 (hs₇.extBut _ _ c1 (Heap.get?_push_of_some _ e))
  have hT₈ : IsPair h₈ h₅.objs.size (.int (c.toNat : Int) s.toks) (.int (d.toNat : Int) (s.toks + 1)) := hs₈.extBut _ _ (Nat.ne_of_gt hzlt) (hs₇.extBut _ _ (Nat.ne_of_gt hzlt) (Heap.get?_push_size _ rfl))
  rw [hsz] at hz₈ hT₈
  refine wpAny_pure ⟨_, rfl, ?_⟩
  refine wpAny_pure ?_
  show Q (some (.ref h₅.objs.size)) _
  rw [hsz]
  exact hQ h₈ _ _ hz₈ (up _ _ D.TOz hTO₅) (bi_at h1₅ fun o e => up _ o D.i1z e) (bi_at h2₅ fun o e => up _ o D.i2z e) hT₈ ⟨_, rfl⟩ ⟨_, rfl⟩ fun c o c1 c2 c3 c4 e => up c o c1 (hk₅ c o c1 c2 c3 c4 e)

theorem zipb_end {z TI TO i1 i2 : Addr} {k : Nat} {b1 b2 : Array UInt8} {t1 t2 : Tok} {a b : Value} {Q : Option Value → Shared → Prop} (hh : A.handled = none) (D : ZB z TI TO i1 i2)
    (hz : IsZip s.heap z TI TO .none) (hTI : IsPair s.heap TI (.ref i1) (.ref i2)) (hTO : IsPair s.heap TO a b)
    (h1 : IsBytesIter s.heap i1 b1 t1 k) (h2 : IsBytesIter s.heap i2 b2 t2 k) (hend : b1[k]? = none ∨ b2[k]? = none)
    (hQ : ∀ h' tk, (∀ c o, c ≠ z → c ≠ TO → c ≠ i1 → c ≠ i2 → s.heap.get? c = some o → h'.get? c = some o) → Q none { s with heap := h', toks := tk }) :
    wpAny (model prog w) A (pyNext (.ref z)) Q E s := by
  have hT : s.TypeIs (.ref z) "zip" := ⟨_, hz, rfl⟩
  unfold pyNext
  refine wpAny_bind (wpAny_attempt (wpAny_callSpecial?_slot (name := Str.ofString "__next__") hT F.slot_zip_next (wpAny_call_entry F.slot_zip_next hT F.entry_zip_next ?_ (F.args_zip_next_1 _))))
  show wpAny _ _ (field (.ref z) 2 >>= _) _ _ _
  refine wpAny_bind (wpAny_field hz rfl (x := .bool false) rfl ?_)
  show wpAny _ _ (field (.ref z) 3 >>= _) _ _ _
  refine wpAny_bind (wpAny_field hz rfl (x := .ref TI) rfl ?_)
  refine wpAny_bind (wpAny_seqItems hTI rfl ?_)
  show wpAny _ _ (Builtin.SmallTypes.ownedTupleIsFree (.ref z) >>= _) _ _ _
  refine wpAny_bind ?_
  unfold Builtin.SmallTypes.ownedTupleIsFree
  refine wpAny_bind (wpAny_field hz rfl (x := .none) rfl (wpAny_pure ?_))
  simp only [if_true]
  refine wpAny_bind (wpAny_rule ?_)
  refine wpAny_bind (wpAny_field hz rfl (x := .ref TO) rfl ?_)
  refine wpAny_bind (wpAny_setField_rec hz (by simp) fun h₁ hz₁ hs₁ => ?_)
  replace hz₁ : IsZip h₁ z TI TO .ellipsis := hz₁
  refine wpAny_bind ?_
  simp only [List.zipIdx_cons, List.zipIdx_nil, List.forIn_cons, List.forIn_nil]
  refine wpAny_bind (wpAny_bind (wpAny_onRaise ?_))
  show wpAny _ _ (Builtin.SmallTypes.nextOf (.ref i1) >>= _) _ _ _
  cases hx : b1[k]? with
  | none =>
    refine wpAny_bind (nextOf_bytes_end hh (bi_at h1 fun o e => hs₁.extBut _ o D.i1z e) hx fun h₂ e hs₂ he => ?_)
    obtain ⟨oe, hoe, hce⟩ := he
    have hz₂ : IsZip h₂ z TI TO .ellipsis := hs₂ _ _ D.i1z.symm hz₁
    have hez : e ≠ z := fun x => by subst x; rw [hz₂] at hoe; cases hoe; simp at hce
    refine wpAny_setField_rec hz₂ (by simp) fun h₃ _ hs₃ => ?_
    refine wpAny_bind (wpAny_isInstance (T := "StopIteration") (b := true) ⟨oe, hs₃.extBut _ _ hez hoe, hce⟩ isSubtype_stop ?_)
    exact wpAny_pure (hQ _ _ fun c o c1 _ c3 _ x => hs₃.extBut _ _ c1 (hs₂ _ _ c3 (hs₁.extBut _ _ c1 x)))
  | some x =>
    have hy : b2[k]? = none := by rcases hend with h | h; rw [hx] at h; cases h; exact h
    refine wpAny_bind (nextOf_bytes_item (bi_at h1 fun o e => hs₁.extBut _ o D.i1z e) hx fun h₂ h1₂ hs₂ => wpAny_pure ?_)
    have hTO₂ : IsPair h₂ TO a b := hs₂.extBut _ _ D.TOi1 (hs₁.extBut _ _ D.TOz hTO)
    refine wpAny_bind (wpAny_seqItems hTO₂ rfl ?_)
    refine wpAny_bind (wpAny_updateSeq_pair hTO₂ fun h₃ hTO₃ hs₃ => ?_)
    refine wpAny_bind (wpAny_letGo (wpAny_pure ?_))
    refine wpAny_bind (wpAny_bind (wpAny_onRaise ?_))
    show wpAny _ _ (Builtin.SmallTypes.nextOf (.ref i2) >>= _) _ _ _
    refine wpAny_bind (nextOf_bytes_end hh (bi_at (bi_at (bi_at h2 fun o e => hs₁.extBut _ o D.i2z e) fun o e => hs₂.extBut _ o D.i12.symm e) fun o e => hs₃.extBut _ o D.TOi2.symm e) hy fun h₄ e hs₄ he => ?_)
    obtain ⟨oe, hoe, hce⟩ := he
    have hz₄ : IsZip h₄ z TI TO .ellipsis := hs₄ _ _ D.i2z.symm (hs₃.extBut _ _ D.TOz.symm (hs₂.extBut _ _ D.i1z.symm hz₁))
    have hez : e ≠ z := fun x => by subst x; rw [hz₄] at hoe; cases hoe; simp at hce
    refine wpAny_setField_rec hz₄ (by simp) fun h₅ _ hs₅ => ?_
    refine wpAny_bind (wpAny_isInstance (T := "StopIteration") (b := true) ⟨oe, hs₅.extBut _ _ hez hoe, hce⟩ isSubtype_stop ?_)
    exact wpAny_pure (hQ _ _ fun c o c1 c2 c3 c4 x => hs₅.extBut _ _ c1 (hs₄ _ _ c4 (hs₃.extBut _ _ c2 (hs₂.extBut _ _ c3 (hs₁.extBut _ _ c1 x)))))
end
end
section
section
variable {w : World} {mean : ExcName → Option Value} {mg mb : Str → Option Value} {p : Program} {loose : List Str}

theorem power_tells (news : CbLed) (x y : Int) (t u : CbTok) (hx : Oct x) (hy : 0 ≤ y ∧ y < 4096) : Tells w p loose mean mg mb 3 67 news [.int x t, .int y u] (RetI (powI x y)) := by
  k_extra "tb_start"
  k_with "state" => first
    | exact pow_start (by assumption) (by assumption)
    | exact pow_turn1 (by with_reducible assumption) (by with_reducible assumption)
    | exact pow_turn0 (by with_reducible assumption) (by with_reducible assumption)
  k_with "exec While Compare cons nil" => k_while (fun _ f x' y' => PowInv x y f x' y') (fun _ f x' y' => y'.toNat) "found" "x" "many"
  k_with "measure" => exact half_lt (by with_reducible assumption)
  k_steps
  all_goals (refine cb_retI hret ?_ (by k_asm) (newsBack N (by assumption)); exact pow_end (by assumption) (by assumption))

theorem digit_tells (news : CbLed) (l : Addr) (vs : List Value) (ns : List Int) (i : Int) (t : CbTok) (hI : IntsAre vs ns) (hl : ns.length ≤ 63) (hi : 0 ≤ i ∧ i < 64) : Tells w p loose mean mg mb 1 120 news [.ref l, .int i t] (fun h₀ L m news s Q E fr => s.heap.IsList l vs.toArray ∧ RetI (digI ns i) h₀ L m news s Q E fr) := by
  k_extra "tb_start"
  obtain ⟨hL, hret⟩ := hret
  k_steps
  all_goals (refine cb_retI hret ?_ (by k_asm) (newsBack N (by assumption)); unfold digI; first | rw [if_pos (show i < (ns.length : Int) by assumption)] | rw [if_neg (show ¬ i < (ns.length : Int) by assumption)])

theorem element_tells (news : CbLed) (x : Int) (t : CbTok) : Tells w p loose mean mg mb 1 127 news [.int x t] (RetI (elemI x)) := by
  k_extra "tb_start"
  k_steps
  all_goals (refine cb_retI hret ?_ (by k_asm) (newsBack N (by assumption)); unfold elemI; first | rw [if_neg (show ¬ x.fmod 4 = 0 by assumption)] | rw [if_pos (show x.fmod 4 = 0 by assumption)])
end
end
section
section
variable {w : World} {mean : ExcName → Option Value} {mg mb : Str → Option Value} {p : Program} {loose : List Str}
local macro_rules | `(tactic| walk_at "exec For Name Call cons nil") => `(tactic| (k_here; (rename Fr _ _ _ _ => lF'); (with_unfolding_all refine' For_invVF lF' ?k1 ?k2 ?_; (case k1 => exact rfl); (case k2 => exact rfl); k_whole)))

set_option maxHeartbeats 400000 in
theorem times_tells (news : CbLed) (x y : Int) (t u : CbTok) (hx : Oct x) (hy : Oct y) : Tells w p loose mean mg mb 1 134 news [.int x t, .int y u] (RetI (mulI x y)) := by
  k_extra "tb_start"
  have hx0 := hx.1
  have hx1 := hx.2
  k_with "state" => with_reducible (first
    | exact times_s0 _ _
    | exact times_t1 (by assumption) (by assumption)
    | exact times_s1 (by assumption) (by with_unfolding_all rfl)
    | exact times_t2 (by assumption) (by assumption)
    | exact times_t3 (by assumption) (by assumption)
    | fail "open")
  k_with "pyIter ref" => first
    | ((with_reducible rename (_ = lpI _ _ _) => kI9); k_state (fun pre f => pre.foldl rdI (lpI x y 8) = f) "found")
    | k_state_short (fun pre f => f = lpI x y pre.length) "found"
  k_steps
  all_goals first | (refine cb_retI hret ?_ (by k_asm) (newsBack N (by assumption)); exact times_end (by assumption) (by with_unfolding_all rfl) hx hy) | skip
end
end
section
open PySem.Calls PyProof.Rows.LCg
section
variable {prog : Program} {w : World} {A : Around} {E : Value → Shared → Prop} {s : Shared} {h₀ : Heap} {L : Addr} {m : Str → Option Value} {env : Env}

/-- a source of n turns, ready; nothing that the block keeps but its own list of ints -/
noncomputable def CSrc (prog : Program) (w : World) (A : Around) (h₀ : Heap) (L : Addr) (m : Str → Option Value) (env : Env) (scope : Scope) (cl : List (Str × Addr)) (target : Expr) (n : Nat) (Bd : Nat → (Str → Option Value) → Prop) (news : List (Addr × Obj)) (it : Value) (s₂ : Shared) : Prop :=
  ∃ I fp wr P Md St, it = .ref I ∧ KTurns prog w A target I fp wr n P Md St ∧ (∀ i (s : Shared) (Q : Value → Shared → Prop) (E : Value → Shared → Prop), St i s.heap → Q (.ref I) s → wpAny (model prog w) A (pyIter (.ref I)) Q E s) ∧
    CAsg prog w A env scope cl target n P Bd ∧ St 0 s₂.heap ∧ (∀ b ∈ fp, b < s₂.heap.objs.size) ∧ (∀ i h, St i h → ∀ b ∈ wr, ∃ o, h.get? b = some o) ∧
    Fr h₀ L s₂.heap m ∧ News h₀ L s₂.heap news ∧ L ∉ fp ∧ (∀ b ∈ wr, h₀.get? b = none) ∧ ∀ p ∈ news, p.1 ∉ wr

noncomputable def EltPost (h₀ : Heap) (L : Addr) (m : Str → Option Value) (s : Shared) (x : Int) (keep : List (Addr × Obj)) (y : Value) (s' : Shared) : Prop :=
  ∃ t h' tk', y = .int x t ∧ s' = { s with heap := h', toks := tk' } ∧ Fr h₀ L h' m ∧ News h₀ L h' keep
theorem eltPost {h₀ : Heap} {L : Addr} {m : Str → Option Value} {s : Shared} {x y : Int} {keep all : List (Addr × Obj)} {t : Tok} {h' : Heap} {tk' : Nat} (F : Fr h₀ L h' m) (N : News h₀ L h' all) (e : y = x) (sub : ∀ p ∈ keep, p ∈ all) : EltPost h₀ L m s x keep (.int y t) { s with heap := h', toks := tk' } :=
  ⟨t, h', tk', by rw [e], rfl, F, fun p hp => N p (sub p hp)⟩
theorem subSelf {α : Type} {l : List α} : ∀ p ∈ l, p ∈ l := fun _ h => h
theorem subCons {α : Type} {q : α} {k l : List α} (h : ∀ p ∈ k, p ∈ l) : ∀ p ∈ k, p ∈ q :: l := fun p hp => .tail _ (h p hp)
/-- one element: an int, nothing kept -/
noncomputable def CElt (prog : Program) (w : World) (A : Around) (h₀ : Heap) (L : Addr) (m : Str → Option Value) (env : Env) (elt : Expr) (scope : Scope) (cl : List (Str × Addr)) (n : Nat) (Bd : Nat → (Str → Option Value) → Prop) (g : Nat → Int) (news : List (Addr × Obj)) : Prop :=
  ∀ (s : Shared) i C oC m₂ rest (E' : Value → Shared → Prop), i < n → NsObj oC m₂ → Bd i m₂ → Fr h₀ L s.heap m → News h₀ L s.heap ((C, oC) :: rest) → (∀ p ∈ news, p ∈ rest) →
    wpAny (model prog w) A (eval elt (compEnvC scope cl C env)) (EltPost h₀ L m s (g i) ((C, oC) :: rest)) E' s

theorem comp_ints {elt iter target : Expr} {scope : Scope} {cl : List (Str × Addr)} {pos : Pos} {Q : Value → Shared → Prop} {n : Nat} {Bd : Nat → (Str → Option Value) → Prop} {g : Nat → Int} {news : List (Addr × Obj)} (_F₀ : Fr h₀ L s.heap m) (_N₀ : News h₀ L s.heap news)
    (hclos : closureFor scope env = pure cl) (hcell : ∀ y ∈ scope.names, y.2 ≠ .cell) (hkind : scope.kind = .function)
    (hnames : ∀ y ∈ scope.names, y.2 = .local → scope.names.lookup y.1 = some .local) (hsz : n ≤ sizeLine)
    (elem : CElt prog w A h₀ L m env elt scope cl n Bd g news)
    (h : wpAny (model prog w) A (eval iter env) (fun xv s₁ => wpAny (model prog w) A (pyIter xv) (fun it s₂ => CSrc prog w A h₀ L m env scope cl target n Bd news it s₂ ∧
      ∀ D vs k h tk, Fr h₀ L h m → News h₀ L h ((D, listOf vs.toArray k) :: news) → (∀ p ∈ news, p.1 < D) → IntsAre vs ((List.range n).map g) → Q (.ref D) { s₂ with heap := h, toks := tk }) E s₁) E s)
    (hs : ∀ x, foldedSetIterable iter env x = pure x := by intro _; rfl) :
    wpAny (model prog w) A (eval (.ListComp elt [⟨target, iter, [], 0⟩] scope pos) env) Q E s := by
  rw [eval_ListComp]
  refine wpAny_comprehension_free (use := none) rfl hs hclos hkind hnames (wpAny_mono h (fun xv s₁ h₁ => wpAny_mono h₁ (fun it s₂ h₂ => ?_) fun _ _ e => e) fun _ _ e => e)
  obtain ⟨⟨I, fp, wr, P, Md, St, rfl, W, hself, asg, hst, hfp, hwo, F, N, hLf, hwr, off⟩, fin⟩ := h₂
  refine comp_block (J := fun i ys nx => nx = news ∧ IntsAre ys ((List.range i).map g)) W hself hsz asg hcell hkind hst hfp (hwo 0 _ hst) hwo F N hLf hwr off ⟨rfl, .nil⟩ ?_ ?_
  · rintro i ys news' C oC D m₂ own hp₁ tk E' hi ⟨rfl, hys⟩ off' hin hoC hBd F' N'
    refine wpAny_tests_nil ?_
    simp only [if_true]
    refine wpAny_mono (elem { s₂ with heap := hp₁, toks := tk } i C oC m₂ ((D, lst ys) :: own ++ news') E' hi hoC hBd F' N' fun p hp => List.mem_append_right _ hp) (fun y s' hy => ?_) fun _ _ e => e
    obtain ⟨t, h', tk', rfl, rfl, F₂, N₂⟩ := hy
    refine ⟨h', tk', news', rfl, F₂, N₂, off', rfl, ?_⟩
    rw [List.range_succ, List.map_append]
    exact hys.append (.cons _ _ .nil)
  · rintro D C hp₁ tk m' ys news' F' N' off' hn hC₀ hD₀ hCL hDL hCD hlt ⟨rfl, hys⟩
    refine ⟨m', hn, fun h'' hs'' => fin D ys ys.length h'' tk (F'.change hs'' hCL hC₀) (fun p hp => ?_) hlt hys⟩
    refine ⟨hs''.extBut _ _ ?_ (N' p hp).1, (N' p hp).2⟩
    rcases List.mem_cons.mp hp with rfl | hp
    · exact Ne.symm hCD
    · exact fun e => off' p hp (e ▸ List.mem_cons_self)

/-- the target is one name -/
theorem asg_name {x : Str} {px : Pos} {scope : Scope} {cl : List (Str × Addr)} {n : Nat} {P : Nat → Value → Heap → Prop} {V : Nat → Value → Prop} (hkind : scope.kind = .function) (hx : scope.names.lookup x = some .local) (hP : ∀ i v h, i < n → P i v h → V i v) :
    CAsg prog w A env scope cl (.Name x px) n P (fun i m₂ => ∃ v, m₂ x = some v ∧ V i v) := by
  intro i v C m' s' Q E' hi hp hn hQ
  refine wpAny_assign_Name (wpAny_storeName_local (lookup_relabel_local hx) hn (fun h₃ hn₃ hs₃ => ?_) (by simp [compEnvC, relabel, hkind]))
  exact hQ h₃ _ _ hn₃ ⟨v, by simp, hP i v _ hi hp⟩ fun b o hb e => hs₃.extBut b o hb e

/-- the target is a pair of names, the item a tuple -/
theorem asg_pair {x y : Str} {px py tp : Pos} {tk : Nat} {scope : Scope} {cl : List (Str × Addr)} {n : Nat} {Pt : Nat → Array Value → Prop} (hh : A.handled = none) (hkind : scope.kind = .function) (hx : scope.names.lookup x = some .local) (hy : scope.names.lookup y = some .local) (hxy : x ≠ y)
    (h2 : ∀ i vals, i < n → Pt i vals → ∃ a b, vals = #[a, b]) :
    CAsg prog w A env scope cl (.Tuple [.Name x px, .Name y py] tk tp) n (fun i v h => ∃ T vals, v = .ref T ∧ Pt i vals ∧ h.IsTuple T vals) (fun i m₂ => ∃ a b, m₂ x = some a ∧ m₂ y = some b ∧ Pt i #[a, b]) := by
  rintro i v C m' s' Q E' hi ⟨T, vals, rfl, hp, hT⟩ hn hQ
  obtain ⟨a, b, rfl⟩ := h2 i vals hi hp
  refine assign_Tuple_tuple hh (items := #[a, b]) hT rfl rfl fun h₅ he => ?_
  have he' : ∀ b o, s'.heap.get? b = some o → h₅.get? b = some o := fun b o e => he b o (Nat.ne_of_lt (Heap.lt_size e)) e
  refine assignInOrder_cons (wpAny_assign_Name (wpAny_storeName_local (lookup_relabel_local hx) (hn.at' fun o e => he' _ o e) (fun h₆ hn₆ hs₆ => ?_) (by simp [compEnvC, relabel, hkind])))
  refine assignInOrder_cons (wpAny_assign_Name (wpAny_storeName_local (lookup_relabel_local hy) hn₆ (fun h₃ hn₃ hs₃ => ?_) (by simp [compEnvC, relabel, hkind])))
  refine assignInOrder_nil ?_
  exact hQ h₃ _ _ hn₃ ⟨a, b, by simp [hxy], by simp, hp⟩ fun b o hb e => hs₃.extBut b o hb (hs₆.extBut b o hb (he' b o e))

/-- sources -/
theorem src_list {x : Str} {px : Pos} {scope : Scope} {cl : List (Str × Addr)} {news : List (Addr × Obj)} {ax : Addr} {its : Array Value} {E' : Value → Shared → Prop} {R : Shared → Prop} {n : Nat} {s₁ : Shared}
    (hh : A.handled = none) (hkind : scope.kind = .function) (hx : scope.names.lookup x = some .local) (F : Fr h₀ L s₁.heap m) (N : News h₀ L s₁.heap news) (hl : s₁.heap.IsList ax its) (hne : ax ≠ L) (hsz : its.size = n)
    (k : ∀ h, R { s₁ with heap := h }) :
    wpAny (model prog w) A (pyIter (.ref ax)) (fun it s₂ => CSrc prog w A h₀ L m env scope cl (.Name x px) n (fun i m₂ => ∃ v, m₂ x = some v ∧ its[i]? = some v) news it s₂ ∧ R s₂) E' s₁ := by
  subst hsz
  have hlt : ax < s₁.heap.objs.size := by obtain ⟨_, e, _⟩ := hl; exact Heap.lt_size e
  refine wpAny_pyIter_list hl ⟨?_, k _⟩
  have up : ∀ b o, s₁.heap.get? b = some o → (s₁.heap.push { cls := .type "list_iterator", data := .fields #[.ref ax, .int 0 0] }).get? b = some o := fun b o e => Heap.get?_push_of_some _ e
  refine ⟨s₁.heap.objs.size, [s₁.heap.objs.size, ax], [s₁.heap.objs.size], _, _, _, rfl, KTurns.ofWalks (Walks.list hh s₁.heap.objs.size ax (Nat.ne_of_lt hlt) its) (fun i v s Q E _ hQ => wpAny_pure hQ), fun i s Q E st hQ => wpAny_pyIter_listiter st.1 hQ,
    asg_name hkind hx (V := fun i v => its[i]? = some v) (fun i v h _ e => e), ⟨⟨_, Heap.get?_push_size _ rfl, rfl, rfl⟩, hl.push _⟩, fun b hb => ?_, fun i h st b hb => ?_, F.keeps up, N.grown up, fun hm => ?_, fun b hb => ?_, fun p hp hm => ?_⟩
  · show b < (s₁.heap.push _).objs.size
    rw [Heap.size_push]
    rcases List.mem_cons.mp hb with rfl | hb
    · exact Nat.lt_succ_self _
    · rw [List.mem_singleton.mp hb]; exact Nat.lt_succ_of_lt hlt
  · rw [List.mem_singleton.mp hb]; obtain ⟨⟨o, e, _⟩, _⟩ := st; exact ⟨o, e⟩
  · rcases List.mem_cons.mp hm with e | hm
    · exact absurd F.ns.lt (e ▸ Nat.lt_irrefl _)
    · exact hne (List.mem_singleton.mp hm).symm
  · rw [List.mem_singleton.mp hb]; exact next_is_new F
  · exact absurd (Heap.lt_size (N p hp).1) (List.mem_singleton.mp hm ▸ Nat.lt_irrefl _)

theorem src_range {x : Str} {px : Pos} {scope : Scope} {cl : List (Str × Addr)} {news : List (Addr × Obj)} {r : Addr} {a b : Int} {t u v : Tok} {n : Nat} {E' : Value → Shared → Prop} {R : Shared → Prop} {s₁ : Shared}
    (hh : A.handled = none) (hkind : scope.kind = .function) (hx : scope.names.lookup x = some .local) (F : Fr h₀ L s₁.heap m) (N : News h₀ L s₁.heap news)
    (hr : IsRange s₁.heap r a b 1 t u v) (hsm : Builtin.Range.small a b 1 = true) (hn : Builtin.Range.rangeSize a b 1 = ((n : Nat) : Int))
    (k : ∀ h, R { s₁ with heap := h }) :
    wpAny (model prog w) A (pyIter (.ref r)) (fun it s₂ => CSrc prog w A h₀ L m env scope cl (.Name x px) n (fun i m₂ => ∃ v, m₂ x = some v ∧ ∃ t, v = .int (a + (i : Int)) t) news it s₂ ∧ R s₂) E' s₁ := by
  refine wpAny_pyIter_range hr hsm ⟨?_, k _⟩
  refine ⟨s₁.heap.objs.size, [s₁.heap.objs.size], [s₁.heap.objs.size], _, _, _, rfl, KTurns.ofWalks (range_walks (I := s₁.heap.objs.size) hh a n) (fun i v s Q E _ hQ => wpAny_pure hQ), (range_walks (I := s₁.heap.objs.size) hh a n).self,
    asg_name hkind hx (V := fun i v => ∃ t, v = .int (a + (i : Int)) t) (fun i v h _ e => e), (by show IsRangeIter _ _ _ _ _; rw [hn]; simpa using Heap.get?_push_size _ rfl), fun b hb => ?_, fun i h st b hb => ?_,
    F.keeps fun _ _ e => Heap.get?_push_of_some _ e, N.grown fun _ _ e => Heap.get?_push_of_some _ e, fun hm => ?_, fun b hb => ?_, fun p hp hm => ?_⟩
  · rw [List.mem_singleton.mp hb]
    show s₁.heap.objs.size < (s₁.heap.push _).objs.size
    rw [Heap.size_push]; exact Nat.lt_succ_self _
  · rw [List.mem_singleton.mp hb]; exact ⟨_, st⟩
  · exact absurd F.ns.lt (List.mem_singleton.mp hm ▸ Nat.lt_irrefl _)
  · rw [List.mem_singleton.mp hb]; exact next_is_new F
  · exact absurd (Heap.lt_size (N p hp).1) (List.mem_singleton.mp hm ▸ Nat.lt_irrefl _)

theorem src_bytes {x : Str} {px : Pos} {scope : Scope} {cl : List (Str × Addr)} {news : List (Addr × Obj)} {b : Array UInt8} {t : Tok} {E' : Value → Shared → Prop} {R : Shared → Prop} {n : Nat} {s₁ : Shared}
    (hh : A.handled = none) (hkind : scope.kind = .function) (hx : scope.names.lookup x = some .local) (F : Fr h₀ L s₁.heap m) (N : News h₀ L s₁.heap news) (hsz : b.size = n)
    (k : ∀ h, R { s₁ with heap := h }) :
    wpAny (model prog w) A (pyIter (.bytes b t)) (fun it s₂ => CSrc prog w A h₀ L m env scope cl (.Name x px) n (fun i m₂ => ∃ v, m₂ x = some v ∧ ∃ c u, b[i]? = some c ∧ v = .int (c.toNat : Int) u) news it s₂ ∧ R s₂) E' s₁ := by
  subst hsz
  refine KBw.pyIter_bytes ⟨?_, k _⟩
  have W := KBw.walks (prog := prog) (w := w) hh s₁.heap.objs.size b t
  refine ⟨s₁.heap.objs.size, [s₁.heap.objs.size], [s₁.heap.objs.size], _, _, _, rfl, KTurns.ofWalks W (fun i v s Q E _ hQ => wpAny_pure hQ), W.self,
    asg_name hkind hx (V := fun i v => ∃ c u, b[i]? = some c ∧ v = .int (c.toNat : Int) u) (fun i v h _ e => e), ⟨_, Heap.get?_push_size _ rfl, rfl, rfl⟩, fun b hb => ?_, fun i h st b hb => ?_,
    F.keeps fun _ _ e => Heap.get?_push_of_some _ e, N.grown fun _ _ e => Heap.get?_push_of_some _ e, fun hm => ?_, fun b hb => ?_, fun p hp hm => ?_⟩
  · rw [List.mem_singleton.mp hb]
    show s₁.heap.objs.size < (s₁.heap.push _).objs.size
    rw [Heap.size_push]; exact Nat.lt_succ_self _
  · rw [List.mem_singleton.mp hb]; obtain ⟨o, ho, _⟩ := st; exact ⟨o, ho⟩
  · exact absurd F.ns.lt (List.mem_singleton.mp hm ▸ Nat.lt_irrefl _)
  · rw [List.mem_singleton.mp hb]; exact next_is_new F
  · exact absurd (Heap.lt_size (N p hp).1) (List.mem_singleton.mp hm ▸ Nat.lt_irrefl _)
end
section
open PySem.Calls PyProof.Rows.LCg
variable {M : Model} {A : Around} {E : Value → Shared → Prop} {s : Shared} {h₀ : Heap} {L C c : Addr} {m m₂ : Str → Option Value} {news : List (Addr × Obj)} {scope : Scope} {cl : List (Str × Addr)} {env : Env} {x : Str} {pos : Pos} {v : Value} {o : Obj} {Q : Value → Shared → Prop}
theorem ints_at {vs : List Value} {ns : List Int} {i : Nat} {v : Value} (hI : IntsAre vs ns) (h : vs.toArray[i]? = some v) : ∃ t, v = .int (ns.getD i 0) t ∧ ns.getD i 0 ∈ ns := by
  have hlt : i < ns.length := by
    rw [← hI.length]
    rw [List.getElem?_toArray] at h
    exact (List.getElem?_eq_some_iff.mp h).1
  obtain ⟨t, ht⟩ := hI.get i ns[i] (List.getElem?_eq_getElem hlt)
  rw [List.getElem?_toArray, ht] at h
  rw [List.getD_eq_getElem?_getD, List.getElem?_eq_getElem hlt]
  exact ⟨t, (Option.some.inj h).symm, List.getElem_mem hlt⟩
theorem range_getD (ns : List Int) (f : Int → Int) : (List.range ns.length).map (fun i => f (ns.getD i 0)) = ns.map f := by
  apply List.ext_getElem
  · simp
  · intro i h1 h2
    simp at h1 h2
    simp [List.getD_eq_getElem?_getD, h1]
end
end
section
section
variable {w : World} {mean : ExcName → Option Value} {mg mb : Str → Option Value} {p : Program} {loose : List Str}

theorem lpower_tells (news : CbLed) (x y : Int) (t u : CbTok) (hx : Oct x) (hy : 0 ≤ y ∧ y < 4096) : Tells w p loose mean mg mb 2 141 news [.int x t, .int y u] (RetI (powI x y)) := by
  k_extra "tb_start"
  k_with "state" => with_reducible (first
    | exact lp_s (by assumption)
    | exact lp_t1 (by assumption) (by assumption) (by assumption) (by assumption) (by assumption) (by assumption)
    | exact lp_t0 (by assumption) (by assumption) (by assumption) (by assumption) (by assumption) (by assumption)
    | fail "open")
  k_with "pyIter ref" => k_state (fun pre f => f = powI x (y.fdiv (2 ^ (12 - pre.length)))) "found"
  k_steps
  all_goals first | (refine cb_retI hret ?_ (by k_asm) (newsBack N (by assumption)); exact lp_end (by assumption) (by with_unfolding_all rfl)) | fail "open"
end
end
section
open PySem.Calls PyProof.Rows.LCg PySem.W.KBw
section
variable {prog : Program} {w : World} {A : Around} {E : Value → Shared → Prop} {s : Shared}

theorem zipb_turns (hh : A.handled = none) {elts : List Expr} {kk : Nat} {pos : Pos} (z TI TO i1 i2 : Addr) (D : ZB z TI TO i1 i2) (b1 b2 : Array UInt8) (t1 t2 : Tok) :
    KTurns prog w A (.Tuple elts kk pos) z [z, TI, TO, i1, i2] [z, TO, i1, i2] (min b1.size b2.size)
      (fun i v h => ∃ T vals, v = .ref T ∧ (∃ c d t u, b1[i]? = some c ∧ b2[i]? = some d ∧ vals = #[.int (c.toNat : Int) t, .int (d.toNat : Int) u]) ∧ h.IsTuple T vals)
      (fun i v h => ∃ T x y, v = .ref T ∧ (∃ c d t u, b1[i]? = some c ∧ b2[i]? = some d ∧ x = .int (c.toNat : Int) t ∧ y = .int (d.toNat : Int) u) ∧ IsPair h T x y ∧ T ≠ z ∧ T ≠ TO ∧ T ≠ i1 ∧ T ≠ i2 ∧
        IsZip h z TI TO (rawInt T) ∧ IsPair h TI (.ref i1) (.ref i2) ∧ (∃ a b, IsPair h TO a b) ∧ IsBytesIter h i1 b1 t1 (i + 1) ∧ IsBytesIter h i2 b2 t2 (i + 1))
      (fun i h => IsZip h z TI TO .none ∧ IsPair h TI (.ref i1) (.ref i2) ∧ (∃ a b, IsPair h TO a b) ∧ IsBytesIter h i1 b1 t1 i ∧ IsBytesIter h i2 b2 t2 i) where
  sub := fun c hc => by simp at hc ⊢; rcases hc with rfl | rfl | rfl | rfl <;> simp
  frame := fun i h h' hst hk => by
    obtain ⟨hz, hTI, ⟨a, b, hTO⟩, h1, h2⟩ := hst
    exact ⟨hk z (by simp) _ hz, hk TI (by simp) _ hTI, ⟨a, b, hk TO (by simp) _ hTO⟩, bi_at h1 fun o e => hk i1 (by simp) o e, bi_at h2 fun o e => hk i2 (by simp) o e⟩
  item := fun i s Q E hi hst hQ => by
    obtain ⟨hz, hTI, ⟨a, b, hTO⟩, h1, h2⟩ := hst
    have hix : i < b1.size := Nat.lt_of_lt_of_le hi (Nat.min_le_left ..)
    have hiy : i < b2.size := Nat.lt_of_lt_of_le hi (Nat.min_le_right ..)
    refine zipb_item D hz hTI hTO h1 h2 (Array.getElem?_eq_getElem hix) (Array.getElem?_eq_getElem hiy) fun h' x y a1 a2 a3 a4 a5 ⟨t, ex⟩ ⟨u, ey⟩ hk => ?_
    have lt : ∀ {c o}, s.heap.get? c = some o → s.heap.objs.size ≠ c := fun e => Nat.ne_of_gt (Heap.lt_size e)
    exact hQ (.ref s.heap.objs.size) h' _ ⟨_, x, y, rfl, ⟨_, _, t, u, Array.getElem?_eq_getElem hix, Array.getElem?_eq_getElem hiy, ex, ey⟩, a5, lt hz, lt hTO, (by obtain ⟨_, e, _⟩ := h1; exact lt e), (by obtain ⟨_, e, _⟩ := h2; exact lt e),
        a1, hk _ _ D.TIz D.TITO D.TIi1 D.TIi2 hTI, ⟨_, _, a2⟩, a3, a4⟩
      fun c o hc e => hk c o (fun x => hc (by simp [x])) (fun x => hc (by simp [x])) (fun x => hc (by simp [x])) (fun x => hc (by simp [x])) e
  go := fun i v s Q E hm hQ => by
    obtain ⟨T, x, y, rfl, ⟨c, d, t, u, hc, hd, rfl, rfl⟩, hT, n1, n2, n3, n4, hz, hTI, ⟨a, b, hTO⟩, h1, h2⟩ := hm
    refine wpAny_letOwnedTupleGo_zip hz fun h' hz' hs' => hQ h' ⟨T, _, rfl, ⟨c, d, t, u, hc, hd, rfl⟩, ⟨_, hs'.extBut _ _ n1 hT, rfl, _, rfl⟩⟩ ⟨hz', hs'.extBut _ _ D.TIz hTI, ⟨a, b, hs'.extBut _ _ D.TOz hTO⟩,
      bi_at h1 fun o e => hs'.extBut _ o D.i1z e, bi_at h2 fun o e => hs'.extBut _ o D.i2z e⟩ fun c o hc e => hs'.extBut _ _ (fun x => hc (by simp [x])) e
  done := fun s Q E hst hQ => by
    obtain ⟨hz, hTI, ⟨a, b, hTO⟩, h1, h2⟩ := hst
    have hend : b1[min b1.size b2.size]? = none ∨ b2[min b1.size b2.size]? = none := by
      rcases Nat.le_total b1.size b2.size with h | h
      · exact .inl (by rw [Nat.min_eq_left h]; exact Array.getElem?_eq_none (Nat.le_refl _))
      · exact .inr (by rw [Nat.min_eq_right h]; exact Array.getElem?_eq_none (Nat.le_refl _))
    exact zipb_end hh D hz hTI hTO h1 h2 hend fun h' tk hk => hQ h' tk fun c o hc e =>
      hk c o (fun x => hc (by simp [x])) (fun x => hc (by simp [x])) (fun x => hc (by simp [x])) (fun x => hc (by simp [x])) e

noncomputable abbrev zbH1 (h : Heap) (b1 : Array UInt8) (t1 : Tok) : Heap := h.push { cls := .type "bytes_iterator", data := .fields #[.bytes b1 t1, .int 0 0] }
noncomputable abbrev zbH2 (h : Heap) (b1 b2 : Array UInt8) (t1 t2 : Tok) : Heap := (zbH1 h b1 t1).push { cls := .type "bytes_iterator", data := .fields #[.bytes b2 t2, .int 0 0] }
noncomputable abbrev zbH3 (h : Heap) (b1 b2 : Array UInt8) (t1 t2 : Tok) : Heap := (zbH2 h b1 b2 t1 t2).push { cls := .type "tuple", data := .seq #[.ref h.objs.size, .ref (zbH1 h b1 t1).objs.size] }
noncomputable abbrev zbH4 (h : Heap) (b1 b2 : Array UInt8) (t1 t2 : Tok) : Heap := (zbH3 h b1 b2 t1 t2).push { cls := .type "tuple", data := .seq #[.none, .none] }
noncomputable abbrev zbH5 (h : Heap) (b1 b2 : Array UInt8) (t1 t2 : Tok) : Heap := (zbH4 h b1 b2 t1 t2).push { cls := .type "zip", data := .fields #[.none, .bool false, .bool false, .ref (zbH2 h b1 b2 t1 t2).objs.size, .ref (zbH3 h b1 b2 t1 t2).objs.size] }

theorem meets_zipb_new (b1 b2 : Array UInt8) (t1 t2 : Tok) :
    Meets (Builtin.«zip.__new__» ⟨[.type "zip", .bytes b1 t1, .bytes b2 t2], []⟩) (fun _ R s =>
      R (.ok (.ret (.ref (zbH4 s.heap b1 b2 t1 t2).objs.size))) { s with heap := zbH5 s.heap b1 b2 t1 t2 }) :=
  .of_wp fun prog w A R s h => by
    obtain ⟨hp, g, d, tk, os⟩ := s
    have hsub := PySem.sub_zip
    wp_walk using KBw.pyIter_bytes, KBw.pyIter_bytes
    exact ⟨_, rfl, h⟩

theorem call_zipb {b1 b2 : Array UInt8} {t1 t2 : Tok} {Q : Value → Shared → Prop}
    (h : ∀ h', IsZip h' (s.heap.objs.size + 4) (s.heap.objs.size + 2) (s.heap.objs.size + 3) .none → IsPair h' (s.heap.objs.size + 2) (.ref s.heap.objs.size) (.ref (s.heap.objs.size + 1)) →
      IsPair h' (s.heap.objs.size + 3) .none .none → IsBytesIter h' s.heap.objs.size b1 t1 0 → IsBytesIter h' (s.heap.objs.size + 1) b2 t2 0 → h'.objs.size = s.heap.objs.size + 5 →
      (∀ c o, s.heap.get? c = some o → h'.get? c = some o) → Q (.ref (s.heap.objs.size + 4)) { s with heap := h' }) :
    wpAny (model prog w) A (call (.type "zip") [.bytes b1 t1, .bytes b2 t2]) Q E s := by
  refine callType_new F.called_zip (by decide) (F.typeCall_zip_2 _ _) (F.newCall_zip_2 _ _) (fun obj => F.args_object_init_3 obj _ _) F.entry_zip_new
    (meets_zipb_new b1 b2 t1 t2) ?_
  have z1 : (zbH1 s.heap b1 t1).objs.size = s.heap.objs.size + 1 := Heap.size_push ..
  have z2 : (zbH2 s.heap b1 b2 t1 t2).objs.size = s.heap.objs.size + 2 := by rw [Heap.size_push, z1]
  have z3 : (zbH3 s.heap b1 b2 t1 t2).objs.size = s.heap.objs.size + 3 := by rw [Heap.size_push, z2]
  have z4 : (zbH4 s.heap b1 b2 t1 t2).objs.size = s.heap.objs.size + 4 := by rw [Heap.size_push, z3]
  have z5 : (zbH5 s.heap b1 b2 t1 t2).objs.size = s.heap.objs.size + 5 := by rw [Heap.size_push, z4]
  have g5 : (zbH5 s.heap b1 b2 t1 t2).get? (zbH4 s.heap b1 b2 t1 t2).objs.size = some _ := Heap.get?_push_size _ rfl
  have g4 : (zbH5 s.heap b1 b2 t1 t2).get? (zbH3 s.heap b1 b2 t1 t2).objs.size = some _ := Heap.get?_push_of_some _ (Heap.get?_push_size _ rfl)
  have g3 : (zbH5 s.heap b1 b2 t1 t2).get? (zbH2 s.heap b1 b2 t1 t2).objs.size = some _ := Heap.get?_push_of_some _ (Heap.get?_push_of_some _ (Heap.get?_push_size _ rfl))
  have g2 : (zbH5 s.heap b1 b2 t1 t2).get? (zbH1 s.heap b1 t1).objs.size = some _ := Heap.get?_push_of_some _ (Heap.get?_push_of_some _ (Heap.get?_push_of_some _ (Heap.get?_push_size _ rfl)))
  have g1 : (zbH5 s.heap b1 b2 t1 t2).get? s.heap.objs.size = some _ := Heap.get?_push_of_some _ (Heap.get?_push_of_some _ (Heap.get?_push_of_some _ (Heap.get?_push_of_some _ (Heap.get?_push_size _ rfl))))
  show _ ∧ _
  rw [z2, z3, z4] at g5
  rw [z1, z2] at g3
  rw [z3] at g4
  rw [z1] at g2
  rw [z4]
  exact ⟨⟨_, g5, rfl⟩, h _ g5 g3 g4 ⟨_, g1, rfl, rfl⟩ ⟨_, g2, rfl, rfl⟩ z5 fun c o x =>
    Heap.get?_push_of_some _ (Heap.get?_push_of_some _ (Heap.get?_push_of_some _ (Heap.get?_push_of_some _ (Heap.get?_push_of_some _ x))))⟩

theorem nd4 (n : Nat) : ZB (n + 4) (n + 2) (n + 3) n (n + 1) := by constructor <;> (show @Ne Nat _ _; omega)
variable {h₀ : Heap} {L : Addr} {m : Str → Option Value} {env : Env}
theorem src_zipb {x y : Str} {px py tp : Pos} {tk : Nat} {scope : Scope} {cl : List (Str × Addr)} {news : List (Addr × Obj)} {b1 b2 : Array UInt8} {t1 t2 : Tok} {E E' : Value → Shared → Prop} {R : Shared → Prop} {n : Nat} {s₁ : Shared}
    (hh : A.handled = none) (hkind : scope.kind = .function) (hx : scope.names.lookup x = some .local) (hy : scope.names.lookup y = some .local) (hxy : x ≠ y) (F : Fr h₀ L s₁.heap m) (N : News h₀ L s₁.heap news) (hsz : min b1.size b2.size = n)
    (k : ∀ h, R { s₁ with heap := h }) :
    wpAny (model prog w) A (call (.type "zip") [.bytes b1 t1, .bytes b2 t2]) (fun xv s₂ => wpAny (model prog w) A (pyIter xv) (fun it s₂ => CSrc prog w A h₀ L m env scope cl (.Tuple [.Name x px, .Name y py] tk tp) n
      (fun i m₂ => ∃ a b, m₂ x = some a ∧ m₂ y = some b ∧ ∃ c d t u, b1[i]? = some c ∧ b2[i]? = some d ∧ (#[a, b] : Array Value) = #[.int (c.toNat : Int) t, .int (d.toNat : Int) u]) news it s₂ ∧ R s₂) E' s₂) E s₁ := by
  subst hsz
  refine call_zipb fun h' a1 a2 a3 a4 a5 a6 hk => wpAny_pyIter_zip a1 ⟨?_, k _⟩
  have above : ∀ j, ∀ p ∈ news, p.1 ≠ s₁.heap.objs.size + j := fun j p hp e => Nat.lt_irrefl _ (Nat.lt_of_le_of_lt (Nat.le_add_right _ j) (e ▸ Heap.lt_size (N p hp).1))
  have fresh : ∀ j, h₀.get? (s₁.heap.objs.size + j) = none := fun j => Heap.get?_none_of_le (Nat.le_trans F.above (Nat.le_trans (Nat.le_of_lt F.ns.lt) (Nat.le_add_right _ j)))
  have Lne : ∀ j, L ≠ s₁.heap.objs.size + j := fun j e => Nat.lt_irrefl _ (Nat.lt_of_le_of_lt (Nat.le_add_right _ j) (e ▸ F.ns.lt))
  refine ⟨s₁.heap.objs.size + 4, [s₁.heap.objs.size + 4, s₁.heap.objs.size + 2, s₁.heap.objs.size + 3, s₁.heap.objs.size, s₁.heap.objs.size + 1], [s₁.heap.objs.size + 4, s₁.heap.objs.size + 3, s₁.heap.objs.size, s₁.heap.objs.size + 1], _, _, _, rfl,
    zipb_turns hh _ _ _ _ _ (nd4 _) b1 b2 t1 t2, fun i s Q E st hQ => wpAny_pyIter_zip st.1 hQ, asg_pair hh hkind hx hy hxy (fun i vals _ ⟨c, d, t, u, _, _, e⟩ => ⟨_, _, e⟩), ⟨a1, a2, ⟨_, _, a3⟩, a4, a5⟩, fun b hb => ?_, fun i h st b hb => ?_,
    F.keeps hk, N.grown hk, fun hm => ?_, fun b hb => ?_, fun p hp hm => ?_⟩
  · show b < h'.objs.size
    rw [a6]
    simp only [List.mem_cons, List.not_mem_nil, or_false] at hb
    rcases hb with rfl | rfl | rfl | rfl | rfl <;> (show @LT.lt Nat _ _ _; omega)
  · obtain ⟨hz, hTI, ⟨a, b, hTO⟩, ⟨o1, e1, _⟩, ⟨o2, e2, _⟩⟩ := st
    simp only [List.mem_cons, List.not_mem_nil, or_false] at hb
    rcases hb with rfl | rfl | rfl | rfl
    · exact ⟨_, hz⟩
    · exact ⟨_, hTO⟩
    · exact ⟨_, e1⟩
    · exact ⟨_, e2⟩
  · simp only [List.mem_cons, List.not_mem_nil, or_false] at hm
    rcases hm with e | e | e | e | e
    · exact Lne 4 e
    · exact Lne 2 e
    · exact Lne 3 e
    · exact Lne 0 e
    · exact Lne 1 e
  · simp only [List.mem_cons, List.not_mem_nil, or_false] at hb
    rcases hb with rfl | rfl | rfl | rfl
    · exact fresh 4
    · exact fresh 3
    · exact fresh 0
    · exact fresh 1
  · simp only [List.mem_cons, List.not_mem_nil, or_false] at hm
    rcases hm with e | e | e | e
    · exact above 4 p hp e
    · exact above 3 p hp e
    · exact above 0 p hp e
    · exact above 1 p hp e

theorem src_zipl {x y : Str} {px py tp : Pos} {tk : Nat} {scope : Scope} {cl : List (Str × Addr)} {news : List (Addr × Obj)} {l1 l2 : Addr} {xs ys : Array Value} {E E' : Value → Shared → Prop} {R : Shared → Prop} {n : Nat} {s₁ : Shared}
    (hh : A.handled = none) (hkind : scope.kind = .function) (hx : scope.names.lookup x = some .local) (hy : scope.names.lookup y = some .local) (hxy : x ≠ y) (F : Fr h₀ L s₁.heap m) (N : News h₀ L s₁.heap news)
    (hl1 : s₁.heap.IsList l1 xs) (hl2 : s₁.heap.IsList l2 ys) (hn1 : l1 ≠ L) (hn2 : l2 ≠ L) (hsz : min xs.size ys.size = n)
    (k : ∀ h, R { s₁ with heap := h }) :
    wpAny (model prog w) A (call (.type "zip") [.ref l1, .ref l2]) (fun xv s₂ => wpAny (model prog w) A (pyIter xv) (fun it s₂ => CSrc prog w A h₀ L m env scope cl (.Tuple [.Name x px, .Name y py] tk tp) n
      (fun i m₂ => ∃ a b, m₂ x = some a ∧ m₂ y = some b ∧ ∃ c d, xs[i]? = some c ∧ ys[i]? = some d ∧ (#[a, b] : Array Value) = #[c, d]) news it s₂ ∧ R s₂) E' s₂) E s₁ := by
  subst hsz
  refine call_zip_2 hl1 hl2 fun h' a1 a2 a3 a4 a5 a6 hk => wpAny_pyIter_zip a1 ⟨?_, k _⟩
  have above : ∀ j, ∀ p ∈ news, p.1 ≠ s₁.heap.objs.size + j := fun j p hp e => Nat.lt_irrefl _ (Nat.lt_of_le_of_lt (Nat.le_add_right _ j) (e ▸ Heap.lt_size (N p hp).1))
  have fresh : ∀ j, h₀.get? (s₁.heap.objs.size + j) = none := fun j => Heap.get?_none_of_le (Nat.le_trans F.above (Nat.le_trans (Nat.le_of_lt F.ns.lt) (Nat.le_add_right _ j)))
  have Lne : ∀ j, L ≠ s₁.heap.objs.size + j := fun j e => Nat.lt_irrefl _ (Nat.lt_of_le_of_lt (Nat.le_add_right _ j) (e ▸ F.ns.lt))
  have k1 : l1 < s₁.heap.objs.size := by obtain ⟨_, e, _⟩ := hl1; exact Heap.lt_size e
  have k2 : l2 < s₁.heap.objs.size := by obtain ⟨_, e, _⟩ := hl2; exact Heap.lt_size e
  have D : ZipApart (s₁.heap.objs.size + 4) (s₁.heap.objs.size + 2) (s₁.heap.objs.size + 3) s₁.heap.objs.size (s₁.heap.objs.size + 1) l1 l2 := by
    have k1' : @LT.lt Nat _ l1 s₁.heap.objs.size := k1
    have k2' : @LT.lt Nat _ l2 s₁.heap.objs.size := k2
    constructor <;> (show @Ne Nat _ _; omega)
  refine ⟨s₁.heap.objs.size + 4, [s₁.heap.objs.size + 4, s₁.heap.objs.size + 2, s₁.heap.objs.size + 3, s₁.heap.objs.size, s₁.heap.objs.size + 1, l1, l2], [s₁.heap.objs.size + 4, s₁.heap.objs.size + 3, s₁.heap.objs.size, s₁.heap.objs.size + 1], _, _, _, rfl,
    KTurns.ofWalksU (WalksT.zip2 hh _ _ _ _ _ _ _ D xs ys).toU, fun i s Q E st hQ => wpAny_pyIter_zip st.1 hQ, asg_pair hh hkind hx hy hxy (fun i vals _ ⟨c, d, _, _, e⟩ => ⟨_, _, e⟩), ⟨a1, a2, ⟨_, _, a3⟩, a4, a5, hl1.at fun o e => hk _ o e, hl2.at fun o e => hk _ o e⟩, fun b hb => ?_, fun i h st b hb => ?_,
    F.keeps hk, N.grown hk, fun hm => ?_, fun b hb => ?_, fun p hp hm => ?_⟩
  · show b < h'.objs.size
    rw [a6]
    have k1' : @LT.lt Nat _ l1 s₁.heap.objs.size := k1
    have k2' : @LT.lt Nat _ l2 s₁.heap.objs.size := k2
    simp only [List.mem_cons, List.not_mem_nil, or_false] at hb
    rcases hb with rfl | rfl | rfl | rfl | rfl | rfl | rfl <;> (show @LT.lt Nat _ _ _; omega)
  · obtain ⟨hz, hTI, ⟨a, b, hTO⟩, ⟨o1, e1, _⟩, ⟨o2, e2, _⟩, _⟩ := st
    simp only [List.mem_cons, List.not_mem_nil, or_false] at hb
    rcases hb with rfl | rfl | rfl | rfl
    · exact ⟨_, hz⟩
    · exact ⟨_, hTO⟩
    · exact ⟨_, e1⟩
    · exact ⟨_, e2⟩
  · simp only [List.mem_cons, List.not_mem_nil, or_false] at hm
    rcases hm with e | e | e | e | e | e | e
    · exact Lne 4 e
    · exact Lne 2 e
    · exact Lne 3 e
    · exact Lne 0 e
    · exact Lne 1 e
    · exact hn1 e.symm
    · exact hn2 e.symm
  · simp only [List.mem_cons, List.not_mem_nil, or_false] at hb
    rcases hb with rfl | rfl | rfl | rfl
    · exact fresh 4
    · exact fresh 3
    · exact fresh 0
    · exact fresh 1
  · simp only [List.mem_cons, List.not_mem_nil, or_false] at hm
    rcases hm with e | e | e | e
    · exact above 4 p hp e
    · exact above 3 p hp e
    · exact above 0 p hp e
    · exact above 1 p hp e
end
end
section
section
variable {w : World} {mean : ExcName → Option Value} {mg mb : Str → Option Value} {p : Program} {loose : List Str}

theorem inverse_tells (news : CbLed) (x : Int) (t : CbTok) (hx : Oct x) (h0 : x ≠ 0) : Tells w p loose mean mg mb 4 74 news [.int x t] (RetI (powI x 254)) := by
  k_extra "tb_start"
  k_steps
  all_goals first | exact absurd (by assumption) h0 | (refine cb_retI hret ?_ (by k_asm) (newsBack N (by assumption)); rfl) | fail "open"

end
end
section
open PySem.Calls PyProof.Rows.LCg PySem.W.KBw
section
variable {w : World} {mean : ExcName → Option Value} {mg mb : Str → Option Value} {p : Program} {loose : List Str}
theorem times_row_tells (news : CbLed) (l : Addr) (vs : List Value) (ns : List Int) (f : Int) (t : CbTok) (hI : IntsAre vs ns) (hl : ns.length ≤ 63) (ho : ∀ x ∈ ns, Oct x) (hf : Oct f) :
    Tells w p loose mean mg mb 3 108 news [.ref l, .int f t] (fun h₀ L m news s Q E fr => s.heap.IsList l vs.toArray ∧ RetL (ns.map fun x => mulI x f) h₀ L m news s Q E fr) := by
  k_extra "kt_ors"
  rename_i hd1
  obtain ⟨hL, hret⟩ := hret
  have d1 : _ = Data.cell (some (Value.int f t)) := hd1
  clear hd1
  have hne : l ≠ L' := fun e => by obtain ⟨o, ho, _⟩ := hL; exact absurd (Heap.lt_size ho) (e ▸ Nat.not_lt.mpr F'.above)
  k_extra "kd_adr"
  refine comp_ints (n := ns.length) (Bd := fun i m₂ => ∃ v, m₂ (Str.ofString "x") = some v ∧ vs.toArray[i]? = some v) (g := fun i => mulI (ns.getD i 0) f) (by assumption) (by assumption) (by rfl) (by decide) (by rfl) (by decide) (by rw [sizeLine_eq]; omega) ?elem ?src
  case elem =>
    intro s₁ i C oC m₂ rest E₁ hi hoC hBd F₁ N₁ hsub
    obtain ⟨v, hv, hit⟩ := hBd
    obtain ⟨t₁, rfl, hmem⟩ := ints_at hI hit
    have hO := ho _ hmem
    k_steps
    exact eltPost (by assumption) (by assumption) rfl subSelf
  case src =>
    k_steps
    refine src_list rfl rfl rfl (by assumption) (by assumption) (Fr.lst (by assumption) hL) hne (by rw [List.size_toArray, hI.length]) fun h₂ D vs' kk h₃ tk₃ F₃ N₃ lt₃ I₃ => ?_
    rw [range_getD ns (fun x => mulI x f)] at I₃
    k_steps
    exact hret _ _ _ _ _ (by assumption) (newsBack1 N F₃ (by assumption)) (neBack N N₃) I₃
end
end
section
open PySem.Calls PyProof.Rows.LCg PySem.W.KBw
section
variable {w : World} {mean : ExcName → Option Value} {mg mb : Str → Option Value} {p : Program} {loose : List Str}
theorem zipg_lists {n : Nat} {xs ys : List Int} (hx : xs.length = n) (hy : ys.length = n) : (List.range n).map (fun i => Builtin.bitXor (xs.getD i 0) (ys.getD i 0)) = List.zipWith Builtin.bitXor xs ys := by
  apply List.ext_getElem
  · simp [hx, hy]
  · intro i h1 h2
    simp at h1 h2
    simp [List.getD_eq_getElem?_getD, hx, hy, h1]
theorem plus_row_tells (news : CbLed) (l l' : Addr) (vs vs' : List Value) (ns ns' : List Int) (hI : IntsAre vs ns) (hI' : IntsAre vs' ns') (hl : ns.length ≤ 63) (hle : ns'.length = ns.length) :
    Tells w p loose mean mg mb 1 113 news [.ref l, .ref l'] (fun h₀ L m news s Q E fr => s.heap.IsList l vs.toArray ∧ s.heap.IsList l' vs'.toArray ∧ RetL (List.zipWith Builtin.bitXor ns ns') h₀ L m news s Q E fr) := by
  k_extra "tb_start"
  obtain ⟨hL, hL', hret⟩ := hret
  have hne : l ≠ L' := fun e => by obtain ⟨o, ho, _⟩ := hL; exact absurd (Heap.lt_size ho) (e ▸ Nat.not_lt.mpr F'.above)
  have hne' : l' ≠ L' := fun e => by obtain ⟨o, ho, _⟩ := hL'; exact absurd (Heap.lt_size ho) (e ▸ Nat.not_lt.mpr F'.above)
  k_extra "kd_adr"
  refine comp_ints (n := ns.length) (Bd := fun i m₂ => ∃ a b, m₂ (Str.ofString "x") = some a ∧ m₂ (Str.ofString "y") = some b ∧ ∃ c d, vs.toArray[i]? = some c ∧ vs'.toArray[i]? = some d ∧ (#[a, b] : Array Value) = #[c, d]) (g := fun i => Builtin.bitXor (ns.getD i 0) (ns'.getD i 0)) (by assumption) (by assumption) (by rfl) (by decide) (by rfl) (by decide) (by rw [sizeLine_eq]; omega) ?elem ?src
  case elem =>
    intro s₁ i C oC m₂ rest E₁ hi hoC hBd F₁ N₁ hsub
    obtain ⟨a', b', ha, hb, c, d, hc, hd, hab⟩ := hBd
    simp only [Array.mk.injEq, List.cons.injEq, and_true] at hab
    obtain ⟨rfl, rfl⟩ := hab
    obtain ⟨t₁, rfl, hmem⟩ := ints_at hI hc
    obtain ⟨t₂, rfl, hmem₂⟩ := ints_at hI' hd
    k_steps
    exact eltPost (by assumption) (by assumption) rfl subSelf
  case src =>
    k_extra "kd_adr"
    refine src_zipl rfl rfl rfl rfl (by decide) (by assumption) (by assumption) (Fr.lst (by assumption) hL) (Fr.lst (by assumption) hL') hne hne' (by rw [List.size_toArray, List.size_toArray, hI.length, hI'.length, hle]; omega) fun h₂ => ?_
    intro D vs₂ kk h₃ tk₃ F₃ N₃ lt₃ I₃
    rw [zipg_lists rfl hle] at I₃
    k_steps
    exact hret _ _ _ _ _ (by assumption) (newsBack1 N F₃ (by assumption)) (neBack N N₃) I₃
end
end
section
open PySem.Calls PyProof.Rows.LCg PySem.W.KBw
noncomputable abbrev RetBy (ks : List Int) : Ret := fun h₀ L m news s Q _ _ => ∀ (b : Array UInt8) (t : Tok) (h' : Heap) (tk' : Nat), KBw.bInts b = ks → Fr h₀ L h' m → News h₀ L h' news → Q (.bytes b t) { s with heap := h', toks := tk' }
theorem bints_at {b : Array UInt8} {ns : List Int} {i : Nat} {c : UInt8} (hb : KBw.bInts b = ns) (h : b[i]? = some c) : (c.toNat : Int) = ns.getD i 0 ∧ ns.getD i 0 ∈ ns ∧ Oct (ns.getD i 0) := by
  have g := KBw.ints_get h
  rw [hb] at g
  have e : ns.getD i 0 = (c.toNat : Int) := by rw [List.getD_eq_getElem?_getD, g]; rfl
  refine ⟨e.symm, e ▸ List.mem_of_getElem? g, ?_⟩
  rw [e]; exact KBw.ints_in (hb ▸ List.mem_of_getElem? g)
theorem in_octs {ns : List Int} (h : ∀ x ∈ ns, Oct x) : KBa.In ns := h
theorem octs_bints {b : Array UInt8} {ns : List Int} (h : KBw.bInts b = ns) : ∀ x ∈ ns, Oct x := fun x hx => KBw.ints_in (b := b) (h ▸ hx)
theorem octs_map {ns : List Int} {f : Int → Int} (h : ∀ x ∈ ns, Oct x) (hf : ∀ y, Oct y → Oct (f y)) : ∀ x ∈ ns.map f, Oct x := fun x hx => by
  obtain ⟨y, hy, rfl⟩ := List.mem_map.1 hx
  exact hf y (h y hy)
section
variable {w : World} {mean : ExcName → Option Value} {mg mb : Str → Option Value} {p : Program} {loose : List Str}
theorem dbl_big {x : Int} (h : 127 < x) : Builtin.bitXor (x * 2 ^ Int.toNat 1) 285 = dblI x := by unfold dblI; rw [if_pos h]; rfl
theorem dbl_small {x : Int} (h : ¬ 127 < x) : x * 2 ^ Int.toNat 1 = dblI x := by unfold dblI; rw [if_neg h]; rfl
theorem doubled_tells (news : CbLed) (b : Array UInt8) (t : CbTok) (ns : List Int) (hb : KBw.bInts b = ns) (hl : ns.length ≤ 63) :
    Tells w p loose mean mg mb 1 86 news [.bytes b t] (RetBy (ns.map dblI)) := by
  k_extra "tb_start"
  have hO := octs_bints hb
  have hIn : KBa.In (ns.map dblI) := in_octs (octs_map hO fun _ => oct_dbl)
  k_extra "kd_adr"
  refine comp_ints (n := ns.length) (Bd := fun i m₂ => ∃ v, m₂ (Str.ofString "x") = some v ∧ ∃ c u, b[i]? = some c ∧ v = .int (c.toNat : Int) u) (g := fun i => dblI (ns.getD i 0)) (by assumption) (by assumption) (by rfl) (by decide) (by rfl) (by decide) (by rw [sizeLine_eq]; omega) ?elem ?src
  case elem =>
    intro s₁ i C oC m₂ rest E₁ hi hoC hBd F₁ N₁ hsub
    obtain ⟨v, hv, c, u, hc, rfl⟩ := hBd
    obtain ⟨e1, _, e2⟩ := bints_at hb hc
    rw [e1] at hv
    dsimp only
    generalize ns.getD i 0 = x at *
    have hx0 := e2.1
    have hx1 := e2.2
    k_steps
    · exact eltPost (by assumption) (by assumption) (dbl_big (by assumption)) subSelf
    · exact eltPost (by assumption) (by assumption) (dbl_small (by assumption)) subSelf
  case src =>
    k_steps
    refine src_bytes rfl rfl rfl (by assumption) (by assumption) (by rw [← KBw.ints_length, hb]) fun h₂ => ?_
    intro D vs₂ kk h₃ tk₃ F₃ N₃ lt₃ I₃
    rw [range_getD ns dblI] at I₃
    k_steps
    exact hret _ _ _ _ (KBa.ints_make hIn) (by k_asm) (newsBack N (by assumption))
end
end
section
open PySem.Calls PyProof.Rows.LCg PySem.W.KBw
section
open PySem.Builtin
set_option maxRecDepth 100000
theorem bb_lk : typeLookup (.type "bytes") "__bytes__" = pure (some (.builtin "bytes.__bytes__")) := by rw [typeLookup_type, builtinLookup_eq_fast]; kernel_rfl
theorem bi_lk : typeLookup (.type "int") "__bytes__" = pure none := by rw [typeLookup_type, builtinLookup_eq_fast]; kernel_rfl
theorem bi_ix : typeLookup (.type "int") "__index__" = pure (some (.builtin "int.__index__")) := by rw [typeLookup_type, builtinLookup_eq_fast]; kernel_rfl
variable {prog : Program} {w : World} {A : Around} {E : Value → Shared → Prop} {s : Shared}
theorem bb_new {b : Array UInt8} {t : Tok} {Q : Value → Shared → Prop} (hQ : Q (.bytes b t) s) :
    codeAny (model prog w) A (.call (.builtin "bytes.__new__") ⟨[.type "bytes", .bytes b t], []⟩) (wants Q E) s := by
  refine codeAny_of_tree ?_
  show wpAny _ A.in1 (do checkBuiltinCall "bytes.__new__" ⟨[.type "bytes", .bytes b t], []⟩; again (.builtin "bytes.__new__" ⟨[.type "bytes", .bytes b t], []⟩)) _ _ s
  refine wpAny_bind (wpAny_of_eq (F.bm_newCall _) (wpAny_pure ⟨plainId_quiet F.bm_plain _, codeAny_builtin F.bm_entry ?_⟩))
  rw [Around.under_plainId F.bm_plain _]
  unfold Builtin.«bytes.__new__»
  refine wpAny_bind (wpAny_of_eq (a := true) rfl ?_)
  refine bm_if_false rfl ?_
  refine wpAny_bind (wpAny_of_eq F.bm_sub ?_)
  refine bm_if_false rfl ?_
  refine wpAny_bind (wpAny_of_eq (F.bm_bind _) ?_)
  refine wpAny_bind (wpAny_of_eq (a := ()) rfl ?_)
  refine wpAny_bind (wpAny_of_eq (a := ()) rfl ?_)
  refine bm_if_false rfl ?_
  refine wpAny_bind (wpAny_of_eq (KBy.special_eq bb_lk) ?_)
  refine wpAny_bind (wpAny_rule ?_)
  refine wpAny_bind (wpAny_typeOf (PySem.W.typeIs_bytes _ b t) ?_)
  refine bm_if_true (by decide) ?_
  show wpAny _ _ (if (Value.type "bytes" == Value.type "bytes") = true then _ else _) _ _ _
  refine bm_if_true (by decide) ?_
  first
    | exact wpAny_pure hQ
    | exact wpAny_bind (wpAny_pure (wpAny_pure hQ))
theorem call_bytes_bytes {b : Array UInt8} {t : Tok} {Q : Value → Shared → Prop} (hQ : Q (.bytes b t) s) : wpAny (model prog w) A (call (.type "bytes") [.bytes b t]) Q E s := by
  refine callType_codes (Q₁ := fun obj s₁ => s₁.TypeIs obj "bytes" ∧ Q obj s₁) F.bm_called (F.bm_typeCall _) F.entry_object_init
    (bb_new ⟨PySem.W.typeIs_bytes _ _ _, hQ⟩) fun obj s₁ h₁ => ?_
  exact ⟨h₁.1, F.args_object_init_2 obj _, object_init_meets F.bm_called.init.lookup F.bm_called.made (by decide) prog w A.in1 _ s₁ ⟨h₁.1, rfl, h₁.2⟩⟩
theorem bi_new {n : Int} {t : Tok} {Q : Value → Shared → Prop} (h0 : 0 ≤ n) (h1 : n ≤ 16777216) (hQ : ∀ t' k, Q (.bytes (Array.replicate n.toNat 0) t') { s with toks := k }) :
    codeAny (model prog w) A (.call (.builtin "bytes.__new__") ⟨[.type "bytes", .int n t], []⟩) (wants Q E) s := by
  refine codeAny_of_tree ?_
  show wpAny _ A.in1 (do checkBuiltinCall "bytes.__new__" ⟨[.type "bytes", .int n t], []⟩; again (.builtin "bytes.__new__" ⟨[.type "bytes", .int n t], []⟩)) _ _ s
  refine wpAny_bind (wpAny_of_eq (F.bm_newCall _) (wpAny_pure ⟨plainId_quiet F.bm_plain _, codeAny_builtin F.bm_entry ?_⟩))
  rw [Around.under_plainId F.bm_plain _]
  have hT : s.TypeIs (.int n t) "int" := rfl
  unfold Builtin.«bytes.__new__»
  refine wpAny_bind (wpAny_of_eq (a := true) rfl ?_)
  refine bm_if_false rfl ?_
  refine wpAny_bind (wpAny_of_eq F.bm_sub ?_)
  refine bm_if_false rfl ?_
  refine wpAny_bind (wpAny_of_eq (F.bm_bind _) ?_)
  refine wpAny_bind (wpAny_of_eq (a := ()) rfl ?_)
  refine wpAny_bind (wpAny_of_eq (a := ()) rfl ?_)
  refine bm_if_false rfl ?_
  refine wpAny_bind (wpAny_specialOf hT bi_lk ?_)
  refine wpAny_bind (wpAny_of_eq (a := false) rfl ?_)
  refine bm_if_false rfl ?_
  refine wpAny_bind (wpAny_specialOf hT bi_ix ?_)
  refine bm_if_false rfl ?_
  refine wpAny_bind (wpAny_attempt (wpAny_of_eq (rfl : asIndex (.int n t) = pure n) ?_))
  dsimp only
  refine bm_if_false (by simp only [Bytes.fitsIndex, Bool.not_eq_false', Bool.and_eq_true, decide_eq_true_eq]; omega) ?_
  refine wpAny_ite (KBy.ite_no (show ¬ (n < 0) by omega) ?_)
  refine wpAny_ite (KBy.ite_no (show ¬ (n > 2 ^ 63 - 34) by omega) ?_)
  refine bm_if_false (KBy.tooLong_not (by omega)) ?_
  refine wpAny_bind (wpAny_rule ?_)
  refine wpAny_bind (wpAny_mkBytes ?_ (by rw [Array.size_replicate, sizeLine_eq]; omega))
  show wpAny _ _ (if (Value.type "bytes" == Value.type "bytes") = true then _ else _) _ _ _
  refine bm_if_true (by decide) ?_
  first
    | exact wpAny_pure (hQ _ _)
    | exact wpAny_bind (wpAny_pure (wpAny_pure (hQ _ _)))
theorem call_bytes_int {n : Int} {t : Tok} {Q : Value → Shared → Prop} (h0 : 0 ≤ n) (h1 : n ≤ 16777216) (hQ : ∀ t' k, Q (.bytes (Array.replicate n.toNat 0) t') { s with toks := k }) : wpAny (model prog w) A (call (.type "bytes") [.int n t]) Q E s := by
  refine callType_codes (Q₁ := fun obj s₁ => s₁.TypeIs obj "bytes" ∧ Q obj s₁) F.bm_called (F.bm_typeCall _) F.entry_object_init
    (bi_new h0 h1 fun t' k => ⟨PySem.W.typeIs_bytes _ _ _, hQ t' k⟩) fun obj s₁ h₁ => ?_
  exact ⟨h₁.1, F.args_object_init_2 obj _, object_init_meets F.bm_called.init.lookup F.bm_called.made (by decide) prog w A.in1 _ s₁ ⟨h₁.1, rfl, h₁.2⟩⟩
theorem bints_zeros (n : Nat) : KBw.bInts (Array.replicate n 0) = List.replicate n 0 := by
  unfold KBw.bInts; simp
theorem call_bytes_intK {n : Int} {t : Tok} {Q : Value → Shared → Prop} (h0 : 0 ≤ n) (h1 : n ≤ 16777216) (hQ : ∀ b t' k, KBw.bInts b = List.replicate n.toNat 0 → Q (.bytes b t') { s with toks := k }) : wpAny (model prog w) A (call (.type "bytes") [.int n t]) Q E s :=
  call_bytes_int h0 h1 fun t' k => hQ _ t' k (bints_zeros _)
end
end
section
open PySem.Calls PyProof.Rows.LCg PySem.W.KBw
noncomputable def sumL (xs ys : List Int) : List Int := List.zipWith Builtin.bitXor xs ys ++ xs.drop ys.length
noncomputable def addL (xs ys : List Int) : List Int := if xs.length < ys.length then sumL ys xs else sumL xs ys
theorem zipg_le {n : Nat} {xs ys : List Int} (h : min xs.length ys.length = n) : (List.range n).map (fun i => Builtin.bitXor (xs.getD i 0) (ys.getD i 0)) = List.zipWith Builtin.bitXor xs ys := by
  apply List.ext_getElem
  · simp [h]
  · intro i h1 h2
    simp at h1 h2
    have h3 : i < xs.length := by omega
    have h4 : i < ys.length := by omega
    simp [List.getD_eq_getElem?_getD, h3, h4]
theorem octs_zip {xs ys : List Int} (hx : ∀ x ∈ xs, Oct x) (hy : ∀ y ∈ ys, Oct y) : ∀ z ∈ List.zipWith Builtin.bitXor xs ys, Oct z := by
  induction xs generalizing ys with
  | nil => intro z hz; simp at hz
  | cons a r ih =>
    cases ys with
    | nil => intro z hz; simp at hz
    | cons b q =>
      intro z hz
      simp only [List.zipWith_cons_cons, List.mem_cons] at hz
      rcases hz with rfl | hz
      · exact oct_xor (hx _ (.head _)) (hy _ (.head _))
      · exact ih (fun x h => hx x (.tail _ h)) (fun y h => hy y (.tail _ h)) z hz
theorem octs_sumL {xs ys : List Int} (hx : ∀ x ∈ xs, Oct x) (hy : ∀ y ∈ ys, Oct y) : ∀ z ∈ sumL xs ys, Oct z := fun z hz => by
  rcases List.mem_append.1 hz with h | h
  · exact octs_zip hx hy z h
  · exact hx z (List.mem_of_mem_drop h)
theorem octs_addL {xs ys : List Int} (hx : ∀ x ∈ xs, Oct x) (hy : ∀ y ∈ ys, Oct y) : ∀ z ∈ addL xs ys, Oct z := by
  unfold addL; split
  · exact octs_sumL hy hx
  · exact octs_sumL hx hy
theorem length_sumL {xs ys : List Int} (h : ys.length ≤ xs.length) : (sumL xs ys).length = xs.length := by unfold sumL; simp; omega
theorem length_addL (xs ys : List Int) : (addL xs ys).length = max xs.length ys.length := by
  unfold addL; split
  · rw [length_sumL (by omega)]; omega
  · rw [length_sumL (by omega)]; omega
theorem added_tail {xs ys : List Int} (h : ys.length ≤ xs.length) : List.zipWith Builtin.bitXor xs ys ++ List.take (xs.length - min ys.length xs.length) (List.drop (min ys.length xs.length) xs) = sumL xs ys := by
  unfold sumL
  rw [Nat.min_eq_left h, List.take_of_length_le (by simp)]
theorem added_end1 {xs ys : List Int} {b : Array UInt8} (h : (xs.length : Int) < ys.length) (e : KBw.bInts b = List.zipWith Builtin.bitXor ys xs ++ List.take (ys.length - min xs.length ys.length) (List.drop (min xs.length ys.length) ys)) : KBw.bInts b = addL xs ys := by
  rw [e, added_tail (by omega)]; unfold addL; rw [if_pos (by omega)]
theorem added_end2 {xs ys : List Int} {b : Array UInt8} (h : ¬ (xs.length : Int) < ys.length) (e : KBw.bInts b = List.zipWith Builtin.bitXor xs ys ++ List.take (xs.length - min ys.length xs.length) (List.drop (min ys.length xs.length) xs)) : KBw.bInts b = addL xs ys := by
  rw [e, added_tail (by omega)]; unfold addL; rw [if_neg (by omega)]
section
variable {w : World} {mean : ExcName → Option Value} {mg mb : Str → Option Value} {p : Program} {loose : List Str}
theorem added_tells (news : CbLed) (b b' : Array UInt8) (t t' : CbTok) (ns ns' : List Int) (hb : KBw.bInts b = ns) (hb' : KBw.bInts b' = ns') (hl : ns.length ≤ 63) (hl' : ns'.length ≤ 63) :
    Tells w p loose mean mg mb 1 91 news [.bytes b t, .bytes b' t'] (RetBy (addL ns ns')) := by
  k_extra "tb_start"
  have hO := octs_bints hb
  have hO' := octs_bints hb'
  k_extra "kd_adr"
  · have hIn : KBa.In (List.zipWith Builtin.bitXor ns' ns) := in_octs (octs_zip hO' hO)
    have hIn2 : KBa.In (ns'.drop ns.length) := in_octs fun z hz => hO' z (List.mem_of_mem_drop hz)
    have hLn1 : (List.zipWith Builtin.bitXor ns' ns).length ≤ 63 := by rw [List.length_zipWith]; omega
    have hLn2 : (ns'.drop ns.length).length ≤ 63 := by rw [List.length_drop]; omega
    refine comp_ints (n := min ns'.length ns.length) (Bd := fun i m₂ => ∃ av bv, m₂ (Str.ofString "x") = some av ∧ m₂ (Str.ofString "y") = some bv ∧ ∃ c d t u, b'[i]? = some c ∧ b[i]? = some d ∧ (#[av, bv] : Array Value) = #[.int (c.toNat : Int) t, .int (d.toNat : Int) u]) (g := fun i => Builtin.bitXor (ns'.getD i 0) (ns.getD i 0)) (by assumption) (by assumption) (by rfl) (by decide) (by rfl) (by decide) (by rw [sizeLine_eq]; omega) ?elem ?src
    case elem =>
      intro s₁ i C oC m₂ rest E₁ hi hoC hBd F₁ N₁ hsub
      obtain ⟨av, bv, ha, hbv, c, d, tc, td, hc, hd, hab⟩ := hBd
      simp only [Array.mk.injEq, List.cons.injEq, and_true] at hab
      obtain ⟨rfl, rfl⟩ := hab
      obtain ⟨e1, _, e2⟩ := bints_at hb' hc
      obtain ⟨e3, _, e4⟩ := bints_at hb hd
      rw [e1] at ha
      rw [e3] at hbv
      k_steps
      exact eltPost (by assumption) (by assumption) rfl subSelf
    case src =>
      k_extra "kd_adr"
      refine src_zipb rfl rfl rfl rfl (by decide) (by assumption) (by assumption) (by rw [← KBw.ints_length, ← KBw.ints_length, hb', hb]) fun h₂ => ?_
      intro D vs₂ kk h₃ tk₃ F₃ N₃ lt₃ I₃
      rw [zipg_le rfl] at I₃
      k_steps
      all_goals (refine hret _ _ _ _ ?_ (by k_asm) (newsBack N (by assumption)))
      all_goals first | exact added_end1 (by assumption) (by assumption) | fail "open"
  · have hIn : KBa.In (List.zipWith Builtin.bitXor ns ns') := in_octs (octs_zip hO hO')
    have hIn2 : KBa.In (ns.drop ns'.length) := in_octs fun z hz => hO z (List.mem_of_mem_drop hz)
    have hLn1 : (List.zipWith Builtin.bitXor ns ns').length ≤ 63 := by rw [List.length_zipWith]; omega
    have hLn2 : (ns.drop ns'.length).length ≤ 63 := by rw [List.length_drop]; omega
    refine comp_ints (n := min ns.length ns'.length) (Bd := fun i m₂ => ∃ av bv, m₂ (Str.ofString "x") = some av ∧ m₂ (Str.ofString "y") = some bv ∧ ∃ c d t u, b[i]? = some c ∧ b'[i]? = some d ∧ (#[av, bv] : Array Value) = #[.int (c.toNat : Int) t, .int (d.toNat : Int) u]) (g := fun i => Builtin.bitXor (ns.getD i 0) (ns'.getD i 0)) (by assumption) (by assumption) (by rfl) (by decide) (by rfl) (by decide) (by rw [sizeLine_eq]; omega) ?elem ?src
    case elem =>
      intro s₁ i C oC m₂ rest E₁ hi hoC hBd F₁ N₁ hsub
      obtain ⟨av, bv, ha, hbv, c, d, tc, td, hc, hd, hab⟩ := hBd
      simp only [Array.mk.injEq, List.cons.injEq, and_true] at hab
      obtain ⟨rfl, rfl⟩ := hab
      obtain ⟨e1, _, e2⟩ := bints_at hb hc
      obtain ⟨e3, _, e4⟩ := bints_at hb' hd
      rw [e1] at ha
      rw [e3] at hbv
      k_steps
      exact eltPost (by assumption) (by assumption) rfl subSelf
    case src =>
      k_extra "kd_adr"
      refine src_zipb rfl rfl rfl rfl (by decide) (by assumption) (by assumption) (by rw [← KBw.ints_length, ← KBw.ints_length, hb, hb']) fun h₂ => ?_
      intro D vs₂ kk h₃ tk₃ F₃ N₃ lt₃ I₃
      rw [zipg_le rfl] at I₃
      k_steps
      all_goals (refine hret _ _ _ _ ?_ (by k_asm) (newsBack N (by assumption)))
      all_goals first | exact added_end2 (by assumption) (by assumption) | fail "open"
end
end
section
open PySem.Calls PyProof.Rows.LCg PySem.W.KBw
noncomputable def ScInv (ns : List Int) (f0 : Int) (F O : List Int) (y : Int) : Prop := F.length = ns.length ∧ O.length = ns.length ∧ Oct y ∧ ∀ i, i < ns.length → MulInv (ns.getD i 0) f0 (F.getD i 0) (O.getD i 0) y
theorem ScInv.lf {ns F O : List Int} {f0 y : Int} (h : ScInv ns f0 F O y) (hn : ns.length ≤ 63) : F.length ≤ 63 := by rw [h.1]; exact hn
theorem ScInv.lo {ns F O : List Int} {f0 y : Int} (h : ScInv ns f0 F O y) (hn : ns.length ≤ 63) : O.length ≤ 63 := by rw [h.2.1]; exact hn
theorem getD_add {F O : List Int} {i : Nat} (h : O.length = F.length) (hi : i < F.length) : (addL F O).getD i 0 = Builtin.bitXor (F.getD i 0) (O.getD i 0) := by
  unfold addL sumL
  rw [if_neg (by omega), h, List.drop_length, List.append_nil]
  simp [List.getD_eq_getElem?_getD, hi, h]
theorem getD_map {O : List Int} {f : Int → Int} {i : Nat} (hi : i < O.length) : (O.map f).getD i 0 = f (O.getD i 0) := by
  simp [List.getD_eq_getElem?_getD, hi]
theorem sc_start {ns : List Int} {f0 : Int} {b o : Array UInt8} (hO : ∀ x ∈ ns, Oct x) (hf : Oct f0) (hb : KBw.bInts b = List.replicate (ns.length : Int).toNat 0) (ho : KBw.bInts o = ns) : ScInv ns f0 (KBw.bInts b) (KBw.bInts o) f0 := by
  rw [Int.toNat_natCast] at hb
  rw [hb, ho]
  refine ⟨by rw [List.length_replicate], rfl, hf, fun i hi => ?_⟩
  have e : (List.replicate ns.length (0 : Int)).getD i 0 = 0 := by simp [List.getD_eq_getElem?_getD, hi]
  rw [e]
  refine mul_start (hO _ ?_) hf
  rw [List.getD_eq_getElem?_getD, List.getElem?_eq_getElem hi]; exact List.getElem_mem hi
theorem sc_turn1 {ns F O : List Int} {f0 y : Int} {b o : Array UInt8} (I : ScInv ns f0 F O y) (hb : Builtin.bitAnd y 1 = 1) (e1 : KBw.bInts b = addL F O) (e2 : KBw.bInts o = O.map dblI) : ScInv ns f0 (KBw.bInts b) (KBw.bInts o) (y.fdiv (2 ^ Int.toNat 1)) := by
  obtain ⟨h1, h2, h3, h4⟩ := I
  rw [e1, e2]
  refine ⟨by rw [length_addL]; omega, by rw [List.length_map, h2], oct_half h3, fun i hi => ?_⟩
  rw [getD_add (by omega) (by omega), getD_map (by omega)]
  exact mul_turn1 (h4 i hi) hb
theorem sc_turn0 {ns F O : List Int} {f0 y : Int} {o : Array UInt8} (I : ScInv ns f0 F O y) (hb : ¬ Builtin.bitAnd y 1 = 1) (e2 : KBw.bInts o = O.map dblI) : ScInv ns f0 F (KBw.bInts o) (y.fdiv (2 ^ Int.toNat 1)) := by
  obtain ⟨h1, h2, h3, h4⟩ := I
  rw [e2]
  refine ⟨h1, by rw [List.length_map, h2], oct_half h3, fun i hi => ?_⟩
  rw [getD_map (by omega)]
  exact mul_turn0 (h4 i hi) hb
theorem sc_end {ns F O : List Int} {f0 y : Int} (I : ScInv ns f0 F O y) (h : ¬ 0 < y) : F = ns.map fun x => mulI x f0 := by
  obtain ⟨h1, h2, h3, h4⟩ := I
  apply List.ext_getElem
  · rw [List.length_map, h1]
  · intro i hi1 hi2
    have := mul_end (h4 i (by omega)) h
    rw [List.getElem_map]
    rw [List.getD_eq_getElem?_getD, List.getElem?_eq_getElem hi1, List.getD_eq_getElem?_getD, List.getElem?_eq_getElem (by omega)] at this
    exact this
section
variable {w : World} {mean : ExcName → Option Value} {mg mb : Str → Option Value} {p : Program} {loose : List Str}
theorem scaled_tells (news : CbLed) (b : Array UInt8) (t u : CbTok) (ns : List Int) (f : Int) (hb : KBw.bInts b = ns) (hl : ns.length ≤ 63) (hf : Oct f) :
    Tells w p loose mean mg mb 3 98 news [.bytes b t, .int f u] (RetBy (ns.map fun x => mulI x f)) := by
  k_extra "tb_start"
  have hO := octs_bints hb
  have hf0 := hf.1
  k_with "state" => first
    | exact sc_start hO hf (by with_reducible assumption) hb
    | exact sc_turn1 (by with_reducible assumption) (by with_reducible assumption) (by with_reducible assumption) (by with_reducible assumption)
    | exact sc_turn0 (by with_reducible assumption) (by with_reducible assumption) (by with_reducible assumption)
  k_with "exec While Compare cons nil" => k_while (fun _ F o y => ScInv ns f (KBw.bInts F) (KBw.bInts o) y) (fun _ F o y => y.toNat) "found" "octets" "factor"
  k_with "measure" => exact half_lt (by with_reducible assumption)
  k_steps
  all_goals first | (refine hret _ _ _ _ ?_ (by k_asm) (newsBack N (by assumption)); exact sc_end (by assumption) (by assumption)) | fail "open"
end
end
section
open PySem.Calls PyProof.Rows.LCg PySem.W.KBw
noncomputable def rowI (ns : List Int) (i : Int) : List Int := (List.range ((digI ns i).fmod 10).toNat).map fun (k : Nat) => elemI ((digI ns (i + 1)).fdiv (7 ^ k) + 31 * (k : Int))
noncomputable def PwOk (x : Int) : Prop := x ≠ 0 ∧ x.natAbs < 1073741824
theorem PwOk.ne {x : Int} (h : PwOk x) : x ≠ 0 := h.1
theorem PwOk.lt {x : Int} (h : PwOk x) : x.natAbs < 1073741824 := h.2
theorem pw7 {k : Nat} (h : k < 10) : PwOk ((7 : Int) ^ (k : Int).toNat) := by
  rw [Int.toNat_natCast]
  have : ∀ k : Fin 10, (7 : Int) ^ k.val ≠ 0 ∧ ((7 : Int) ^ k.val).natAbs < 1073741824 := by decide
  exact this ⟨k, h⟩
theorem octs_rowI (ns : List Int) (i : Int) : ∀ x ∈ rowI ns i, Oct x := fun x hx => by
  obtain ⟨k, _, rfl⟩ := List.mem_map.1 hx
  exact oct_elemI _
theorem fmod10 (x : Int) : 0 ≤ x.fmod 10 ∧ x.fmod 10 < 10 := by rw [Int.fmod_eq_emod_of_nonneg _ (by decide)]; omega
theorem length_rowI (ns : List Int) (i : Int) : (rowI ns i).length < 10 := by
  unfold rowI; rw [List.length_map, List.length_range]; have := fmod10 (digI ns i); omega
section
variable {w : World} {mean : ExcName → Option Value} {mg mb : Str → Option Value} {p : Program} {loose : List Str}
theorem lrow_tells (news : CbLed) (l : Addr) (vs : List Value) (ns : List Int) (i : Int) (t : CbTok) (hI : IntsAre vs ns) (hl : ns.length ≤ 63) (hi : 0 ≤ i ∧ i < 63) :
    Tells w p loose mean mg mb 2 146 news [.ref l, .int i t] (fun h₀ L m news s Q E fr => s.heap.IsList l vs.toArray ∧ RetBy (rowI ns i) h₀ L m news s Q E fr) := by
  k_extra "kt_ors"
  rename_i hd1 hd2
  have d1 : _ = Data.cell (some (Value.int i t)) := hd1
  have d2 : _ = Data.cell (some (Value.ref l)) := hd2
  clear hd1 hd2
  obtain ⟨hL, hret⟩ := hret
  have hi0 := hi.1
  have hi1 := hi.2
  have hIn : KBa.In (rowI ns i) := in_octs (octs_rowI ns i)
  have hLn : (rowI ns i).length < 10 := length_rowI ns i
  have hfm := fmod10 (digI ns i)
  k_extra "kd_adr"
  refine comp_ints (n := ((digI ns i).fmod 10).toNat) (Bd := fun k m₂ => ∃ v, m₂ (Str.ofString "k") = some v ∧ ∃ t, v = .int (0 + (k : Int)) t) (g := fun (k : Nat) => elemI ((digI ns (i + 1)).fdiv (7 ^ k) + 31 * (k : Int))) (by assumption) (by assumption) (by rfl) (by decide) (by rfl) (by decide) (by rw [sizeLine_eq]; omega) ?elem ?src
  case elem =>
    intro s₁ k C oC m₂ rest E₁ hk' hoC hBd F₁ N₁ hsub
    obtain ⟨v, hv, t₁, rfl⟩ := hBd
    rw [Int.zero_add] at hv
    have hpw := pw7 (k := k) (by omega)
    have hLf := Fr.lst F₁ hL
    k_steps
    exact eltPost (by assumption) (by assumption) (by rw [Int.toNat_natCast]) subSelf
  case src =>
    k_steps
    refine src_range rfl rfl rfl (by assumption) (by assumption) (by assumption) (small_one (by omega) (by omega) (by omega) (by omega)) (by rw [rangeSize_nat, Int.sub_zero]) fun h₂ => ?_
    intro D vs₂ kk h₃ tk₃ F₃ N₃ lt₃ I₃
    have I₄ : IntsAre vs₂ (rowI ns i) := I₃
    k_steps
    exact hret _ _ _ _ (KBa.ints_make hIn) (by k_asm) (newsBack N (by assumption))
end
end
section
open PySem.Calls PyProof.Rows.LCg PySem.W.KBw
section
variable {prog : Program} {w : World} {A : Around} {E : Value → Shared → Prop} {s : Shared} {h₀ : Heap} {L : Addr} {m : Str → Option Value} {env : Env}
theorem casg_mono {scope : Scope} {cl : List (Str × Addr)} {target : Expr} {n : Nat} {P : Nat → Value → Heap → Prop} {Bd Bd' : Nat → (Str → Option Value) → Prop} (C : CAsg prog w A env scope cl target n P Bd) (hB : ∀ i m₂, i < n → Bd i m₂ → Bd' i m₂) : CAsg prog w A env scope cl target n P Bd' :=
  fun i v C' m' s' Q E' hi hp hn hQ => C i v C' m' s' Q E' hi hp hn fun h' tk m₂ hn₂ hb hk => hQ h' tk m₂ hn₂ (hB i m₂ hi hb) hk
theorem csrc_mono {scope : Scope} {cl : List (Str × Addr)} {target : Expr} {n : Nat} {Bd Bd' : Nat → (Str → Option Value) → Prop} {news : List (Addr × Obj)} {it : Value} {s₂ : Shared} (C : CSrc prog w A h₀ L m env scope cl target n Bd news it s₂) (hB : ∀ i m₂, i < n → Bd i m₂ → Bd' i m₂) : CSrc prog w A h₀ L m env scope cl target n Bd' news it s₂ := by
  obtain ⟨I, fp, wr, P, Md, St, c1, c2, c3, c4, c5⟩ := C
  exact ⟨I, fp, wr, P, Md, St, c1, c2, c3, casg_mono c4 hB, c5⟩
theorem src_zipbI {x y : Str} {px py tp : Pos} {tk : Nat} {scope : Scope} {cl : List (Str × Addr)} {news : List (Addr × Obj)} {b1 b2 : Array UInt8} {t1 t2 : Tok} {R1 R2 : List Int} {E E' : Value → Shared → Prop} {R : Shared → Prop} {n : Nat} {s₁ : Shared}
    (hh : A.handled = none) (hkind : scope.kind = .function) (hx : scope.names.lookup x = some .local) (hy : scope.names.lookup y = some .local) (hxy : x ≠ y) (F : Fr h₀ L s₁.heap m) (N : News h₀ L s₁.heap news) (hb1 : KBw.bInts b1 = R1) (hb2 : KBw.bInts b2 = R2) (hsz : min R1.length R2.length = n)
    (k : ∀ h, R { s₁ with heap := h }) :
    wpAny (model prog w) A (call (.type "zip") [.bytes b1 t1, .bytes b2 t2]) (fun xv s₂ => wpAny (model prog w) A (pyIter xv) (fun it s₂ => CSrc prog w A h₀ L m env scope cl (.Tuple [.Name x px, .Name y py] tk tp) n
      (fun i m₂ => ∃ t u, m₂ x = some (.int (R1.getD i 0) t) ∧ m₂ y = some (.int (R2.getD i 0) u)) news it s₂ ∧ R s₂) E' s₂) E s₁ := by
  refine wpAny_mono (src_zipb (E' := E') (cl := cl) (px := px) (py := py) (tp := tp) (tk := tk) (env := env) hh hkind hx hy hxy F N (n := n) (by rw [← hsz, ← hb1, ← hb2, KBw.ints_length, KBw.ints_length]) k) (fun xv s₂ h₂ => wpAny_mono h₂ (fun it s₃ h₃ => ⟨csrc_mono h₃.1 fun i m₂ hi hb => ?_, h₃.2⟩) fun _ _ e => e) fun _ _ e => e
  obtain ⟨a, b, ha, hb', c, d, tc, td, hc, hd, hab⟩ := hb
  simp only [Array.mk.injEq, List.cons.injEq, and_true] at hab
  obtain ⟨rfl, rfl⟩ := hab
  rw [(bints_at hb1 hc).1] at ha
  rw [(bints_at hb2 hd).1] at hb'
  exact ⟨tc, td, ha, hb'⟩
theorem src_bytesI {x : Str} {px : Pos} {scope : Scope} {cl : List (Str × Addr)} {news : List (Addr × Obj)} {b : Array UInt8} {t : Tok} {R1 : List Int} {E' : Value → Shared → Prop} {R : Shared → Prop} {n : Nat} {s₁ : Shared}
    (hh : A.handled = none) (hkind : scope.kind = .function) (hx : scope.names.lookup x = some .local) (F : Fr h₀ L s₁.heap m) (N : News h₀ L s₁.heap news) (hb : KBw.bInts b = R1) (hsz : R1.length = n)
    (k : ∀ h, R { s₁ with heap := h }) :
    wpAny (model prog w) A (pyIter (.bytes b t)) (fun it s₂ => CSrc prog w A h₀ L m env scope cl (.Name x px) n (fun i m₂ => ∃ t, m₂ x = some (.int (R1.getD i 0) t)) news it s₂ ∧ R s₂) E' s₁ := by
  refine wpAny_mono (src_bytes (cl := cl) (px := px) (env := env) hh hkind hx F N (n := n) (by rw [← hsz, ← hb, KBw.ints_length]) k) (fun it s₃ h₃ => ⟨csrc_mono h₃.1 fun i m₂ hi hb' => ?_, h₃.2⟩) fun _ _ e => e
  obtain ⟨v, hv, c, u, hc, rfl⟩ := hb'
  rw [(bints_at hb hc).1] at hv
  exact ⟨u, hv⟩
theorem src_listI {x : Str} {px : Pos} {scope : Scope} {cl : List (Str × Addr)} {news : List (Addr × Obj)} {ax : Addr} {vs : List Value} {ns : List Int} {E' : Value → Shared → Prop} {R : Shared → Prop} {n : Nat} {s₁ : Shared}
    (hh : A.handled = none) (hkind : scope.kind = .function) (hx : scope.names.lookup x = some .local) (F : Fr h₀ L s₁.heap m) (N : News h₀ L s₁.heap news) (hl : s₁.heap.IsList ax vs.toArray) (hne : ax ≠ L) (hI : IntsAre vs ns) (hsz : ns.length = n)
    (k : ∀ h, R { s₁ with heap := h }) :
    wpAny (model prog w) A (pyIter (.ref ax)) (fun it s₂ => CSrc prog w A h₀ L m env scope cl (.Name x px) n (fun i m₂ => ∃ t, m₂ x = some (.int (ns.getD i 0) t)) news it s₂ ∧ R s₂) E' s₁ := by
  refine wpAny_mono (src_list (cl := cl) (px := px) (env := env) hh hkind hx F N hl hne (n := n) (by rw [List.size_toArray, hI.length, hsz]) k) (fun it s₃ h₃ => ⟨csrc_mono h₃.1 fun i m₂ hi hb' => ?_, h₃.2⟩) fun _ _ e => e
  obtain ⟨v, hv, hi'⟩ := hb'
  obtain ⟨t, rfl, _⟩ := ints_at hI hi'
  exact ⟨t, hv⟩
theorem src_ziplI {x y : Str} {px py tp : Pos} {tk : Nat} {scope : Scope} {cl : List (Str × Addr)} {news : List (Addr × Obj)} {l1 l2 : Addr} {xs ys : List Value} {R1 R2 : List Int} {E E' : Value → Shared → Prop} {R : Shared → Prop} {n : Nat} {s₁ : Shared}
    (hh : A.handled = none) (hkind : scope.kind = .function) (hx : scope.names.lookup x = some .local) (hy : scope.names.lookup y = some .local) (hxy : x ≠ y) (F : Fr h₀ L s₁.heap m) (N : News h₀ L s₁.heap news)
    (hl1 : s₁.heap.IsList l1 xs.toArray) (hl2 : s₁.heap.IsList l2 ys.toArray) (hn1 : l1 ≠ L) (hn2 : l2 ≠ L) (hI1 : IntsAre xs R1) (hI2 : IntsAre ys R2) (hsz : min R1.length R2.length = n)
    (k : ∀ h, R { s₁ with heap := h }) :
    wpAny (model prog w) A (call (.type "zip") [.ref l1, .ref l2]) (fun xv s₂ => wpAny (model prog w) A (pyIter xv) (fun it s₂ => CSrc prog w A h₀ L m env scope cl (.Tuple [.Name x px, .Name y py] tk tp) n
      (fun i m₂ => ∃ t u, m₂ x = some (.int (R1.getD i 0) t) ∧ m₂ y = some (.int (R2.getD i 0) u)) news it s₂ ∧ R s₂) E' s₂) E s₁ := by
  refine wpAny_mono (src_zipl (E' := E') (cl := cl) (px := px) (py := py) (tp := tp) (tk := tk) (env := env) hh hkind hx hy hxy F N hl1 hl2 hn1 hn2 (n := n) (by rw [List.size_toArray, List.size_toArray, hI1.length, hI2.length, hsz]) k) (fun xv s₂ h₂ => wpAny_mono h₂ (fun it s₃ h₃ => ⟨csrc_mono h₃.1 fun i m₂ hi hb => ?_, h₃.2⟩) fun _ _ e => e) fun _ _ e => e
  obtain ⟨a, b, ha, hb', c, d, hc, hd, hab⟩ := hb
  simp only [Array.mk.injEq, List.cons.injEq, and_true] at hab
  obtain ⟨rfl, rfl⟩ := hab
  obtain ⟨t, rfl, _⟩ := ints_at hI1 hc
  obtain ⟨u, rfl, _⟩ := ints_at hI2 hd
  exact ⟨t, u, ha, hb'⟩
end
end
section
open PySem.Calls PyProof.Rows.LCg PySem.W.KBw
theorem bints_inj {b c : Array UInt8} (h : KBw.bInts b = KBw.bInts c) : b = c := by
  apply Array.toList_inj.mp
  unfold KBw.bInts at h
  refine List.map_inj_right (f := fun c : UInt8 => (c.toNat : Int)) (fun x y e => ?_) |>.mp h
  exact UInt8.toNat_inj.mp (by exact_mod_cast e)
section
variable {prog : Program} {w : World} {A : Around} {E : Value → Shared → Prop} {s : Shared} {Q : Value → Shared → Prop} {b c b1 b2 c1 c2 : Array UInt8} {t u t1 t2 u1 u2 : Tok} {k1 k2 k3 ks : List Int}
theorem ne_bytes_same (hb : KBw.bInts b = ks) (hc : KBw.bInts c = ks) (h : Q (.bool false) s) : wpAny (model prog w) A (compareOp .NotEq (.bytes b t) (.bytes c u)) Q E s := by
  obtain rfl : b = c := bints_inj (hb.trans hc.symm)
  exact ne_bytes (by simpa using h)
theorem eq_bytes_same (hb : KBw.bInts b = ks) (hc : KBw.bInts c = ks) (h : Q (.bool true) s) : wpAny (model prog w) A (compareOp .Eq (.bytes b t) (.bytes c u)) Q E s := by
  obtain rfl : b = c := bints_inj (hb.trans hc.symm)
  exact eq_bytes (by simpa using h)
theorem ne_pair_bytes {h₀ : Heap} {L l r : Addr} {news : List (Addr × Obj)} {n n' : Nat} (N : News h₀ L s.heap news) (hl : (l, listOf #[.bytes b1 t1, .bytes b2 t2] n) ∈ news) (hr : (r, listOf #[.bytes c1 u1, .bytes c2 u2] n') ∈ news)
    (h1 : KBw.bInts b1 = k1) (h2 : KBw.bInts b2 = k2) (h3 : KBw.bInts c1 = k3) (h4 : KBw.bInts c2 = k3) (e1 : k1 = k3) (e2 : k2 = k3) (hu : A.units < cLine) (h : Q (.bool false) s) :
    wpAny (model prog w) A (compareOp .NotEq (.ref l) (.ref r)) Q E s := by
  obtain rfl : b1 = c1 := bints_inj (by rw [h1, h3, e1])
  obtain rfl : b2 = c2 := bints_inj (by rw [h2, h4, e2])
  refine cmp_ofNotEq (SeqAt.RcNeAt.lists (e := fun _ => true) ⟨_, (N _ hl).1, rfl, _, rfl⟩ ⟨_, (N _ hr).1, rfl, _, rfl⟩ rfl hu (fun j q1 q2 => ?_) prog w E Q ?_)
  · have : j = 0 ∨ j = 1 := by simp at q1; omega
    rcases this with rfl | rfl
    · exact fun prog w E Q hq => eqBool_bytes (by simpa using hq)
    · exact fun prog w E Q hq => eqBool_bytes (by simpa using hq)
  · exact h
end
theorem gdbl_mul (x : BitVec 8) : gdbl x = gmul x 2 := by revert x; decide +kernel
theorem dbl_mul {x : Int} (h : Oct x) : mulI x 2 = dblI x := oct_ind (P := fun x => mulI x 2 = dblI x) (fun x => by rw [dbl_ofF, gdbl_mul]; exact mulI_ofF x 2) h
theorem map_dbl {X : List Int} (h : ∀ x ∈ X, Oct x) : (X.map fun x => mulI x 2) = X.map dblI := List.map_congr_left fun x hx => dbl_mul (h x hx)
noncomputable def dueL (xs ys : List Int) (n : Nat) : List Int := List.zipWith Builtin.bitXor (xs ++ List.replicate ((n : Int) - xs.length).toNat 0) (ys ++ List.replicate ((n : Int) - ys.length).toNat 0)
theorem bx_zero {x : Int} (h : Oct x) : Builtin.bitXor x 0 = x := by
  obtain ⟨n, rfl⟩ := Int.eq_ofNat_of_zero_le h.1
  have := bx_nat n 0
  simpa using this
theorem bx_comm {x y : Int} (h : Oct x) (h' : Oct y) : Builtin.bitXor x y = Builtin.bitXor y x := by
  obtain ⟨n, rfl⟩ := Int.eq_ofNat_of_zero_le h.1
  obtain ⟨m, rfl⟩ := Int.eq_ofNat_of_zero_le h'.1
  rw [bx_nat, bx_nat, Nat.xor_comm]
theorem zip_zeros : ∀ {X Y : List Int}, (∀ x ∈ X, Oct x) → Y.length ≤ X.length → List.zipWith Builtin.bitXor X (Y ++ List.replicate (X.length - Y.length) 0) = sumL X Y := by
  intro X
  induction X with
  | nil => intro Y _ h; cases Y with
    | nil => rfl
    | cons y r => simp at h
  | cons x r ih =>
    intro Y hX h
    cases Y with
    | nil =>
      have e := ih (Y := []) (fun z hz => hX z (.tail _ hz)) (Nat.zero_le _)
      simp only [List.nil_append, List.length_nil, Nat.sub_zero, sumL, List.zipWith_nil_right, List.drop_zero] at e ⊢
      rw [List.length_cons, List.replicate_succ, List.zipWith_cons_cons, e, bx_zero (hX x (.head _))]
    | cons y q =>
      have e := ih (Y := q) (fun z hz => hX z (.tail _ hz)) (by simpa using h)
      simp only [sumL, List.length_cons, List.cons_append, List.zipWith_cons_cons, List.drop_succ_cons, Nat.add_sub_add_right] at e ⊢
      rw [e]
theorem zip_comm : ∀ {X Y : List Int}, (∀ x ∈ X, Oct x) → (∀ x ∈ Y, Oct x) → List.zipWith Builtin.bitXor X Y = List.zipWith Builtin.bitXor Y X := by
  intro X
  induction X with
  | nil => intro Y _ _; simp
  | cons x r ih =>
    intro Y hX hY
    cases Y with
    | nil => simp
    | cons y q => rw [List.zipWith_cons_cons, List.zipWith_cons_cons, ih (fun z hz => hX z (.tail _ hz)) (fun z hz => hY z (.tail _ hz)), bx_comm (hX x (.head _)) (hY y (.head _))]
theorem oct_zero : Oct 0 := ⟨by decide, by decide⟩
theorem octs_pad {X : List Int} {n : Nat} (hX : ∀ x ∈ X, Oct x) : ∀ x ∈ X ++ List.replicate n 0, Oct x := fun x hx => by
  rcases List.mem_append.1 hx with h | h
  · exact hX x h
  · rw [(List.mem_replicate.1 h).2]; exact oct_zero
theorem due_ge {X Y : List Int} (hX : ∀ x ∈ X, Oct x) (h : Y.length ≤ X.length) : dueL X Y X.length = sumL X Y := by
  unfold dueL
  rw [show ((X.length : Int) - X.length).toNat = 0 from by omega, show ((X.length : Int) - Y.length).toNat = X.length - Y.length from by omega, List.replicate_zero, List.append_nil, zip_zeros hX h]
theorem due_comm {X Y : List Int} {n : Nat} (hX : ∀ x ∈ X, Oct x) (hY : ∀ x ∈ Y, Oct x) : dueL X Y n = dueL Y X n := zip_comm (octs_pad hX) (octs_pad hY)
theorem add_due {X Y : List Int} {M : Nat} (hX : ∀ x ∈ X, Oct x) (hY : ∀ x ∈ Y, Oct x) (hM : max X.length Y.length = M) : addL X Y = dueL X Y M := by
  unfold addL
  split
  · rw [due_comm hX hY, show M = Y.length from by omega, due_ge hY (by omega)]
  · rw [show M = X.length from by omega, due_ge hX (by omega)]
theorem add_due' {X Y : List Int} {M : Nat} (hX : ∀ x ∈ X, Oct x) (hY : ∀ x ∈ Y, Oct x) (hM : max X.length Y.length = M) : addL Y X = dueL X Y M := by
  rw [due_comm hX hY]; exact add_due hY hX (by rw [Nat.max_comm]; exact hM)
theorem octs_due {X Y : List Int} {n : Nat} (hX : ∀ x ∈ X, Oct x) (hY : ∀ x ∈ Y, Oct x) : ∀ x ∈ dueL X Y n, Oct x := octs_zip (octs_pad hX) (octs_pad hY)
theorem length_due {X Y : List Int} {n : Nat} (h1 : X.length < 10) (h2 : Y.length < 10) (hn : max X.length Y.length = n) : (dueL X Y n).length ≤ 63 := by
  unfold dueL; rw [List.length_zipWith, List.length_append, List.length_append, List.length_replicate, List.length_replicate]; omega
end
section
open PySem.Calls PyProof.Rows.LCg PySem.W.KBw
section
variable {w : World} {mean : ExcName → Option Value} {mg mb : Str → Option Value} {p : Program} {loose : List Str}
theorem oct_getD {X : List Int} (h : ∀ x ∈ X, Oct x) {i : Nat} (hi : i < X.length) : Oct (X.getD i 0) := by
  refine h _ ?_
  rw [List.getD_eq_getElem?_getD, List.getElem?_eq_getElem hi]; exact List.getElem_mem hi
theorem max_ite (a b : Nat) : (if (b : Int) > (a : Int) then (b : Int) else (a : Int)) = ((max a b : Nat) : Int) := by split <;> omega
theorem lrows_tells (news : CbLed) (l : Addr) (vs : List Value) (ns : List Int) (i : Int) (t : CbTok) (hI : IntsAre vs ns) (hl : ns.length ≤ 63) (hi : 0 ≤ i ∧ i < 59) :
    Tells w p loose mean mg mb 5 165 news [.ref l, .int i t] (fun h₀ L m news s Q E fr => s.heap.IsList l vs.toArray ∧ RetB true h₀ L m news s Q E fr) := by
  k_extra "kt_ors"
  obtain ⟨hL, hret⟩ := hret
  have hi0 := hi.1
  have hi1 := hi.2
  have hr1 := length_rowI ns i
  have hr2 := length_rowI ns (i + 2)
  have ho1 := octs_rowI ns i
  have ho2 := octs_rowI ns (i + 2)
  k_extra "kd_adr"
  simp only [max_ite] at *
  generalize hX : rowI ns i = X at *
  generalize hY : rowI ns (i + 2) = Y at *
  generalize hM : max X.length Y.length = M at *
  have hz1 : (List.replicate ((M : Int) - X.length).toNat (0 : Int)).length ≤ 63 := by rw [List.length_replicate]; omega
  have hz2 : (List.replicate ((M : Int) - Y.length).toNat (0 : Int)).length ≤ 63 := by rw [List.length_replicate]; omega
  have hIn : KBa.In (dueL X Y M) := in_octs (octs_due ho1 ho2)
  have hLn : (dueL X Y M).length ≤ 63 := length_due hr1 hr2 hM
  have hs1 := add_due ho1 ho2 hM
  have hs2 := add_due' ho1 ho2 hM
  refine comp_ints (n := min (X ++ List.replicate ((M : Int) - X.length).toNat 0).length (Y ++ List.replicate ((M : Int) - Y.length).toNat 0).length) (Bd := fun i m₂ => ∃ t u, m₂ (Str.ofString "a") = some (.int ((X ++ List.replicate ((M : Int) - X.length).toNat 0).getD i 0) t) ∧ m₂ (Str.ofString "b") = some (.int ((Y ++ List.replicate ((M : Int) - Y.length).toNat 0).getD i 0) u)) (g := fun i => Builtin.bitXor ((X ++ List.replicate ((M : Int) - X.length).toNat 0).getD i 0) ((Y ++ List.replicate ((M : Int) - Y.length).toNat 0).getD i 0)) (by assumption) (by assumption) (by rfl) (by decide) (by rfl) (by decide) (by rw [sizeLine_eq, List.length_append, List.length_append, List.length_replicate, List.length_replicate]; omega) ?elem ?src
  case elem =>
    intro s₁ i C oC m₂ rest E₁ hi hoC hBd F₁ N₁ hsub
    obtain ⟨t₁, u₁, ha, hb⟩ := hBd
    k_steps
    exact eltPost (by assumption) (by assumption) rfl subSelf
  case src =>
    k_extra "kd_adr"
    refine src_zipbI rfl rfl rfl rfl (by decide) (by assumption) (by assumption) (by assumption) (by assumption) (by simp only [List.length_append]) fun h₂ => ?_
    intro D vs₂ kk h₃ tk₃ F₃ N₃ lt₃ I₃
    rw [zipg_le (by simp only [List.length_append])] at I₃
    have I₄ : IntsAre vs₂ (dueL X Y M) := I₃
    clear I₃
    k_extra "kd_adr"
    have hIn2 : KBa.In (X.map dblI) := in_octs (octs_map ho1 fun _ => oct_dbl)
    have hLn2 : (X.map dblI).length ≤ 63 := by rw [List.length_map]; omega
    refine comp_ints (n := X.length) (Bd := fun i m₂ => ∃ t, m₂ (Str.ofString "a") = some (.int (X.getD i 0) t)) (g := fun i => mulI (X.getD i 0) 2) (by assumption) (by assumption) (by rfl) (by decide) (by rfl) (by decide) (by rw [sizeLine_eq]; omega) ?elem ?src
    case elem =>
      intro s₁ i C oC m₂ rest E₁ hi hoC hBd F₁ N₁ hsub
      obtain ⟨t₁, ha⟩ := hBd
      have hOx := oct_getD ho1 hi
      k_steps
      exact eltPost (by assumption) (by assumption) rfl subSelf
    case src =>
      k_steps
      refine src_bytesI rfl rfl rfl (by assumption) (by assumption) (by with_reducible assumption) rfl fun h₂ => ?_
      intro D vs₂ kk h₃ tk₃ F₃ N₃ lt₃ I₃
      rw [range_getD X (fun x => mulI x 2), map_dbl ho1] at I₃
      k_extra "kd_adr"
      have hFo := oct_elemI (digI ns (i + 4))
      generalize elemI (digI ns (i + 4)) = Fa at *
      have hIn3 : KBa.In (X.map fun x => mulI x Fa) := in_octs (octs_map ho1 fun _ _ => oct_mulI _ _)
      have hLn3 : (X.map fun x => mulI x Fa).length ≤ 63 := by rw [List.length_map]; omega
      refine comp_ints (n := X.length) (Bd := fun i m₂ => ∃ t, m₂ (Str.ofString "a") = some (.int (X.getD i 0) t)) (g := fun i => mulI (X.getD i 0) Fa) (by assumption) (by assumption) (by rfl) (by decide) (by rfl) (by decide) (by rw [sizeLine_eq]; omega) ?elem ?src
      case elem =>
        intro s₁ i C oC m₂ rest E₁ hi hoC hBd F₁ N₁ hsub
        obtain ⟨t₁, ha⟩ := hBd
        have hOx := oct_getD ho1 hi
        k_steps
        exact eltPost (by assumption) (by assumption) rfl subSelf
      case src =>
        k_steps
        refine src_bytesI rfl rfl rfl (by assumption) (by assumption) (by with_reducible assumption) rfl fun h₂ => ?_
        intro D vs₂ kk h₃ tk₃ F₃ N₃ lt₃ I₃
        rw [range_getD X (fun x => mulI x Fa)] at I₃
        k_steps
        exact hret _ _ (by k_asm) (newsBack N (by assumption))
end
end
section
theorem gpw_two (x : BitVec 8) (n : Nat) : gpw x (2 * n) = gpw (gmul x x) n := (gpw_sq x n).symm
theorem gpw_odd (x : BitVec 8) (n : Nat) : gpw x (2 * n + 1) = gmul (gpw (gmul x x) n) x := by
  show gmul (gpw x (2 * n)) x = _; rw [gpw_two]
noncomputable def ginv (x : BitVec 8) : BitVec 8 :=
  let a := gmul x x
  let b := gmul a a
  let c := gmul b b
  let d := gmul c c
  let e := gmul d d
  let f := gmul e e
  let g := gmul f f
  gmul (gmul (gmul (gmul (gmul (gmul g f) e) d) c) b) a
theorem gpw254 (x : BitVec 8) : gpw x 254 = ginv x := by
  rw [show 254 = 2 * 127 from rfl, gpw_two, show 127 = 2 * 63 + 1 from rfl, gpw_odd, show 63 = 2 * 31 + 1 from rfl, gpw_odd, show 31 = 2 * 15 + 1 from rfl, gpw_odd, show 15 = 2 * 7 + 1 from rfl, gpw_odd,
    show 7 = 2 * 3 + 1 from rfl, gpw_odd, show 3 = 2 * 1 + 1 from rfl, gpw_odd]
  show gmul (gmul (gmul (gmul (gmul (gmul (gmul 1 _) _) _) _) _) _) _ = _
  rw [gmul_one']
  rfl
theorem ginv_mul (x : BitVec 8) (h : x ≠ 0) : gmul (ginv x) x = 1 := by
  revert h; revert x; decide +kernel
theorem inv_mul {y : Int} (hy : Oct y) (h0 : y ≠ 0) : mulI (powI y 254) y = 1 := by
  revert h0
  refine oct_ind (P := fun y => y ≠ 0 → mulI (powI y 254) y = 1) (fun y h0 => ?_) hy
  have hne : y ≠ 0 := fun e => h0 (by rw [e]; rfl)
  unfold powI
  rw [toF_ofF, mulI_ofF, show (254 : Int).toNat = 254 from rfl, gpw254, ginv_mul y hne]
  rfl
theorem mulI_zl (y : Int) : mulI 0 y = 0 := by
  unfold mulI; rw [show toF 0 = 0 from rfl, gmul_zl]; rfl
theorem inv_pos {y : Int} (hy : Oct y) (h0 : y ≠ 0) : 0 < powI y 254 ∧ powI y 254 < 256 := by
  have h1 := inv_mul hy h0
  have h2 := oct_powI y 254
  refine ⟨?_, h2.2⟩
  have : powI y 254 ≠ 0 := fun e => by
    rw [e, mulI_zl] at h1; cases h1
  have := h2.1
  omega
theorem mulI_assoc (x y z : Int) : mulI (mulI x y) z = mulI x (mulI y z) := by
  unfold mulI; rw [toF_ofF, toF_ofF, gmul_assoc]
theorem mulI_one {x : Int} (h : Oct x) : mulI x 1 = x := by
  unfold mulI; rw [show toF 1 = 1 from rfl, gmul_one, ofF_toF h]
theorem div_mul {x y : Int} (hx : Oct x) (hy : Oct y) (h0 : y ≠ 0) : mulI (mulI x (powI y 254)) y = x := by
  rw [mulI_assoc, inv_mul hy h0, mulI_one hx]
theorem mulI_comm (x y : Int) : mulI x y = mulI y x := by unfold mulI; rw [gmul_comm]
end
section
open PySem.Calls PyProof.Rows.LCg
/-- the ledger with the object at a exchanged -/
noncomputable def updL (a : Addr) (o : Obj) (led : List (Addr × Obj)) : List (Addr × Obj) := led.map fun q => if @Eq Nat q.1 a then (a, o) else q
theorem mem_upd_ne {a : Addr} {o : Obj} {led : List (Addr × Obj)} {q : Addr × Obj} (h : q ∈ led) (hne : q.1 ≠ a) : q ∈ updL a o led := by
  refine List.mem_map.mpr ⟨q, h, ?_⟩
  rw [if_neg hne]
theorem mem_upd_self {a : Addr} {o o₀ : Obj} {led : List (Addr × Obj)} (h : (a, o₀) ∈ led) : (a, o) ∈ updL a o led :=
  List.mem_map.mpr ⟨_, h, if_pos rfl⟩
theorem upd_cases {a : Addr} {o : Obj} {led : List (Addr × Obj)} {q : Addr × Obj} (h : q ∈ updL a o led) : q = (a, o) ∨ (q ∈ led ∧ q.1 ≠ a) := by
  obtain ⟨x, hx, e⟩ := List.mem_map.mp h
  by_cases hxa : @Eq Nat x.1 a
  · rw [if_pos hxa] at e; exact .inl e.symm
  · rw [if_neg hxa] at e; subst e; exact .inr ⟨hx, hxa⟩
theorem off_upd {a I : Addr} {o o₀ : Obj} {led : List (Addr × Obj)} (h : ∀ q ∈ led, q.1 ≠ I) (hm : (a, o₀) ∈ led) : ∀ q ∈ updL a o led, q.1 ≠ I := fun q hq => by
  rcases upd_cases hq with rfl | ⟨hq, _⟩
  · exact (h (a, o₀) hm : @Ne Nat a I)
  · exact h q hq
theorem news_upd' {h₀ h h' : Heap} {L a : Addr} {m : Str → Option Value} {o o₀ : Obj} {led : List (Addr × Obj)} (F : Fr h₀ L h m) (N : News h₀ L h led) (hm : (a, o₀) ∈ led) (hk : ∀ b x, b ≠ a → h.get? b = some x → h'.get? b = some x) (he : h'.get? a = some o) :
    Fr h₀ L h' m ∧ News h₀ L h' (updL a o led) := by
  have n1 := N _ hm
  refine ⟨⟨F.ns.at' fun x q => hk _ x (fun q' => n1.2.1 q'.symm) q, fun b x q => hk b x (fun q' => by have := n1.2.2; rw [q'] at q; rw [q] at this; cases this) (F.keep b x q), F.above⟩, fun q hq => ?_⟩
  rcases upd_cases hq with rfl | ⟨hq, hne⟩
  · exact ⟨he, n1.2⟩
  · exact ⟨hk _ _ hne (N q hq).1, (N q hq).2⟩

/-- a list of lists of ints, its rows in the ledger -/
noncomputable def Rows (off : List Addr) (vs : List Value) (M : List (List Int)) (led : List (Addr × Obj)) : Prop :=
  vs.length = M.length ∧ ∀ i, i < M.length → ∃ b its k, vs[i]? = some (.ref b) ∧ (b, listOf its.toArray k) ∈ led ∧ IntsAre its (M.getD i []) ∧ b ∉ off
theorem Rows.mono {off : List Addr} {vs : List Value} {M : List (List Int)} {led led' : List (Addr × Obj)} (R : Rows off vs M led) (h : ∀ q ∈ led, q.1 ∉ off → q ∈ led') : Rows off vs M led' :=
  ⟨R.1, fun i hi => by
    obtain ⟨b, its, k, h1, h2, h3, h4⟩ := R.2 i hi
    exact ⟨b, its, k, h1, h _ h2 h4, h3, h4⟩⟩
theorem Rows.cons {off : List Addr} {vs : List Value} {M : List (List Int)} {led : List (Addr × Obj)} {p : Addr × Obj} (R : Rows off vs M led) : Rows off vs M (p :: led) := R.mono fun q hq _ => .tail _ hq
theorem Rows.upd {off : List Addr} {vs : List Value} {M : List (List Int)} {led : List (Addr × Obj)} {a : Addr} {o : Obj} (R : Rows off vs M led) (ha : a ∈ off) : Rows off vs M (updL a o led) :=
  R.mono fun q hq hn => mem_upd_ne hq fun e => hn (e ▸ ha)
theorem getD_set_eq {α : Type} {l : List α} {j : Nat} {x d : α} (h : j < l.length) : (l.set j x).getD j d = x := by
  simp [List.getD_eq_getElem?_getD, h]
theorem getD_set_ne {α : Type} {l : List α} {i j : Nat} {x d : α} (h : j ≠ i) : (l.set j x).getD i d = l.getD i d := by
  simp [List.getD_eq_getElem?_getD, List.getElem?_set, h]
theorem Rows.set {off : List Addr} {vs : List Value} {M : List (List Int)} {led : List (Addr × Obj)} {b : Addr} {its : List Value} {k : Nat} {r : List Int} (j : Nat) (R : Rows off vs M led) (hb : (b, listOf its.toArray k) ∈ led) (hI : IntsAre its r) (hoff : b ∉ off) : Rows off (vs.set j (.ref b)) (M.set j r) led :=
  ⟨by rw [List.length_set, List.length_set, R.1], fun i hi => by
    rw [List.length_set] at hi
    by_cases hji : j = i
    · subst hji
      exact ⟨b, its, k, by rw [List.getElem?_set_self (by rw [R.1]; exact hi)], hb, by rw [getD_set_eq hi]; exact hI, hoff⟩
    · obtain ⟨b', its', k', h1, h2, h3, h4⟩ := R.2 i hi
      exact ⟨b', its', k', by rw [List.getElem?_set_ne hji]; exact h1, h2, by rw [getD_set_ne hji]; exact h3, h4⟩⟩

section
variable {prog : Program} {w : World} {A : Around} {E : Value → Shared → Prop} {s : Shared} {h₀ : Heap} {L D : Addr} {m : Str → Option Value} {led : List (Addr × Obj)} {vs : List Value} {n : Nat} {k : Int} {t u : Tok} {v : Value}
theorem set_row {Q : Unit → Shared → Prop} (F : Fr h₀ L s.heap m) (N : News h₀ L s.heap led) (hm : (D, listOf vs.toArray n) ∈ led) (h0 : 0 ≤ k) (h1 : k < vs.length) (hfit : k < 2 ^ 63)
    (h : ∀ h', Fr h₀ L h' m → News h₀ L h' (updL D (listOf (vs.set k.toNat v).toArray n) led) → Q () { s with heap := h' }) :
    wpAny (model prog w) A (setItem (.ref D) (.int k t) v) Q E s := by
  have z : s.heap.get? D = some (listOf vs.toArray n) := (N _ hm).1
  refine ki_setAt z h0 hfit (by rw [List.size_toArray]; exact h1) ?_
  have up : (s.heap.update D (Obj.mapSeq (·.setIfInBounds k.toNat v))).get? D = some (listOf (vs.set k.toNat v).toArray n) := by
    have ea : vs.toArray.setIfInBounds k.toNat v = (vs.set k.toNat v).toArray := by apply Array.toList_inj.mp; simp
    rw [Heap.get?_update_self _ z rfl]
    simp only [Obj.mapSeq, ea]
    simp
  obtain ⟨F', N'⟩ := news_upd' F N hm (fun b x hb e => by rw [Heap.get?_update_other _ _ (Ne.symm hb)]; exact e) up
  exact h _ F' N'
theorem sub_row {value slice : PySem.Expr} {Q : Value → Shared → Prop} (hl : s.heap.IsList D vs.toArray) (hb : vs[k.toNat]? = some v) (h0 : 0 ≤ k) (hfit : k < 2 ^ 63) (h : Q v s)
    (hs : subscripted slice false (.ref D) (.int k u) = operate [.ref D, .int k u] (getItem (.ref D) (.int k u)) := by with_unfolding_all rfl) :
    wpAny (model prog w) A (subscriptTail value slice (.ref D) (.int k u)) Q E s :=
  tail_any hl.typeIs slot_list_getitem.lookup (wpAny_getItem_list hl h0 hfit (by simpa using hb) h) hs
end

section
variable {prog : Program} {w : World} {A : Around} {E : Value → Shared → Prop} {s : Shared} {env : Env} {h₀ : Heap} {target : Expr} {body : List Stmt} {Q : Flow → Shared → Prop}
/-- the end of a turn over a range whose iterator is I -/
noncomputable def REnd (h₀ : Heap) (L : Addr) (I : Addr) (oI : Obj) (J : (Str → Option Value) → List (Addr × Obj) → Prop) (s₁ : Shared) (Q : Flow → Shared → Prop) (f : Flow) (s₂ : Shared) : Prop :=
  match f with
  | .ret v => Q (.ret v) s₂
  | .brk => Q .next s₂
  | _ => ∃ h' tk m' led', s₂ = { s₁ with heap := h', toks := tk } ∧ Fr h₀ L h' m' ∧ News h₀ L h' ((I, oI) :: led') ∧ (∀ p ∈ led', p.1 ≠ I) ∧ J m' led'
theorem REnd.next {L I : Addr} {oI : Obj} {J : (Str → Option Value) → List (Addr × Obj) → Prop} {s₁ : Shared} {h' : Heap} {tk : Nat} {m' : Str → Option Value} {led' : List (Addr × Obj)} (F : Fr h₀ L h' m') (N : News h₀ L h' ((I, oI) :: led')) (ho : ∀ p ∈ led', p.1 ≠ I) (hj : J m' led') :
    REnd h₀ L I oI J s₁ Q .next { s₁ with heap := h', toks := tk } := ⟨h', tk, m', led', rfl, F, N, ho, hj⟩
theorem rng_turns {x : Str} {px : Pos} {r : Addr} {a b : Int} {t u v : Tok} {n : Nat} {m : Str → Option Value} {led₀ : List (Addr × Obj)} (hh : A.handled = none) (F : Fr h₀ env.locals s.heap m) (N : News h₀ env.locals s.heap led₀)
    (hr : IsRange s.heap r a b 1 t u v) (hsm : Builtin.Range.small a b 1 = true) (hn : Builtin.Range.rangeSize a b 1 = ((n : Nat) : Int))
    (J : Nat → (Str → Option Value) → List (Addr × Obj) → Prop) (h0 : J 0 m led₀)
    (step : ∀ i t m₁ led h tk I oI, i < n → J i m₁ led → (∀ p ∈ led, p.1 ≠ I) → Fr h₀ env.locals h m₁ → News h₀ env.locals h ((I, oI) :: led) →
      wpAny (model prog w) A (assign (.Name x px) env (.int (a + (i : Int)) t)) (fun _ s₃ => wpAny (model prog w) A (execs body env) (REnd h₀ env.locals I oI (J (i + 1)) { s with heap := h, toks := tk } Q) E s₃) E { s with heap := h, toks := tk })
    (done : ∀ h' tk m' led', Fr h₀ env.locals h' m' → News h₀ env.locals h' led' → J n m' led' → Q .next { s with heap := h', toks := tk }) :
    wpAny (model prog w) A (pyIter (.ref r)) (fun it s₂ => TurnsAt prog w A h₀ env (.Name x px) body Q E it s₂) E s := by
  refine wpAny_pyIter_range hr hsm ?_
  have W := range_walks (prog := prog) (w := w) (I := s.heap.objs.size) hh a n
  refine ⟨s.heap.objs.size, [s.heap.objs.size], [s.heap.objs.size], n, _, _, _, m, led₀, J, rfl, KTurns.ofWalks W (fun i v s Q E _ hQ => wpAny_pure hQ), fun hm => ?_, fun b hb => ?_, fun p hp hm => ?_, (by show IsRangeIter _ _ _ _ _; rw [hn]; simpa using Heap.get?_push_size _ rfl),
    F.keeps fun _ _ e => Heap.get?_push_of_some _ e, N.grown fun _ _ e => Heap.get?_push_of_some _ e, h0, ?_, fun h' tk m' led' F' N' _ hJ => done h' tk m' led' F' N' hJ⟩
  · exact absurd F.ns.lt (List.mem_singleton.mp hm ▸ Nat.lt_irrefl _)
  · rw [List.mem_singleton.mp hb]; exact next_is_new F
  · exact absurd (Heap.lt_size (N p hp).1) (List.mem_singleton.mp hm ▸ Nat.lt_irrefl _)
  · rintro i v m₁ led h₁ tk₁ own hi hP hJ hoff hsub hget hall st F₁ N₁
    obtain ⟨tv, rfl⟩ := hP
    have st' : ∃ oI, h₁.get? s.heap.objs.size = some oI := ⟨_, st⟩
    obtain ⟨oI, hI⟩ := st'
    have hIo := hall _ (.head _) (next_is_new F) oI hI
    have offI : ∀ p ∈ led, p.1 ≠ s.heap.objs.size := fun p hp e => hoff p hp (e ▸ List.mem_singleton.mpr rfl)
    have ownI : ∀ p ∈ own, p = (s.heap.objs.size, oI) := fun p hp => by
      have e1 := List.mem_singleton.mp (hsub p hp)
      have e2 := hget p hp
      rw [e1, hI] at e2
      obtain ⟨p1, p2⟩ := p
      dsimp only at e1 e2
      rw [e1, Option.some.inj e2]
    have N₂ : News h₀ env.locals h₁ ((s.heap.objs.size, oI) :: led) := fun p hp => by
      rcases List.mem_cons.mp hp with rfl | hp
      · exact N₁ _ (List.mem_append_left _ hIo)
      · exact N₁ _ (List.mem_append_right _ hp)
    refine wpAny_mono (step i tv m₁ led h₁ tk₁ _ oI hi hJ offI F₁ N₂) (fun _ s₃ h₃ => wpAny_mono h₃ (fun f s₄ h₄ => ?_) fun _ _ e => e) fun _ _ e => e
    have fin : (∃ h' tk m' led', s₄ = { s with heap := h', toks := tk } ∧ Fr h₀ env.locals h' m' ∧ News h₀ env.locals h' ((s.heap.objs.size, oI) :: led') ∧ (∀ p ∈ led', p.1 ≠ s.heap.objs.size) ∧ J (i + 1) m' led') →
        LoopStepU h₀ env.locals [s.heap.objs.size] own (J (i + 1)) { s with heap := h₁, toks := tk₁ } .next s₄ := by
      rintro ⟨h', tk, m', led', rfl, F', N', ho, hj⟩
      refine ⟨rfl, h', tk, m', led', rfl, F', fun p hp => ?_, fun p hp hm => ho p hp (List.mem_singleton.mp hm), hj⟩
      rcases List.mem_append.mp hp with hp | hp
      · rw [ownI p hp]; exact N' _ (.head _)
      · exact N' _ (.tail _ hp)
    cases f with
    | ret v => exact h₄
    | brk => exact h₄
    | next => exact fin h₄
    | cont => exact fin h₄
end

section
variable {M : Model} {A : Around} {E : Value → Shared → Prop} {s : Shared} {h₀ : Heap} {L c : Addr} {m : Str → Option Value} {led : List (Addr × Obj)} {env : Env} {x : Str} {v : Value} {o₀ : Obj} {v₀ : Option Value} {Q : Unit → Shared → Prop}
theorem store_cell (F : Fr h₀ L s.heap m) (N : News h₀ L s.heap led) (hm : (c, o₀) ∈ led) (hd₀ : o₀.data = .cell v₀) (hk : env.scope.kind = .function) (hx : env.kindOf x = some .cell) (hc : env.cells.lookup x = some c)
    (h : ∀ h' o, o.data = .cell (some v) → Fr h₀ L h' m → News h₀ L h' (updL c o led) → Q () { s with heap := h' }) : wpAny M A (storeName env x v) Q E s := by
  refine wpAny_storeName_cell hk hx hc ⟨_, (N _ hm).1, hd₀⟩ fun h' hc' hs' => ?_
  obtain ⟨o, ho, hd⟩ := hc'
  obtain ⟨F', N'⟩ := news_upd' F N hm (fun b x hb e => hs'.extBut b x hb e) ho
  exact h h' o hd F' N'
end
theorem Rows.widen {off : List Addr} {vs : List Value} {M : List (List Int)} {led : List (Addr × Obj)} {a : Addr} (R : Rows off vs M led) (h : ∀ q ∈ led, q.1 ≠ a) : Rows (a :: off) vs M led :=
  ⟨R.1, fun i hi => by
    obtain ⟨b, its, k, h1, h2, h3, h4⟩ := R.2 i hi
    refine ⟨b, its, k, h1, h2, h3, fun hm => ?_⟩
    rcases List.mem_cons.mp hm with e | hm
    · exact h _ h2 e
    · exact h4 hm⟩
theorem Rows.narrow {off off' : List Addr} {vs : List Value} {M : List (List Int)} {led : List (Addr × Obj)} (R : Rows off vs M led) (h : ∀ a ∈ off', a ∈ off) : Rows off' vs M led :=
  ⟨R.1, fun i hi => by
    obtain ⟨b, its, k, h1, h2, h3, h4⟩ := R.2 i hi
    exact ⟨b, its, k, h1, h2, h3, fun hm => h4 (h _ hm)⟩⟩
theorem updL_cons {a : Addr} {o : Obj} {q : Addr × Obj} {led : List (Addr × Obj)} (h : q.1 ≠ a) : updL a o (q :: led) = q :: updL a o led := by
  show (if @Eq Nat q.1 a then (a, o) else q) :: _ = _
  rw [if_neg h]; rfl
end
section
open PySem.Calls PyProof.Rows.LCg
section
variable {prog : Program} {w : World} {A : Around} {E : Value → Shared → Prop} {s : Shared} {h₀ : Heap} {L : Addr} {m : Str → Option Value} {env : Env}

/-- the test of one turn: a truth, nothing kept -/
noncomputable def CTst (prog : Program) (w : World) (A : Around) (h₀ : Heap) (L : Addr) (m : Str → Option Value) (env : Env) (c : Expr) (scope : Scope) (cl : List (Str × Addr)) (n : Nat) (Bd : Nat → (Str → Option Value) → Prop) (b : Nat → Bool) (news : List (Addr × Obj)) : Prop :=
  ∀ (s : Shared) i C oC m₂ rest (Q : Bool → Shared → Prop) (E' : Value → Shared → Prop), i < n → NsObj oC m₂ → Bd i m₂ → Fr h₀ L s.heap m → News h₀ L s.heap ((C, oC) :: rest) → (∀ p ∈ news, p ∈ rest) →
    (∀ h' tk', Fr h₀ L h' m → News h₀ L h' ((C, oC) :: rest) → Q (b i) { s with heap := h', toks := tk' }) →
    wpAny (model prog w) A (isTrue c (compEnvC scope cl C env) (eval c (compEnvC scope cl C env))) Q E' s

theorem post_none {Q : Value → Shared → Prop} {h : Heap} {tk : Nat} {s₂ : Shared} {D C : Addr} {o : Obj} {m' : Str → Option Value} {led : List (Addr × Obj)} (F : Fr h₀ L h m) (N : News h₀ L h ((D, o) :: led)) (hn : h.Ns C m') (hC₀ : h₀.get? C = none) (hCL : C ≠ L) (hCD : C ≠ D) (hCl : ∀ p ∈ led, p.1 ≠ C)
    (k : ∀ h'', Fr h₀ L h'' m → News h₀ L h'' ((D, o) :: led) → Q (.ref D) { s₂ with heap := h'', toks := tk }) : compPost (model prog w) A E none Q (.ref D) C (.ok .next) { s₂ with heap := h, toks := tk } :=
  ⟨m', hn, fun h'' hs'' => k h'' (F.change hs'' hCL hC₀) fun p hp => ⟨hs''.extBut _ _ (by
    rcases List.mem_cons.mp hp with rfl | hp
    · exact Ne.symm hCD
    · exact hCl p hp) (N p hp).1, (N p hp).2⟩⟩
theorem post_some {Q : Value → Shared → Prop} {h : Heap} {tk : Nat} {s₂ : Shared} {D C : Addr} {o : Obj} {m' : Str → Option Value} {led : List (Addr × Obj)} {y : Str} {py : Pos} (hy : env.kindOf y = some .local) (hp : (env.scope.kind == .class || (env.scope.kind == .module && env.locals != env.globals)) = false) (hL : env.locals = L)
    (F : Fr h₀ L h m) (N : News h₀ L h ((D, o) :: led)) (hn : h.Ns C m') (hC₀ : h₀.get? C = none) (hCL : C ≠ L) (hCD : C ≠ D) (hCl : ∀ p ∈ led, p.1 ≠ C)
    (k : ∀ h'' tk', Fr h₀ L h'' (fun z => if z = y then some (.ref D) else m z) → News h₀ L h'' ((D, o) :: led) → Q .none { s₂ with heap := h'', toks := tk' }) : compPost (model prog w) A E (some (assign (.Name y py) env)) Q (.ref D) C (.ok .next) { s₂ with heap := h, toks := tk } := by
  subst hL
  refine wpAny_assign_Name (wpAny_storeName_local hy F.ns (fun h₂ hn₂ hs₂ => ?_) hp)
  have F₂ := F.set hn₂ hs₂
  have N₂ := N.set hs₂
  refine ⟨m', hn.sameBut hs₂ hCL, fun h'' hs'' => k h'' _ (F₂.change hs'' hCL hC₀) fun p hp => ⟨hs''.extBut _ _ (by
    rcases List.mem_cons.mp hp with rfl | hp
    · exact Ne.symm hCD
    · exact hCl p hp) (N₂ p hp).1, (N₂ p hp).2⟩⟩
theorem assign_used {value : Expr} {y : Str} {py spos : Pos} {Q : Flow → Shared → Prop} (hsw : swapsWith value (some (.Name y py)) spos.line env = pure true)
    (h : wpAny (model prog w) A (evalThenUse value env (assign (.Name y py) env)) (fun _ s' => Q .next s') E s) : wpAny (model prog w) A (exec (.Assign [.Name y py] value spos) env) Q E s := by
  rw [exec_Assign_Name_used _ _ _ _ hsw]
  exact wpAny_bind (wpAny_standAt (wpAny_bind (wpAny_mono h (fun _ s' hq => wpAny_pure hq) fun _ _ e => e)))
theorem comp_ints_if_u {use : Option (Value → Sem Unit)} {cpos : Pos} {elt iter target c : Expr} {scope : Scope} {cl : List (Str × Addr)} {pos : Pos} {Q : Value → Shared → Prop} {n : Nat} {Bd : Nat → (Str → Option Value) → Prop} {g : Nat → Int} {b : Nat → Bool} {news : List (Addr × Obj)} (_F₀ : Fr h₀ L s.heap m) (_N₀ : News h₀ L s.heap news)
    (hclos : closureFor scope env = pure cl) (hcell : ∀ y ∈ scope.names, y.2 ≠ .cell) (hkind : scope.kind = .function)
    (hnames : ∀ y ∈ scope.names, y.2 = .local → scope.names.lookup y.1 = some .local) (hsz : n ≤ sizeLine)
    (test : CTst prog w A h₀ L m env c scope cl n Bd b news)
    (elem : CElt prog w A h₀ L m env elt scope cl n Bd g news)
    (h : wpAny (model prog w) A (eval iter env) (fun xv s₁ => wpAny (model prog w) A (pyIter xv) (fun it s₂ => CSrc prog w A h₀ L m env scope cl target n Bd news it s₂ ∧
      ∀ D vs k h tk C m', Fr h₀ L h m → News h₀ L h ((D, listOf vs.toArray k) :: news) → (∀ p ∈ news, p.1 < D) → IntsAre vs (((List.range n).filter b).map g) → h.Ns C m' → h₀.get? C = none → C ≠ L → C ≠ D → (∀ p ∈ news, p.1 ≠ C) → compPost (model prog w) A E use Q (.ref D) C (.ok .next) { s₂ with heap := h, toks := tk }) E s₁) E s)
    (hs : ∀ x, foldedSetIterable iter env x = pure x := by intro _; rfl) :
    wpAny (model prog w) A (comprehension (.ListComp elt [⟨target, iter, [c], 0⟩] scope pos) scope env cpos (newList []) false (eval iter env) use) Q E s := by
  refine wpAny_comprehension_free (use := use) rfl hs hclos hkind hnames (wpAny_mono h (fun xv s₁ h₁ => wpAny_mono h₁ (fun it s₂ h₂ => ?_) fun _ _ e => e) fun _ _ e => e)
  obtain ⟨⟨I, fp, wr, P, Md, St, rfl, W, hself, asg, hst, hfp, hwo, F, N, hLf, hwr, off⟩, fin⟩ := h₂
  refine comp_block (J := fun i ys nx => nx = news ∧ IntsAre ys (((List.range i).filter b).map g)) W hself hsz asg hcell hkind hst hfp (hwo 0 _ hst) hwo F N hLf hwr off ⟨rfl, .nil⟩ ?_ ?_
  · rintro i ys news' C oC D m₂ own hp₁ tk E' hi ⟨rfl, hys⟩ off' hin hoC hBd F' N'
    refine wpAny_tests_one (test { s₂ with heap := hp₁, toks := tk } i C oC m₂ ((D, lst ys) :: own ++ news') _ E' hi hoC hBd F' N' (fun p hp => List.mem_append_right _ hp) fun h₃ tk₃ F₃ N₃ => ?_)
    cases hb : b i with
    | false =>
      simp only [Bool.false_eq_true, if_false]
      refine ⟨h₃, tk₃, news', rfl, F₃, N₃, off', rfl, ?_⟩
      rw [List.range_succ, List.filter_append, List.map_append]
      have e : ([i].filter b).map g = [] := by simp [hb]
      rw [e, List.append_nil]
      exact hys
    | true =>
      simp only [if_true]
      refine wpAny_mono (elem { s₂ with heap := h₃, toks := tk₃ } i C oC m₂ ((D, lst ys) :: own ++ news') E' hi hoC hBd F₃ N₃ fun p hp => List.mem_append_right _ hp) (fun y s' hy => ?_) fun _ _ e => e
      obtain ⟨t, h', tk', rfl, rfl, F₂, N₂⟩ := hy
      refine ⟨h', tk', news', rfl, F₂, N₂, off', rfl, ?_⟩
      rw [List.range_succ, List.filter_append, List.map_append]
      have e : ([i].filter b).map g = [g i] := by simp [hb]
      rw [e]
      exact hys.append (.cons _ _ .nil)
  · rintro D C hp₁ tk m' ys news' F' N' off' hn hC₀ hD₀ hCL hDL hCD hlt ⟨rfl, hys⟩
    exact fin D ys ys.length hp₁ tk C m' F' N' hlt hys hn hC₀ hCL hCD fun p hp e => off' p hp (e ▸ List.mem_cons_self)

theorem comp_ints_if_s {elt iter target c : Expr} {scope : Scope} {cl : List (Str × Addr)} {pos spos : Pos} {y : Str} {py : Pos} {Q : Flow → Shared → Prop} {n : Nat} {Bd : Nat → (Str → Option Value) → Prop} {g : Nat → Int} {b : Nat → Bool} {news : List (Addr × Obj)} (_F₀ : Fr h₀ L s.heap m) (_N₀ : News h₀ L s.heap news)
    (hsw : swapsWith (.ListComp elt [⟨target, iter, [c], 0⟩] scope pos) (some (.Name y py)) spos.line env = pure true) (hy : env.kindOf y = some .local) (hp : (env.scope.kind == .class || (env.scope.kind == .module && env.locals != env.globals)) = false) (hL : env.locals = L)
    (hclos : closureFor scope env = pure cl) (hcell : ∀ y ∈ scope.names, y.2 ≠ .cell) (hkind : scope.kind = .function)
    (hnames : ∀ y ∈ scope.names, y.2 = .local → scope.names.lookup y.1 = some .local) (hsz : n ≤ sizeLine)
    (test : CTst prog w A h₀ L m env c scope cl n Bd b news)
    (elem : CElt prog w A h₀ L m env elt scope cl n Bd g news)
    (h : wpAny (model prog w) A (eval iter env) (fun xv s₁ => wpAny (model prog w) A (pyIter xv) (fun it s₂ => CSrc prog w A h₀ L m env scope cl target n Bd news it s₂ ∧
      ∀ D vs k h tk, Fr h₀ L h (fun z => if z = y then some (.ref D) else m z) → News h₀ L h ((D, listOf vs.toArray k) :: news) → (∀ p ∈ news, p.1 < D) → IntsAre vs (((List.range n).filter b).map g) → Q .next { s₂ with heap := h, toks := tk }) E s₁) E s)
    (hs : ∀ x, foldedSetIterable iter env x = pure x := by intro _; rfl) :
    wpAny (model prog w) A (exec (.Assign [.Name y py] (.ListComp elt [⟨target, iter, [c], 0⟩] scope pos) spos) env) Q E s := by
  refine assign_used hsw ?_
  show wpAny _ A (do let _ ← comprehension (.ListComp elt [⟨target, iter, [c], 0⟩] scope pos) scope env _ (newList []) false (eval iter env) (some (assign (.Name y py) env))) _ _ s
  refine wpAny_bind (wpAny_mono (comp_ints_if_u (Q := fun _ s' => Q .next s') _F₀ _N₀ hclos hcell hkind hnames hsz test elem (wpAny_mono h (fun xv s₁ h₁ => wpAny_mono h₁ (fun it s₂ h₂ => ⟨h₂.1, fun D vs k h tk C m' F N lt I hn hC₀ hCL hCD hCl => ?_⟩) fun _ _ e => e) fun _ _ e => e) hs) (fun _ s' hq => wpAny_pure hq) fun _ _ e => e)
  exact post_some hy hp hL F N hn hC₀ hCL hCD hCl fun h'' tk'' F' N' => h₂.2 D vs k h'' tk'' F' N' lt I

/-- one element: a new list of ints, kept -/
noncomputable def RowPost (h₀ : Heap) (L : Addr) (m : Str → Option Value) (s : Shared) (r : List Int) (keep : List (Addr × Obj)) (y : Value) (s' : Shared) : Prop :=
  ∃ b its k h' tk', y = .ref b ∧ s' = { s with heap := h', toks := tk' } ∧ Fr h₀ L h' m ∧ News h₀ L h' ((b, listOf its.toArray k) :: keep) ∧ (∀ q ∈ keep, q.1 ≠ b) ∧ IntsAre its r
noncomputable def CRow (prog : Program) (w : World) (A : Around) (h₀ : Heap) (L : Addr) (m : Str → Option Value) (env : Env) (elt : Expr) (scope : Scope) (cl : List (Str × Addr)) (n : Nat) (Bd : Nat → (Str → Option Value) → Prop) (g : Nat → List Int) (news : List (Addr × Obj)) : Prop :=
  ∀ (s : Shared) i C oC m₂ rest (E' : Value → Shared → Prop), i < n → NsObj oC m₂ → Bd i m₂ → Fr h₀ L s.heap m → News h₀ L s.heap ((C, oC) :: rest) → (∀ p ∈ news, p ∈ rest) →
    wpAny (model prog w) A (eval elt (compEnvC scope cl C env)) (RowPost h₀ L m s (g i) ((C, oC) :: rest)) E' s

theorem comp_rows_u {use : Option (Value → Sem Unit)} {cpos : Pos} {elt iter target : Expr} {scope : Scope} {cl : List (Str × Addr)} {pos : Pos} {Q : Value → Shared → Prop} {n : Nat} {Bd : Nat → (Str → Option Value) → Prop} {g : Nat → List Int} {news : List (Addr × Obj)} (off : List Addr) (_F₀ : Fr h₀ L s.heap m) (_N₀ : News h₀ L s.heap news)
    (hoff : ∀ a ∈ off, ∃ o, (a, o) ∈ news)
    (hclos : closureFor scope env = pure cl) (hcell : ∀ y ∈ scope.names, y.2 ≠ .cell) (hkind : scope.kind = .function)
    (hnames : ∀ y ∈ scope.names, y.2 = .local → scope.names.lookup y.1 = some .local) (hsz : n ≤ sizeLine)
    (elem : CRow prog w A h₀ L m env elt scope cl n Bd g news)
    (h : wpAny (model prog w) A (eval iter env) (fun xv s₁ => wpAny (model prog w) A (pyIter xv) (fun it s₂ => CSrc prog w A h₀ L m env scope cl target n Bd news it s₂ ∧
      ∀ D vs k led h tk C m', Fr h₀ L h m → News h₀ L h ((D, listOf vs.toArray k) :: led) → (∀ p ∈ led, p.1 ≠ D) → (∀ p ∈ news, p.1 < D) → (∀ q ∈ news, q ∈ led) → Rows (D :: off) vs ((List.range n).map g) led → h.Ns C m' → h₀.get? C = none → C ≠ L → C ≠ D → (∀ p ∈ led, p.1 ≠ C) → compPost (model prog w) A E use Q (.ref D) C (.ok .next) { s₂ with heap := h, toks := tk }) E s₁) E s)
    (hs : ∀ x, foldedSetIterable iter env x = pure x := by intro _; rfl) :
    wpAny (model prog w) A (comprehension (.ListComp elt [⟨target, iter, [], 0⟩] scope pos) scope env cpos (newList []) false (eval iter env) use) Q E s := by
  refine wpAny_comprehension_free (use := use) rfl hs hclos hkind hnames (wpAny_mono h (fun xv s₁ h₁ => wpAny_mono h₁ (fun it s₂ h₂ => ?_) fun _ _ e => e) fun _ _ e => e)
  obtain ⟨⟨I, fp, wr, P, Md, St, rfl, W, hself, asg, hst, hfp, hwo, F, N, hLf, hwr, offw⟩, fin⟩ := h₂
  refine comp_block (J := fun i ys nx => (∀ q ∈ news, q ∈ nx) ∧ Rows off ys ((List.range i).map g) nx) W hself hsz asg hcell hkind hst hfp (hwo 0 _ hst) hwo F N hLf hwr offw ⟨fun _ h => h, ⟨rfl, fun i hi => absurd hi (Nat.not_lt_zero _)⟩⟩ ?_ ?_
  · rintro i ys news' C oC D m₂ own hp₁ tk E' hi ⟨hsub, hys⟩ off' hin hoC hBd F' N'
    refine wpAny_tests_nil ?_
    simp only [if_true]
    refine wpAny_mono (elem { s₂ with heap := hp₁, toks := tk } i C oC m₂ ((D, lst ys) :: own ++ news') E' hi hoC hBd F' N' fun p hp => List.mem_append_right _ (hsub p hp)) (fun y s' hy => ?_) fun _ _ e => e
    obtain ⟨b, its, k, h', tk', rfl, rfl, F₂, N₂, hne, hI⟩ := hy
    have hbo : b ∉ off := fun hm => by
      obtain ⟨o, ho⟩ := hoff b hm
      exact hne _ (.tail _ (List.mem_append_right _ (hsub _ ho))) rfl
    refine ⟨h', tk', (b, listOf its.toArray k) :: news', rfl, F₂, fun p hp => ?_, fun p hp => ?_, fun q hq => .tail _ (hsub q hq), ?_⟩
    · rcases List.mem_append.mp hp with hp | hp
      · exact N₂ p (.tail _ (List.mem_append_left news' hp))
      · rcases List.mem_cons.mp hp with rfl | hp
        · exact N₂ _ (.head _)
        · exact N₂ p (.tail _ (List.mem_append_right ((C, oC) :: (D, lst ys) :: own) hp))
    · rcases List.mem_cons.mp hp with rfl | hp
      · intro hm
        obtain ⟨o, ho⟩ := hin _ hm
        exact hne _ (List.mem_append_left news' ho) rfl
      · exact off' p hp
    · rw [List.range_succ, List.map_append]
      have hlen : ys.length = i := by rw [hys.1, List.length_map, List.length_range]
      refine ⟨by rw [List.length_append, List.length_append, hys.1]; rfl, fun j hj => ?_⟩
      rw [List.length_append, List.length_map, List.length_range] at hj
      by_cases hji : j < i
      · obtain ⟨b', its', k', h1, h2, h3, h4⟩ := hys.2 j (by rw [List.length_map, List.length_range]; exact hji)
        refine ⟨b', its', k', by rw [List.getElem?_append_left (by omega)]; exact h1, .tail _ h2, ?_, h4⟩
        rw [List.getD_eq_getElem?_getD, List.getElem?_append_left (by rw [List.length_map, List.length_range]; exact hji), ← List.getD_eq_getElem?_getD]
        exact h3
      · obtain rfl : j = i := by simp at hj; omega
        refine ⟨b, its, k, ?_, .head _, ?_, hbo⟩
        · rw [List.getElem?_append_right (by omega), hlen, Nat.sub_self]; rfl
        · rw [List.getD_eq_getElem?_getD, List.getElem?_append_right (by rw [List.length_map, List.length_range]; exact Nat.le_refl _), List.length_map, List.length_range, Nat.sub_self]
          exact hI
  · rintro D C hp₁ tk m' ys news' F' N' off' hn hC₀ hD₀ hCL hDL hCD hlt ⟨hsub, hys⟩
    refine fin D ys ys.length news' hp₁ tk C m' F' N' (fun p hp e => off' p hp (e ▸ List.mem_cons_of_mem _ List.mem_cons_self)) hlt hsub ⟨hys.1, fun i hi => ?_⟩ hn hC₀ hCL hCD fun p hp e => off' p hp (e ▸ List.mem_cons_self)
    obtain ⟨b, its, k, h1, h2, h3, h4⟩ := hys.2 i hi
    refine ⟨b, its, k, h1, h2, h3, fun hm => ?_⟩
    rcases List.mem_cons.mp hm with e | hm
    · exact off' _ h2 (e ▸ List.mem_cons_of_mem _ List.mem_cons_self)
    · exact h4 hm
theorem comp_rows {elt iter target : Expr} {scope : Scope} {cl : List (Str × Addr)} {pos : Pos} {Q : Value → Shared → Prop} {n : Nat} {Bd : Nat → (Str → Option Value) → Prop} {g : Nat → List Int} {news : List (Addr × Obj)} (off : List Addr) (_F₀ : Fr h₀ L s.heap m) (_N₀ : News h₀ L s.heap news)
    (hoff : ∀ a ∈ off, ∃ o, (a, o) ∈ news)
    (hclos : closureFor scope env = pure cl) (hcell : ∀ y ∈ scope.names, y.2 ≠ .cell) (hkind : scope.kind = .function)
    (hnames : ∀ y ∈ scope.names, y.2 = .local → scope.names.lookup y.1 = some .local) (hsz : n ≤ sizeLine)
    (elem : CRow prog w A h₀ L m env elt scope cl n Bd g news)
    (h : wpAny (model prog w) A (eval iter env) (fun xv s₁ => wpAny (model prog w) A (pyIter xv) (fun it s₂ => CSrc prog w A h₀ L m env scope cl target n Bd news it s₂ ∧
      ∀ D vs k led h tk, Fr h₀ L h m → News h₀ L h ((D, listOf vs.toArray k) :: led) → (∀ p ∈ led, p.1 ≠ D) → (∀ p ∈ news, p.1 < D) → (∀ q ∈ news, q ∈ led) → Rows (D :: off) vs ((List.range n).map g) led → Q (.ref D) { s₂ with heap := h, toks := tk }) E s₁) E s)
    (hs : ∀ x, foldedSetIterable iter env x = pure x := by intro _; rfl) :
    wpAny (model prog w) A (eval (.ListComp elt [⟨target, iter, [], 0⟩] scope pos) env) Q E s := by
  rw [eval_ListComp]
  exact comp_rows_u (use := none) off _F₀ _N₀ hoff hclos hcell hkind hnames hsz elem (wpAny_mono h (fun xv s₁ h₁ => wpAny_mono h₁ (fun it s₂ h₂ => ⟨h₂.1, fun D vs k led h tk C m' F N o1 lt sub R hn hC₀ hCL hCD hCl => post_none F N hn hC₀ hCL hCD hCl fun h'' F' N' => h₂.2 D vs k led h'' tk F' N' o1 lt sub R⟩) fun _ _ e => e) fun _ _ e => e) hs
theorem comp_rows_s {y : Str} {py spos : Pos} {elt iter target : Expr} {scope : Scope} {cl : List (Str × Addr)} {pos : Pos} {Q : Flow → Shared → Prop} {n : Nat} {Bd : Nat → (Str → Option Value) → Prop} {g : Nat → List Int} {news : List (Addr × Obj)} (off : List Addr) (_F₀ : Fr h₀ L s.heap m) (_N₀ : News h₀ L s.heap news)
    (hoff : ∀ a ∈ off, ∃ o, (a, o) ∈ news)
    (hsw : swapsWith (.ListComp elt [⟨target, iter, [], 0⟩] scope pos) (some (.Name y py)) spos.line env = pure true) (hy : env.kindOf y = some .local) (hp : (env.scope.kind == .class || (env.scope.kind == .module && env.locals != env.globals)) = false) (hL : env.locals = L)
    (hclos : closureFor scope env = pure cl) (hcell : ∀ y ∈ scope.names, y.2 ≠ .cell) (hkind : scope.kind = .function)
    (hnames : ∀ y ∈ scope.names, y.2 = .local → scope.names.lookup y.1 = some .local) (hsz : n ≤ sizeLine)
    (elem : CRow prog w A h₀ L m env elt scope cl n Bd g news)
    (h : wpAny (model prog w) A (eval iter env) (fun xv s₁ => wpAny (model prog w) A (pyIter xv) (fun it s₂ => CSrc prog w A h₀ L m env scope cl target n Bd news it s₂ ∧
      ∀ D vs k led h tk, Fr h₀ L h (fun z => if z = y then some (.ref D) else m z) → News h₀ L h ((D, listOf vs.toArray k) :: led) → (∀ p ∈ led, p.1 ≠ D) → (∀ p ∈ news, p.1 < D) → (∀ q ∈ news, q ∈ led) → Rows (D :: off) vs ((List.range n).map g) led → Q .next { s₂ with heap := h, toks := tk }) E s₁) E s)
    (hs : ∀ x, foldedSetIterable iter env x = pure x := by intro _; rfl) :
    wpAny (model prog w) A (exec (.Assign [.Name y py] (.ListComp elt [⟨target, iter, [], 0⟩] scope pos) spos) env) Q E s := by
  refine assign_used hsw ?_
  show wpAny _ A (do let _ ← comprehension (.ListComp elt [⟨target, iter, [], 0⟩] scope pos) scope env _ (newList []) false (eval iter env) (some (assign (.Name y py) env))) _ _ s
  exact wpAny_bind (wpAny_mono (comp_rows_u (Q := fun _ s' => Q .next s') off _F₀ _N₀ hoff hclos hcell hkind hnames hsz elem (wpAny_mono h (fun xv s₁ h₁ => wpAny_mono h₁ (fun it s₂ h₂ => ⟨h₂.1, fun D vs k led h tk C m' F N o1 lt sub R hn hC₀ hCL hCD hCl => post_some hy hp hL F N hn hC₀ hCL hCD hCl fun h'' tk'' F' N' => h₂.2 D vs k led h'' tk'' F' N' o1 lt sub R⟩) fun _ _ e => e) fun _ _ e => e) hs) (fun _ s' hq => wpAny_pure hq) fun _ _ e => e)
end
end
section
open PySem.Calls PyProof.Rows.LCg
noncomputable abbrev cellObj (v : Option Value) : Obj := { cls := .type "cell", data := .cell v }
section
variable {prog : Program} {w : World} {A : Around} {E : Value → Shared → Prop} {s : Shared} {h₀ : Heap} {L : Addr} {m : Str → Option Value} {env : Env}
theorem newEnv_cell {M : Model} {scope : Scope} {cl : List (Str × Addr)} {x : Str} {qual : Str} {globals : Addr} {Q : Env → Shared → Prop} (hpush : ∀ h, pushCells h scope.names = h.push (cellObj none)) (hcf : ∀ n, cellsFrom n scope.names cl = (x, n) :: cl)
    (hQ : Q { scope := scope, locals := s.heap.objs.size, globals := globals, cells := (x, s.heap.objs.size + 1) :: cl, qual := qual, func := none, code := env.code, frame := env.frame, builtins := env.builtins } { s with heap := (s.heap.push { cls := .type "dict", data := .dict #[] }).push (cellObj none) }) :
    wpAny M A (newFunctionEnv scope globals cl [] qual none .none (some env)) Q E s := by
  simp only [newFunctionEnv, Option.isSome_some, if_true]
  refine wpAny_bind (wpAny_alloc ?_)
  refine wpAny_bind (wpAny_layCells _ (fun name kind cells => by cases hkc : kind == NameKind.cell <;> simp [hkc]) _ _ _ _ ?_)
  rw [hpush, hcf, Heap.size_push]
  exact wpAny_bind (wpAny_pure (wpAny_pure hQ))

noncomputable def CRowC (prog : Program) (w : World) (A : Around) (h₀ : Heap) (L : Addr) (m : Str → Option Value) (env : Env) (elt : Expr) (scope : Scope) (cl : List (Str × Addr)) (x : Str) (n : Nat) (V : Nat → Value → Prop) (g : Nat → List Int) (news : List (Addr × Obj)) : Prop :=
  ∀ (s : Shared) i C c oC oc m₂ v rest (E' : Value → Shared → Prop), i < n → NsObj oC m₂ → oc.data = .cell (some v) → V i v → Fr h₀ L s.heap m → News h₀ L s.heap ((C, oC) :: (c, oc) :: rest) → (∀ p ∈ news, p ∈ rest) →
    wpAny (model prog w) A (eval elt (compEnvC scope ((x, c) :: cl) C env)) (RowPost h₀ L m s (g i) ((C, oC) :: (c, oc) :: rest)) E' s

noncomputable def RSrc (h₀ : Heap) (L : Addr) (m : Str → Option Value) (news : List (Addr × Obj)) (n : Nat) (K : Shared → Prop) (xv : Value) (s₁ : Shared) : Prop :=
  ∃ r b t u v', xv = .ref r ∧ IsRange s₁.heap r 0 b 1 t u v' ∧ Builtin.Range.small 0 b 1 = true ∧ Builtin.Range.rangeSize 0 b 1 = ((n : Nat) : Int) ∧ Fr h₀ L s₁.heap m ∧ News h₀ L s₁.heap news ∧ K s₁
inductive CellInv (h₀ : Heap) (L : Addr) (m : Str → Option Value) (s₁ : Shared) (I n : Nat) (g : Nat → List Int) (off : List Addr) (news : List (Addr × Obj)) : Nat → Shared → Prop
  | mk {k : Nat} (h' : Heap) (tk i : Nat) (ys : List Value) (m' : Str → Option Value) (news' : List (Addr × Obj)) (oc : Obj) (vc : Option Value) (hi : i ≤ n) (hk : k = n + 1 - i) (hyl : ys.length = i) (hst : IsRangeIter h' I (0 + (i : Nat) * 1) ((n : Int) - (i : Nat)) 1) (F : Fr h₀ L h' m) (hn : h'.Ns (I + 2) m')
      (hc : h'.get? (I + 2 + 1) = some oc) (hcd : oc.data = .cell vc) (N : News h₀ L h' ((I + 1, lst ys) :: news')) (ho : ∀ p ∈ news', p.1 ∉ [I, I + 1, I + 2, I + 2 + 1]) (hs : ∀ q ∈ news, q ∈ news') (hys : Rows ((I + 1) :: off) ys ((List.range i).map g) news') : CellInv h₀ L m s₁ I n g off news k { s₁ with heap := h', toks := tk }
theorem comp_rows_cell_u {use : Option (Value → Sem Unit)} {cpos : Pos} {elt iter : Expr} {x : Str} {px : Pos} {scope : Scope} {cl : List (Str × Addr)} {pos : Pos} {Q : Value → Shared → Prop} {n : Nat} {g : Nat → List Int} {news : List (Addr × Obj)} (off : List Addr) (_F₀ : Fr h₀ L s.heap m) (_N₀ : News h₀ L s.heap news)
    (hh : A.handled = none) (hoff : ∀ a ∈ off, ∃ o, (a, o) ∈ news)
    (hclos : closureFor scope env = pure cl) (hpush : ∀ h, pushCells h scope.names = h.push (cellObj none)) (hcf : ∀ n, cellsFrom n scope.names cl = (x, n) :: cl) (hkx : ∀ c C, (compEnvC scope ((x, c) :: cl) C env).kindOf x = some .cell) (hkind : scope.kind = .function)
    (hnames : ∀ y ∈ scope.names, y.2 = .local → scope.names.lookup y.1 = some .local) (hsz : n ≤ sizeLine)
    (elem : CRowC prog w A h₀ L m env elt scope cl x n (fun i v => ∃ t, v = .int (0 + (i : Int)) t) g news)
    (h : wpAny (model prog w) A (eval iter env) (RSrc h₀ L m news n fun s₁ => ∀ D vs k led h tk C m', Fr h₀ L h m → News h₀ L h ((D, listOf vs.toArray k) :: led) → (∀ p ∈ led, p.1 ≠ D) → (∀ p ∈ news, p.1 < D) → (∀ q ∈ news, q ∈ led) → Rows (D :: off) vs ((List.range n).map g) led → h.Ns C m' → h₀.get? C = none → C ≠ L → C ≠ D → (∀ p ∈ led, p.1 ≠ C) → compPost (model prog w) A E use Q (.ref D) C (.ok .next) { s₁ with heap := h, toks := tk }) E s)
    (hs : ∀ x, foldedSetIterable iter env x = pure x := by intro _; rfl) :
    wpAny (model prog w) A (comprehension (.ListComp elt [⟨.Name x px, iter, [], 0⟩] scope pos) scope env cpos (newList []) false (eval iter env) use) Q E s := by
  refine wpAny_comprehension_free (use := use) rfl hs hclos hkind hnames (wpAny_mono h (fun xv s₁ h₁ => ?_) fun _ _ e => e)
  obtain ⟨r, b, t, u, v', rfl, hr, hsm, hn, F₁, N₁, fin⟩ := h₁
  refine wpAny_pyIter_range hr hsm ?_
  have W := KTurns.ofWalks (target := .Name x px) (range_walks (prog := prog) (w := w) (A := A) (I := s₁.heap.objs.size) hh 0 n) (fun i v s Q E _ hQ => wpAny_pure hQ)
  have self := (range_walks (prog := prog) (w := w) (A := A) (I := s₁.heap.objs.size) hh 0 n).self
  have hst0 : IsRangeIter (s₁.heap.push { cls := .type "range_iterator", data := .fields #[rawInt 0, rawInt (Builtin.Range.rangeSize 0 b 1), rawInt 1] }) s₁.heap.objs.size (0 + ((0 : Nat) : Int) * 1) ((n : Int) - ((0 : Nat) : Int)) 1 := by
    show IsRangeIter _ _ _ _ _
    rw [hn]; simpa using Heap.get?_push_size _ rfl
  generalize hI : s₁.heap.objs.size = I at W self hst0
  generalize hHI : (s₁.heap.push { cls := .type "range_iterator", data := .fields #[rawInt 0, rawInt (Builtin.Range.rangeSize 0 b 1), rawInt 1] }) = HI at hst0
  have kI : ∀ b o, s₁.heap.get? b = some o → HI.get? b = some o := fun b o e => hHI ▸ Heap.get?_push_of_some _ e
  have sI : HI.objs.size = I + 1 := by rw [← hHI, Heap.size_push, hI]
  refine wpAny_newObj_type (newEnv_cell hpush hcf ?_)
  dsimp only
  generalize hH2 : HI.push { cls := .type "list", dict := none, data := .seq ([] : List Value).toArray } = H2
  have hD : HI.objs.size = I + 1 := sI
  have hC : H2.objs.size = I + 2 := by rw [← hH2, Heap.size_push, hD]
  rw [hC]
  generalize hh1 : (H2.push { cls := .type "dict", data := .dict #[] }).push (cellObj none) = h₁
  have old2 : ∀ b o, HI.get? b = some o → H2.get? b = some o := fun b o e => hH2 ▸ Heap.get?_push_of_some _ e
  have old1 : ∀ b o, H2.get? b = some o → h₁.get? b = some o := fun b o e => hh1 ▸ Heap.get?_push_of_some _ (Heap.get?_push_of_some _ e)
  have old : ∀ b o, s₁.heap.get? b = some o → h₁.get? b = some o := fun b o e => old1 b o (old2 b o (kI b o e))
  have gD : h₁.get? (I + 1) = some (lst []) := old1 _ _ (hH2 ▸ hD ▸ Heap.get?_push_size _ rfl)
  have gC : h₁.get? (I + 2) = some { cls := .type "dict", data := .dict #[] } := by
    rw [← hh1]; exact Heap.get?_push_of_some _ (hC ▸ Heap.get?_push_size _ rfl)
  have gc : h₁.get? (I + 2 + 1) = some (cellObj none) := by
    rw [← hh1]
    have : (H2.push { cls := .type "dict", data := .dict #[] }).objs.size = I + 2 + 1 := by rw [Heap.size_push, hC]
    exact this ▸ Heap.get?_push_size _ rfl
  have nsC : h₁.Ns (I + 2) (fun _ => none) := ⟨_, #[], _, gC, rfl, fun e he => absurd he (by simp), fun _ => rfl⟩
  have hst₁ := W.frame _ _ h₁ hst0 fun b _ o e => old1 b o (old2 b o e)
  have hLI : L < I := hI ▸ F₁.ns.lt
  have fresh₀ : ∀ a, I ≤ a → h₀.get? a = none := fun a ha => Heap.get?_none_of_le (Nat.le_trans F₁.above (Nat.le_trans (Nat.le_of_lt hLI) ha))
  have nlt : ∀ p ∈ news, p.1 < I := fun p hp => hI ▸ Heap.lt_size (N₁ p hp).1
  have loop : codeAny (model prog w) A (.compLoop (.ListComp elt [⟨.Name x px, iter, [], 0⟩] scope pos) 0 (.ref I) (.ref (I + 1)) (compEnvC scope ((x, I + 2 + 1) :: cl) (I + 2) env))
      (compPost (model prog w) A E use Q (.ref (I + 1)) (I + 2)) { s₁ with heap := h₁ } := by
    refine comp_turns
      (CellInv h₀ L m s₁ I n g off news) ?_ (n + 1)
      (CellInv.mk (k := n + 1) h₁ _ 0 [] _ news _ _ (Nat.zero_le _) rfl rfl hst₁ (F₁.keeps old) nsC gc rfl (fun p hp => ?_) (fun p hp hm => ?_) (fun _ h => h) ⟨rfl, fun i hi => absurd hi (Nat.not_lt_zero _)⟩)
    · rintro k s' ⟨h', tk, i, ys, m', news', oc, vc, hi, rfl, hyl, hst', F', hn', hc', hcd, N', off', hsub, hys⟩
      have next : ∀ h₂ : Heap, (∀ b o, b ∉ [I] → h'.get? b = some o → h₂.get? b = some o) → Fr h₀ L h₂ m ∧ News h₀ L h₂ ((I + 1, lst ys) :: news') ∧ h₂.Ns (I + 2) m' ∧ h₂.get? (I + 2 + 1) = some oc := fun h₂ hk => by
        have nI : ∀ {b : Nat}, b ≠ I → b ∉ [I] := fun hb hm => hb (List.mem_singleton.mp hm)
        refine ⟨⟨F'.ns.at' fun o e => hk _ o (nI (Nat.ne_of_lt hLI)) e, fun b o e => hk b o (nI fun q => by rw [q, fresh₀ I (Nat.le_refl _)] at e; cases e) (F'.keep b o e), F'.above⟩, fun p hp => ⟨hk _ _ (nI ?_) (N' p hp).1, (N' p hp).2⟩,
          hn'.at' fun o e => hk _ o (nI (by show @Ne Nat _ _; omega)) e, hk _ _ (nI (by show @Ne Nat _ _; omega)) hc'⟩
        rcases List.mem_cons.mp hp with rfl | hp
        · show @Ne Nat _ _; exact Nat.succ_ne_self I
        · exact fun e => off' p hp (by rw [show p.1 = I from e]; exact .head _)
      by_cases hlt : i < n
      · refine W.item i _ _ _ hlt hst' fun v h₂ tk₂ hMd hk₂ => W.go i v _ _ _ hMd fun h₃ hP hst₃ hk₃ => ?_
        obtain ⟨F₃, N₃, hn₃, hc₃⟩ := next h₃ fun b o hb x => hk₃ b o hb (hk₂ b o hb x)
        refine wpAny_assign_Name (wpAny_storeName_cell hkind (hkx _ _) (c := I + 2 + 1) (by simp [compEnvC]) ⟨oc, hc₃, hcd⟩ fun h₄ hc₄ hs₄ => ?_)
        obtain ⟨oc₄, hoc₄, hcd₄⟩ := hc₄
        have k4 : ∀ b o, b ≠ I + 2 + 1 → h₃.get? b = some o → h₄.get? b = some o := fun b o hb e => hs₄.extBut b o hb e
        have hst₄ := W.frame _ _ h₄ hst₃ fun b hb o e => k4 b o (by rw [List.mem_singleton.mp hb]; show @Ne Nat _ _; omega) e
        have hn₄ : h₄.Ns (I + 2) m' := hn₃.at' fun o e => k4 _ o (Nat.ne_of_lt (Nat.lt_succ_self _)) e
        have F₄ : Fr h₀ L h₄ m := ⟨F₃.ns.at' fun o e => k4 _ o (Nat.ne_of_lt (Nat.lt_of_lt_of_le hLI (Nat.le_add_right I 3))) e, fun b o e => k4 b o (fun q => by rw [q, fresh₀ _ (by omega)] at e; cases e) (F₃.keep b o e), F₃.above⟩
        obtain ⟨oC, heC, hoC⟩ := ns_obj hn₄
        have hIo : ∃ oI, h₄.get? I = some oI := ⟨_, hst₄⟩
        obtain ⟨oI, hIo⟩ := hIo
        have hneL : ∀ j : Nat, I + j ≠ L := fun j e => absurd hLI (by rw [← e]; exact Nat.not_lt.mpr (Nat.le_add_right I j))
        have N₄ : News h₀ L h₄ ((I + 2, oC) :: (I + 2 + 1, oc₄) :: ((I, oI) :: (I + 1, lst ys) :: news')) := fun p hp => by
          have keepN : ∀ q ∈ (I + 1, lst ys) :: news', h₄.get? q.1 = some q.2 ∧ q.1 ≠ L ∧ h₀.get? q.1 = none := fun q hq => by
            refine ⟨k4 _ _ ?_ (N₃ q hq).1, (N₃ q hq).2⟩
            rcases List.mem_cons.mp hq with rfl | hq
            · show @Ne Nat _ _; omega
            · exact fun e => off' q hq (by rw [show q.1 = I + 2 + 1 from e]; simp)
          rcases List.mem_cons.mp hp with rfl | hp
          · exact ⟨heC, hneL 2, fresh₀ _ (by omega)⟩
          rcases List.mem_cons.mp hp with rfl | hp
          · exact ⟨hoc₄, hneL 3, fresh₀ _ (by omega)⟩
          rcases List.mem_cons.mp hp with rfl | hp
          · exact ⟨hIo, hneL 0, fresh₀ _ (Nat.le_refl _)⟩
          · exact keepN _ hp
        refine wpAny_tests_nil ?_
        simp only [if_true]
        refine wpAny_mono (elem { s₁ with heap := h₄, toks := tk₂ } i (I + 2) (I + 2 + 1) oC oc₄ m' v _ _ hlt hoC hcd₄ hP F₄ N₄ fun p hp => .tail _ (.tail _ (hsub p hp))) (fun y s₅ h₅ => ?_) fun _ _ e => e
        obtain ⟨bb, its, kk, h₅, tk₅, rfl, rfl, F₅, N₅, hne, hI5⟩ := h₅
        have zC := (N₅ (I + 2, oC) (.tail _ (.head _))).1
        have zc := (N₅ (I + 2 + 1, oc₄) (.tail _ (.tail _ (.head _)))).1
        have zI := (N₅ (I, oI) (.tail _ (.tail _ (.tail _ (.head _))))).1
        have zD := (N₅ (I + 1, lst ys) (.tail _ (.tail _ (.tail _ (.tail _ (.head _)))))).1
        refine append_at (hsz := by show ys.toArray.size ≤ sizeLine; rw [List.size_toArray]; omega) zD fun h₆ hs₆ hD₆ => ?_
        have k6 : ∀ b o, b ≠ I + 1 → h₅.get? b = some o → h₆.get? b = some o := fun b o hb e => hs₆.extBut b o hb e
        have hst₅ : IsRangeIter h₆ I (0 + ((i + 1 : Nat) : Int) * 1) ((n : Int) - ((i + 1 : Nat) : Int)) 1 := by
          have e1 : h₄.get? I = some { cls := .type "range_iterator", dict := none, data := .fields #[rawInt (0 + ((i + 1 : Nat) : Int) * 1), rawInt ((n : Int) - ((i + 1 : Nat) : Int)), rawInt 1], slots := #[] } := hst₄
          have e2 := e1.symm.trans hIo
          exact k6 _ _ (by show @Ne Nat _ _; omega) (zI.trans e2.symm)
        have bo : bb ∉ [I, I + 1, I + 2, I + 2 + 1] := fun hm => by
          simp only [List.mem_cons, List.not_mem_nil, or_false] at hm
          rcases hm with e | e | e | e
          · exact hne (I, oI) (.tail _ (.tail _ (.head _))) e.symm
          · exact hne (I + 1, lst ys) (.tail _ (.tail _ (.tail _ (.head _)))) e.symm
          · exact hne (I + 2, oC) (.head _) e.symm
          · exact hne (I + 2 + 1, oc₄) (.tail _ (.head _)) e.symm
        refine ⟨n + 1 - (i + 1), by omega, CellInv.mk h₆ tk₅ (i + 1) (ys ++ [.ref bb]) m' ((bb, listOf its.toArray kk) :: news') oc₄ _ hlt rfl (by rw [List.length_append, List.length_singleton]; omega) hst₅ (F₅.change hs₆ (hneL 1) (fresh₀ _ (by omega)))
          ((hoC.ns zC).sameBut hs₆ (by show @Ne Nat _ _; omega)) (k6 _ _ (by show @Ne Nat _ _; omega) zc) hcd₄ (fun p hp => ?_) (fun p hp => ?_) (fun q hq => .tail _ (hsub q hq)) ?_⟩
        · rcases List.mem_cons.mp hp with rfl | hp
          · exact ⟨hD₆.trans (congrArg some (lst_snoc ys _)), hneL 1, fresh₀ _ (by omega)⟩
          · rcases List.mem_cons.mp hp with rfl | hp
            · have z := N₅ _ (.head _)
              exact ⟨k6 _ _ (fun e => bo (by rw [show bb = I + 1 from e]; simp)) z.1, z.2⟩
            · have z := N₅ p (.tail _ (.tail _ (.tail _ (.tail _ (.tail _ hp)))))
              exact ⟨k6 _ _ (fun e => off' p hp (by rw [show p.1 = I + 1 from e]; simp)) z.1, z.2⟩
        · rcases List.mem_cons.mp hp with rfl | hp
          · exact bo
          · exact off' p hp
        · have hbo : bb ∉ (I + 1) :: off := fun hm => by
            rcases List.mem_cons.mp hm with e | hm
            · exact bo (by rw [e]; simp)
            · obtain ⟨o, ho⟩ := hoff bb hm
              exact hne _ (.tail _ (.tail _ (.tail _ (.tail _ (hsub _ ho))))) rfl
          rw [List.range_succ, List.map_append]
          refine ⟨by rw [List.length_append, List.length_append, hys.1]; rfl, fun j hj => ?_⟩
          rw [List.length_append, List.length_map, List.length_range] at hj
          by_cases hji : j < i
          · obtain ⟨b', its', k', h1, h2, h3, h4⟩ := hys.2 j (by rw [List.length_map, List.length_range]; exact hji)
            refine ⟨b', its', k', by rw [List.getElem?_append_left (by omega)]; exact h1, .tail _ h2, ?_, h4⟩
            rw [List.getD_eq_getElem?_getD, List.getElem?_append_left (by rw [List.length_map, List.length_range]; exact hji), ← List.getD_eq_getElem?_getD]
            exact h3
          · obtain rfl : j = i := by simp at hj; omega
            refine ⟨bb, its, kk, ?_, .head _, ?_, hbo⟩
            · rw [List.getElem?_append_right (by omega), hyl, Nat.sub_self]; rfl
            · rw [List.getD_eq_getElem?_getD, List.getElem?_append_right (by rw [List.length_map, List.length_range]; exact Nat.le_refl _), List.length_map, List.length_range, Nat.sub_self]
              exact hI5
      · obtain rfl : i = n := Nat.le_antisymm hi (Nat.not_lt.mp hlt)
        refine W.done _ _ _ hst' fun h₂ tk₂ hk₂ => ?_
        obtain ⟨F₂, N₂, hn₂, hc₂⟩ := next h₂ hk₂
        have hneL : ∀ j : Nat, I + j ≠ L := fun j e => absurd hLI (by rw [← e]; exact Nat.not_lt.mpr (Nat.le_add_right I j))
        exact fin (I + 1) ys ys.length news' h₂ tk₂ (I + 2) m' F₂ N₂ (fun p hp e => off' p hp (by rw [show p.1 = I + 1 from e]; simp)) (fun p hp => Nat.lt_succ_of_lt (nlt p hp)) hsub hys hn₂ (fresh₀ _ (by omega)) (hneL 2) (by show @Ne Nat _ _; omega) fun p hp e => off' p hp (by rw [show p.1 = I + 2 from e]; simp)
    · rcases List.mem_cons.mp hp with rfl | hp
      · have hneL : I + 1 ≠ L := fun e => absurd hLI (by rw [← e]; exact Nat.not_lt.mpr (Nat.le_add_right I 1))
        exact ⟨gD, hneL, fresh₀ _ (by omega)⟩
      · exact ⟨old _ _ (N₁ p hp).1, (N₁ p hp).2⟩
    · have hl : @LT.lt Nat _ p.1 I := nlt p hp
      simp only [List.mem_cons, List.not_mem_nil, or_false] at hm
      rcases hm with e | e | e | e <;> (rw [e] at hl; omega)
  rw [hD]
  exact codeAny_compStart_list loop (self 0 _ _ _ hst₁ loop)
theorem comp_rows_cell_s {y : Str} {py spos : Pos} {elt iter : Expr} {x : Str} {px : Pos} {scope : Scope} {cl : List (Str × Addr)} {pos : Pos} {Q : Flow → Shared → Prop} {n : Nat} {g : Nat → List Int} {news : List (Addr × Obj)} (off : List Addr) (_F₀ : Fr h₀ L s.heap m) (_N₀ : News h₀ L s.heap news)
    (hh : A.handled = none) (hoff : ∀ a ∈ off, ∃ o, (a, o) ∈ news)
    (hsw : swapsWith (.ListComp elt [⟨.Name x px, iter, [], 0⟩] scope pos) (some (.Name y py)) spos.line env = pure true) (hy : env.kindOf y = some .local) (hp : (env.scope.kind == .class || (env.scope.kind == .module && env.locals != env.globals)) = false) (hL : env.locals = L)
    (hclos : closureFor scope env = pure cl) (hpush : ∀ h, pushCells h scope.names = h.push (cellObj none)) (hcf : ∀ n, cellsFrom n scope.names cl = (x, n) :: cl) (hkx : ∀ c C, (compEnvC scope ((x, c) :: cl) C env).kindOf x = some .cell) (hkind : scope.kind = .function)
    (hnames : ∀ y ∈ scope.names, y.2 = .local → scope.names.lookup y.1 = some .local) (hsz : n ≤ sizeLine)
    (elem : CRowC prog w A h₀ L m env elt scope cl x n (fun i v => ∃ t, v = .int (0 + (i : Int)) t) g news)
    (h : wpAny (model prog w) A (eval iter env) (RSrc h₀ L m news n fun s₁ => ∀ D vs k led h tk, Fr h₀ L h (fun z => if z = y then some (.ref D) else m z) → News h₀ L h ((D, listOf vs.toArray k) :: led) → (∀ p ∈ led, p.1 ≠ D) → (∀ p ∈ news, p.1 < D) → (∀ q ∈ news, q ∈ led) → Rows (D :: off) vs ((List.range n).map g) led → Q .next { s₁ with heap := h, toks := tk }) E s)
    (hs : ∀ x, foldedSetIterable iter env x = pure x := by intro _; rfl) :
    wpAny (model prog w) A (exec (.Assign [.Name y py] (.ListComp elt [⟨.Name x px, iter, [], 0⟩] scope pos) spos) env) Q E s := by
  refine assign_used hsw ?_
  show wpAny _ A (do let _ ← comprehension (.ListComp elt [⟨.Name x px, iter, [], 0⟩] scope pos) scope env _ (newList []) false (eval iter env) (some (assign (.Name y py) env))) _ _ s
  refine wpAny_bind (wpAny_mono (comp_rows_cell_u (Q := fun _ s' => Q .next s') off _F₀ _N₀ hh hoff hclos hpush hcf hkx hkind hnames hsz elem (wpAny_mono h (fun xv s₁ h₁ => ?_) fun _ _ e => e) hs) (fun _ s' hq => wpAny_pure hq) fun _ _ e => e)
  obtain ⟨r, b, t, u, v', e1, e2, e3, e4, e5, e6, fin⟩ := h₁
  exact ⟨r, b, t, u, v', e1, e2, e3, e4, e5, e6, fun D vs k led h tk C m' F N o1 lt sub R hn hC₀ hCL hCD hCl => post_some hy hp hL F N hn hC₀ hCL hCD hCl fun h'' tk'' F' N' => fin D vs k led h'' tk'' F' N' o1 lt sub R⟩
end
end
section
open PySem.Calls PyProof.Rows.LCg PySem.W.KBw
/-- a list of lists of ints that stands in the heap -/
noncomputable def GRows (h : Heap) (a : Addr) (M : List (List Int)) : Prop := ∃ vs : List Value, h.IsList a vs.toArray ∧ vs.length = M.length ∧ ∀ i, i < M.length → ∃ b its, vs[i]? = some (.ref b) ∧ h.IsList b its.toArray ∧ IntsAre its (M.getD i [])
noncomputable def Mat (n : Nat) (M : List (List Int)) : Prop := M.length = n ∧ ∀ r ∈ M, r.length = n ∧ ∀ x ∈ r, Oct x
noncomputable def mulRow (r : List Int) (f : Int) : List Int := r.map fun x => mulI x f
noncomputable def addRow (r q : List Int) : List Int := List.zipWith Builtin.bitXor r q
noncomputable def ent (M : List (List Int)) (i j : Nat) : Int := (M.getD i []).getD j 0
noncomputable def picks (n at_ : Nat) (M : List (List Int)) : List Int := ((List.range (n - at_)).filter fun k => decide (ent M (at_ + k) at_ ≠ 0)).map fun (k : Nat) => ((at_ : Int) + (k : Int))
noncomputable def swapR (M : List (List Int)) (i j : Nat) : List (List Int) := (M.set i (M.getD j [])).set j (M.getD i [])
noncomputable def elim1 (at_ p : Nat) (f : Int) (M : List (List Int)) : List (List Int) := M.set p (addRow (M.getD p []) (mulRow (M.getD at_ []) f))
noncomputable def elims (at_ : Nat) : Nat → List (List Int) × List (List Int) → List (List Int) × List (List Int)
  | 0, P => P
  | p+1, P => let Q := elims at_ p P; if p = at_ then Q else (elim1 at_ p (ent Q.1 p at_) Q.1, elim1 at_ p (ent Q.1 p at_) Q.2)
noncomputable def pivot (at_ first : Nat) (P : List (List Int) × List (List Int)) : List (List Int) × List (List Int) :=
  let L := swapR P.1 at_ first
  let R := swapR P.2 at_ first
  (L.set at_ (mulRow (L.getD at_ []) (powI (ent L at_ at_) 254)), R.set at_ (mulRow (R.getD at_ []) (powI (ent L at_ at_) 254)))
noncomputable def ident (n : Nat) : List (List Int) := (List.range n).map fun at_ => (List.range n).map fun place => if place = at_ then 1 else 0
noncomputable def turnIter (n : Nat) (M : List (List Int)) : Nat → Option (List (List Int) × List (List Int))
  | 0 => some (M, ident n)
  | at_+1 => match turnIter n M at_ with
    | none => none
    | some P => match picks n at_ P.1 with
      | [] => none
      | f :: _ => some (elims at_ n (pivot at_ f.toNat P))
theorem turnIter_none {n : Nat} {M : List (List Int)} {k : Nat} (h : turnIter n M k = none) : ∀ j, k ≤ j → turnIter n M j = none := by
  intro j hj
  induction j with
  | zero => rwa [Nat.le_zero.mp hj] at h
  | succ j ih =>
    by_cases e : k = j + 1
    · rwa [e] at h
    · show (match turnIter n M j with | none => none | some P => _) = none
      rw [ih (by omega)]
noncomputable def turnedI (n : Nat) (M : List (List Int)) : Option (List (List Int)) := (turnIter n M n).map (·.2)

theorem mat_getD {n : Nat} {M : List (List Int)} (h : Mat n M) {i : Nat} (hi : i < n) : (M.getD i []).length = n ∧ ∀ x ∈ M.getD i [], Oct x := by
  refine h.2 _ ?_
  rw [List.getD_eq_getElem?_getD, List.getElem?_eq_getElem (by rw [h.1]; exact hi)]
  exact List.getElem_mem _
theorem mat_set {n : Nat} {M : List (List Int)} {r : List Int} (h : Mat n M) (i : Nat) (hl : r.length = n) (ho : ∀ x ∈ r, Oct x) : Mat n (M.set i r) :=
  ⟨by rw [List.length_set]; exact h.1, fun q hq => by
    rcases List.mem_or_eq_of_mem_set hq with hq | rfl
    · exact h.2 q hq
    · exact ⟨hl, ho⟩⟩
theorem oct_ent {n : Nat} {M : List (List Int)} (h : Mat n M) {i j : Nat} (hi : i < n) (hj : j < n) : Oct (ent M i j) := by
  obtain ⟨h1, h2⟩ := mat_getD h hi
  unfold ent
  generalize M.getD i [] = r at h1 h2 ⊢
  refine h2 _ ?_
  rw [List.getD_eq_getElem?_getD, List.getElem?_eq_getElem (by rw [h1]; exact hj)]
  exact List.getElem_mem _
theorem mat_swap {n : Nat} {M : List (List Int)} (h : Mat n M) {i j : Nat} (hi : i < n) (hj : j < n) : Mat n (swapR M i j) := by
  unfold swapR
  obtain ⟨a1, a2⟩ := mat_getD h hi
  obtain ⟨b1, b2⟩ := mat_getD h hj
  exact mat_set (mat_set h i b1 b2) j a1 a2
theorem octs_mulRow (r : List Int) (f : Int) : ∀ x ∈ mulRow r f, Oct x := fun x hx => by
  obtain ⟨y, _, rfl⟩ := List.mem_map.mp hx
  exact oct_mulI _ _
theorem mat_elim1 {n : Nat} {M : List (List Int)} (h : Mat n M) {a p : Nat} (f : Int) (ha : a < n) (hp : p < n) : Mat n (elim1 a p f M) := by
  unfold elim1
  obtain ⟨a1, a2⟩ := mat_getD h ha
  obtain ⟨b1, b2⟩ := mat_getD h hp
  refine mat_set h p ?_ (octs_zip b2 (octs_mulRow _ _))
  unfold addRow mulRow
  rw [List.length_zipWith, List.length_map]; omega
theorem mat_pivot {n : Nat} {P : List (List Int) × List (List Int)} (h1 : Mat n P.1) (h2 : Mat n P.2) {a f : Nat} (ha : a < n) (hf : f < n) : Mat n (pivot a f P).1 ∧ Mat n (pivot a f P).2 := by
  have s1 := mat_swap h1 ha hf
  have s2 := mat_swap h2 ha hf
  exact ⟨mat_set s1 a (by rw [mulRow, List.length_map]; exact (mat_getD s1 ha).1) (octs_mulRow _ _), mat_set s2 a (by rw [mulRow, List.length_map]; exact (mat_getD s2 ha).1) (octs_mulRow _ _)⟩
theorem mat_elims {n : Nat} {a : Nat} (ha : a < n) : ∀ k, k ≤ n → ∀ {P : List (List Int) × List (List Int)}, Mat n P.1 → Mat n P.2 → Mat n (elims a k P).1 ∧ Mat n (elims a k P).2 := by
  intro k
  induction k with
  | zero => intro _ P h1 h2; exact ⟨h1, h2⟩
  | succ k ih =>
    intro hk P h1 h2
    obtain ⟨i1, i2⟩ := ih (by omega) h1 h2
    show Mat n (if k = a then _ else _ : _ × _).1 ∧ Mat n (if k = a then _ else _ : _ × _).2
    split
    · exact ⟨i1, i2⟩
    · exact ⟨mat_elim1 i1 _ ha (by omega), mat_elim1 i2 _ ha (by omega)⟩
theorem mat_ident (n : Nat) : Mat n (ident n) := by
  refine ⟨by rw [ident, List.length_map, List.length_range], fun r hr => ?_⟩
  obtain ⟨i, _, rfl⟩ := List.mem_map.mp hr
  refine ⟨by rw [List.length_map, List.length_range], fun x hx => ?_⟩
  obtain ⟨j, _, rfl⟩ := List.mem_map.mp hx
  split
  · exact ⟨by decide, by decide⟩
  · exact oct_zero
theorem mem_picks {n a : Nat} {M : List (List Int)} {f : Int} (h : f ∈ picks n a M) : ∃ k : Nat, f = (k : Int) ∧ a ≤ k ∧ k < n ∧ ent M k a ≠ 0 := by
  obtain ⟨k, hk, rfl⟩ := List.mem_map.mp h
  obtain ⟨h1, h2⟩ := List.mem_filter.mp hk
  have := List.mem_range.mp h1
  exact ⟨a + k, by omega, by omega, by omega, by simpa using h2⟩
theorem mat_turnIter {n : Nat} {M : List (List Int)} (h : Mat n M) : ∀ k, k ≤ n → ∀ P, turnIter n M k = some P → Mat n P.1 ∧ Mat n P.2 := by
  intro k
  induction k with
  | zero => intro _ P e; cases e; exact ⟨h, mat_ident n⟩
  | succ k ih =>
    intro hk P e
    cases ht : turnIter n M k with
    | none => rw [turnIter, ht] at e; cases e
    | some P0 =>
      obtain ⟨i1, i2⟩ := ih (by omega) P0 ht
      cases hp : picks n k P0.1 with
      | nil => rw [turnIter, ht] at e; dsimp only at e; rw [hp] at e; cases e
      | cons f r =>
        rw [turnIter, ht] at e; dsimp only at e; rw [hp] at e
        obtain ⟨j, rfl, _, hj, _⟩ := mem_picks (hp ▸ List.mem_cons_self : f ∈ picks n k P0.1)
        cases e
        obtain ⟨m1, m2⟩ := mat_pivot i1 i2 (show k < n by omega) hj
        exact mat_elims (by omega) n (Nat.le_refl n) m1 m2
end
section
open PySem.Calls PyProof.Rows.LCg PySem.W.KBw
/-- what stands while a square is turned -/
structure TF (n : Nat) (c1 c2 c3 : Addr) (vA : Option Value) (aL : Addr) (kL : Nat) (vsL : List Value) (aR : Addr) (kR : Nat) (vsR : List Value) (P : List (List Int) × List (List Int)) (led : List (Addr × Obj)) : Prop where
  cM : ∃ o t, (c1, o) ∈ led ∧ o.data = .cell (some (.int (n : Int) t))
  cL : ∃ o, (c2, o) ∈ led ∧ o.data = .cell (some (.ref aL))
  cA : ∃ o, (c3, o) ∈ led ∧ o.data = .cell vA
  mL : (aL, listOf vsL.toArray kL) ∈ led
  mR : (aR, listOf vsR.toArray kR) ∈ led
  n12 : c1 ≠ c2
  n13 : c1 ≠ c3
  n23 : c2 ≠ c3
  nLR : aL ≠ aR
  nL : aL ∉ [c1, c2, c3]
  nR : aR ∉ [c1, c2, c3]
  rL : Rows [aL, aR, c1, c2, c3] vsL P.1 led
  rR : Rows [aL, aR, c1, c2, c3] vsR P.2 led
section
variable {n : Nat} {c1 c2 c3 : Addr} {vA : Option Value} {aL : Addr} {kL : Nat} {vsL : List Value} {aR : Addr} {kR : Nat} {vsR : List Value} {P : List (List Int) × List (List Int)} {led led' : List (Addr × Obj)}
theorem TF.grow (X : TF n c1 c2 c3 vA aL kL vsL aR kR vsR P led) (h : ∀ q ∈ led, q ∈ led') : TF n c1 c2 c3 vA aL kL vsL aR kR vsR P led' := by
  obtain ⟨⟨oM, tM, a1, a2⟩, ⟨oL, b1, b2⟩, ⟨oA, d1, d2⟩, e1, e2, n12, n13, n23, nLR, nL, nR, rL, rR⟩ := X
  exact ⟨⟨oM, tM, h _ a1, a2⟩, ⟨oL, h _ b1, b2⟩, ⟨oA, h _ d1, d2⟩, h _ e1, h _ e2, n12, n13, n23, nLR, nL, nR, rL.mono fun q hq _ => h q hq, rR.mono fun q hq _ => h q hq⟩
theorem TF.setA (X : TF n c1 c2 c3 vA aL kL vsL aR kR vsR P led) {o : Obj} {v : Option Value} (ho : o.data = .cell v) : TF n c1 c2 c3 v aL kL vsL aR kR vsR P (updL c3 o led) := by
  obtain ⟨⟨oM, tM, a1, a2⟩, ⟨oL, b1, b2⟩, ⟨oA, d1, d2⟩, e1, e2, n12, n13, n23, nLR, nL, nR, rL, rR⟩ := X
  simp only [List.mem_cons, List.not_mem_nil, or_false, not_or] at nL nR
  exact ⟨⟨oM, tM, mem_upd_ne a1 n13, a2⟩, ⟨oL, mem_upd_ne b1 n23, b2⟩, ⟨o, mem_upd_self d1, ho⟩, mem_upd_ne e1 nL.2.2, mem_upd_ne e2 nR.2.2, n12, n13, n23, nLR, by simp [nL], by simp [nR], rL.upd (by simp), rR.upd (by simp)⟩
theorem TF.setL (X : TF n c1 c2 c3 vA aL kL vsL aR kR vsR P led) (j : Nat) {b : Addr} {its : List Value} {k : Nat} {r : List Int} (hb : (b, listOf its.toArray k) ∈ led) (hI : IntsAre its r) (hoff : b ∉ [aL, aR, c1, c2, c3]) :
    TF n c1 c2 c3 vA aL kL (vsL.set j (.ref b)) aR kR vsR (P.1.set j r, P.2) (updL aL (listOf (vsL.set j (.ref b)).toArray kL) led) := by
  obtain ⟨⟨oM, tM, a1, a2⟩, ⟨oL, b1, b2⟩, ⟨oA, d1, d2⟩, e1, e2, n12, n13, n23, nLR, nL, nR, rL, rR⟩ := X
  have nL' := nL
  simp only [List.mem_cons, List.not_mem_nil, or_false, not_or] at nL'
  exact ⟨⟨oM, tM, mem_upd_ne a1 (Ne.symm nL'.1), a2⟩, ⟨oL, mem_upd_ne b1 (Ne.symm nL'.2.1), b2⟩, ⟨oA, mem_upd_ne d1 (Ne.symm nL'.2.2), d2⟩, mem_upd_self e1, mem_upd_ne e2 (Ne.symm nLR), n12, n13, n23, nLR, nL, nR, (rL.set j hb hI hoff).upd (by simp), rR.upd (by simp)⟩
theorem TF.setR (X : TF n c1 c2 c3 vA aL kL vsL aR kR vsR P led) (j : Nat) {b : Addr} {its : List Value} {k : Nat} {r : List Int} (hb : (b, listOf its.toArray k) ∈ led) (hI : IntsAre its r) (hoff : b ∉ [aL, aR, c1, c2, c3]) :
    TF n c1 c2 c3 vA aL kL vsL aR kR (vsR.set j (.ref b)) (P.1, P.2.set j r) (updL aR (listOf (vsR.set j (.ref b)).toArray kR) led) := by
  obtain ⟨⟨oM, tM, a1, a2⟩, ⟨oL, b1, b2⟩, ⟨oA, d1, d2⟩, e1, e2, n12, n13, n23, nLR, nL, nR, rL, rR⟩ := X
  have nR' := nR
  simp only [List.mem_cons, List.not_mem_nil, or_false, not_or] at nR'
  exact ⟨⟨oM, tM, mem_upd_ne a1 (Ne.symm nR'.1), a2⟩, ⟨oL, mem_upd_ne b1 (Ne.symm nR'.2.1), b2⟩, ⟨oA, mem_upd_ne d1 (Ne.symm nR'.2.2), d2⟩, mem_upd_ne e1 nLR, mem_upd_self e2, n12, n13, n23, nLR, nL, nR, rL.upd (by simp), (rR.set j hb hI hoff).upd (by simp)⟩
/-- a fresh object is none of those that are written -/
theorem TF.off (X : TF n c1 c2 c3 vA aL kL vsL aR kR vsR P led) {b : Addr} (h : ∀ q ∈ led, q.1 ≠ b) : b ∉ [aL, aR, c1, c2, c3] := by
  obtain ⟨⟨oM, tM, a1, a2⟩, ⟨oL, b1, b2⟩, ⟨oA, d1, d2⟩, e1, e2, _⟩ := X
  intro hm
  simp only [List.mem_cons, List.not_mem_nil, or_false] at hm
  rcases hm with rfl | rfl | rfl | rfl | rfl
  · exact h _ e1 rfl
  · exact h _ e2 rfl
  · exact h _ a1 rfl
  · exact h _ b1 rfl
  · exact h _ d1 rfl
end
theorem newsBackAll {h₀ h₁ h' : Heap} {L L' : Addr} {m' : Str → Option Value} {news led : List (Addr × Obj)} {m : Str → Option Value} (F : Fr h₀ L h₁ m) (N : News h₀ L h₁ news) (F' : Fr h₁ L' h' m') (N' : News h₁ L' h' led) : News h₀ L h' (led ++ news) := fun q hq => by
  rcases List.mem_append.mp hq with hq | hq
  · refine ⟨(N' q hq).1, fun e => ?_, ?_⟩
    · have z := (N' q hq).2.2
      obtain ⟨o, _, _, ho, _⟩ := F.ns
      rw [e, ho] at z; cases z
    · cases z : h₀.get? q.1 with
      | none => rfl
      | some o => have := (N' q hq).2.2; rw [F.keep _ _ z] at this; cases this
  · exact newsBack N F' q hq
noncomputable def Off (led : List (Addr × Obj)) (I : Addr) : Prop := ∀ p ∈ led, p.1 ≠ I
theorem Off.upd {led : List (Addr × Obj)} {I a : Addr} {o o₀ : Obj} (h : Off led I) (hm : (a, o₀) ∈ led) : Off (updL a o led) I := off_upd h hm
section
open PySem.SeqAt
variable {prog : Program} {w : World} {A : Around} {E : Value → Shared → Prop} {s : Shared} {h₀ : Heap} {L : Addr}
theorem eq_empty {news : List (Addr × Obj)} {l z : Addr} {vs : List Value} {n n' : Nat} {Q : Value → Shared → Prop} (N : News h₀ L s.heap news) (hl : (l, listOf vs.toArray n) ∈ news) (hz : (z, listOf #[] n') ∈ news) (hu : A.units < cLine) (h : Q (.bool (decide (vs = []))) s) :
    wpAny (model prog w) A (compareOp .Eq (.ref l) (.ref z)) Q E s := by
  have h1 : s.heap.IsList l vs.toArray := ⟨_, (N _ hl).1, rfl, _, rfl⟩
  have h2 : s.heap.IsList z #[] := ⟨_, (N _ hz).1, rfl, _, rfl⟩
  cases vs with
  | nil => exact eq_listAt (e := fun _ => true) h1 h2 rfl hu (fun j q1 q2 => absurd q2 (Nat.not_lt_zero _)) h
  | cons v r => exact eq_list_lengthsAt h1 h2 (by simp) hu h
end
theorem newsSub {h₀ h : Heap} {L : Addr} {l1 l2 : List (Addr × Obj)} (N : News h₀ L h l1) (hs : ∀ q ∈ l2, q ∈ l1) : News h₀ L h l2 := fun p hp => N p (hs p hp)
section
variable {n : Nat} {c1 c2 c3 : Addr} {vA : Option Value} {aL : Addr} {kL : Nat} {vsL : List Value} {aR : Addr} {kR : Nat} {vsR : List Value} {P : List (List Int) × List (List Int)} {led cur : List (Addr × Obj)}
variable {prog : Program} {w : World} {A : Around} {E : Value → Shared → Prop} {s : Shared} {h₀ : Heap} {L b : Addr} {k : Int} {u : Tok} {value slice : PySem.Expr} {Q : Value → Shared → Prop}
theorem TF.readL (X : TF n c1 c2 c3 vA aL kL vsL aR kR vsR P led) (N : News h₀ L s.heap cur) (hsub : (aL, listOf vsL.toArray kL) ∈ cur) (h0 : 0 ≤ k) (h1 : k < P.1.length) (hfit : k < 2 ^ 63)
    (h : ∀ b its kk, vsL[k.toNat]? = some (.ref b) → (b, listOf its.toArray kk) ∈ led → IntsAre its (P.1.getD k.toNat []) → b ∉ [aL, aR, c1, c2, c3] → Q (.ref b) s)
    (hs : subscripted slice false (.ref aL) (.int k u) = operate [.ref aL, .int k u] (getItem (.ref aL) (.int k u)) := by with_unfolding_all rfl) :
    wpAny (model prog w) A (subscriptTail value slice (.ref aL) (.int k u)) Q E s := by
  obtain ⟨b, its, kk, g1, g2, g3, g4⟩ := X.rL.2 k.toNat (by omega)
  exact sub_row ⟨_, (N _ hsub).1, rfl, _, rfl⟩ g1 h0 hfit (h b its kk g1 g2 g3 g4) hs
theorem TF.readR (X : TF n c1 c2 c3 vA aL kL vsL aR kR vsR P led) (N : News h₀ L s.heap cur) (hsub : (aR, listOf vsR.toArray kR) ∈ cur) (h0 : 0 ≤ k) (h1 : k < P.2.length) (hfit : k < 2 ^ 63)
    (h : ∀ b its kk, vsR[k.toNat]? = some (.ref b) → (b, listOf its.toArray kk) ∈ led → IntsAre its (P.2.getD k.toNat []) → b ∉ [aL, aR, c1, c2, c3] → Q (.ref b) s)
    (hs : subscripted slice false (.ref aR) (.int k u) = operate [.ref aR, .int k u] (getItem (.ref aR) (.int k u)) := by with_unfolding_all rfl) :
    wpAny (model prog w) A (subscriptTail value slice (.ref aR) (.int k u)) Q E s := by
  obtain ⟨b, its, kk, g1, g2, g3, g4⟩ := X.rR.2 k.toNat (by omega)
  exact sub_row ⟨_, (N _ hsub).1, rfl, _, rfl⟩ g1 h0 hfit (h b its kk g1 g2 g3 g4) hs
theorem read_ent {its : List Value} {r : List Int} {kk : Nat} (N : News h₀ L s.heap cur) (hb : (b, listOf its.toArray kk) ∈ cur) (hI : IntsAre its r) (h0 : 0 ≤ k) (h1 : k < r.length) (hfit : k < 2 ^ 63) (h : ∀ t, Q (.int (r.getD k.toNat 0) t) s)
    (hs : subscripted slice false (.ref b) (.int k u) = operate [.ref b, .int k u] (getItem (.ref b) (.int k u)) := by with_unfolding_all rfl) :
    wpAny (model prog w) A (subscriptTail value slice (.ref b) (.int k u)) Q E s := by
  have hk : k.toNat < r.length := by omega
  obtain ⟨t, ht⟩ := hI.get k.toNat r[k.toNat] (List.getElem?_eq_getElem hk)
  have e : r.getD k.toNat 0 = r[k.toNat] := by rw [List.getD_eq_getElem?_getD, List.getElem?_eq_getElem hk]; rfl
  exact sub_row ⟨_, (N _ hb).1, rfl, _, rfl⟩ ht h0 hfit (e ▸ h t) hs
end
theorem bne_dec (x : Int) : (x != 0) = decide (x ≠ 0) := by by_cases h : x = 0 <;> simp [h]
theorem Fr.ovr {h₀ h : Heap} {L : Addr} {m : Str → Option Value} {x : Str} {v : Value} (F : Fr h₀ L h m) (hx : m x = some v) : Fr h₀ L h (fun y => if y = x then some v else m y) := by
  have e : (fun y => if y = x then some v else m y) = m := by
    funext y
    by_cases h : y = x
    · rw [if_pos h, h, hx]
    · rw [if_neg h]
  rw [e]; exact F
section
variable {n : Nat} {c1 c2 c3 : Addr} {vA : Option Value} {aL : Addr} {kL : Nat} {vsL : List Value} {aR : Addr} {kR : Nat} {vsR : List Value} {P : List (List Int) × List (List Int)} {led cur : List (Addr × Obj)}
variable {prog : Program} {w : World} {A : Around} {E : Value → Shared → Prop} {s : Shared} {h₀ : Heap} {L b I : Addr} {oI : Obj} {k : Int} {t : Tok} {Q : Unit → Shared → Prop} {m : Str → Option Value} {its : List Value} {kk : Nat} {r : List Int}
theorem TF.storeL (X : TF n c1 c2 c3 vA aL kL vsL aR kR vsR P led) (F : Fr h₀ L s.heap m) (N : News h₀ L s.heap cur) (hI : Off led I) (hsub : ∀ q ∈ (I, oI) :: led, q ∈ cur) (hb : (b, listOf its.toArray kk) ∈ led) (hi : IntsAre its r) (hoff : b ∉ [aL, aR, c1, c2, c3]) (h0 : 0 ≤ k) (h1 : k < P.1.length) (hfit : k < 2 ^ 63)
    (h : ∀ h' led', Fr h₀ L h' m → News h₀ L h' ((I, oI) :: led') → Off led' I → (∀ q ∈ led, q.1 ≠ aL → q ∈ led') → TF n c1 c2 c3 vA aL kL (vsL.set k.toNat (.ref b)) aR kR vsR (P.1.set k.toNat r, P.2) led' → Q () { s with heap := h' }) :
    wpAny (model prog w) A (setItem (.ref aL) (.int k t) (.ref b)) Q E s := by
  have hIL : I ≠ aL := Ne.symm (hI _ X.mL)
  refine set_row F (newsSub N hsub) (.tail _ X.mL) h0 (by have := X.rL.1; omega) hfit fun h' F' N' => ?_
  rw [updL_cons hIL] at N'
  exact h h' _ F' N' (Off.upd hI X.mL) (fun q hq hne => mem_upd_ne hq hne) (X.setL k.toNat hb hi hoff)
theorem TF.storeR (X : TF n c1 c2 c3 vA aL kL vsL aR kR vsR P led) (F : Fr h₀ L s.heap m) (N : News h₀ L s.heap cur) (hI : Off led I) (hsub : ∀ q ∈ (I, oI) :: led, q ∈ cur) (hb : (b, listOf its.toArray kk) ∈ led) (hi : IntsAre its r) (hoff : b ∉ [aL, aR, c1, c2, c3]) (h0 : 0 ≤ k) (h1 : k < P.2.length) (hfit : k < 2 ^ 63)
    (h : ∀ h' led', Fr h₀ L h' m → News h₀ L h' ((I, oI) :: led') → Off led' I → (∀ q ∈ led, q.1 ≠ aR → q ∈ led') → TF n c1 c2 c3 vA aL kL vsL aR kR (vsR.set k.toNat (.ref b)) (P.1, P.2.set k.toNat r) led' → Q () { s with heap := h' }) :
    wpAny (model prog w) A (setItem (.ref aR) (.int k t) (.ref b)) Q E s := by
  have hIL : I ≠ aR := Ne.symm (hI _ X.mR)
  refine set_row F (newsSub N hsub) (.tail _ X.mR) h0 (by have := X.rR.1; omega) hfit fun h' F' N' => ?_
  rw [updL_cons hIL] at N'
  exact h h' _ F' N' (Off.upd hI X.mR) (fun q hq hne => mem_upd_ne hq hne) (X.setR k.toNat hb hi hoff)
end
theorem getD_swap {M : List (List Int)} {i k : Nat} (hi : i < M.length) (hk : k < M.length) : (swapR M i k).getD i [] = M.getD k [] := by
  unfold swapR
  by_cases h : i = k
  · subst h; rw [getD_set_eq (by rw [List.length_set]; exact hi)]
  · rw [getD_set_ne (Ne.symm h), getD_set_eq hi]
theorem ent_swap {M : List (List Int)} {i k j : Nat} (hi : i < M.length) (hk : k < M.length) : ent (swapR M i k) i j = ent M k j := by
  unfold ent; rw [getD_swap hi hk]
theorem Off.cons {led : List (Addr × Obj)} {I : Addr} {q : Addr × Obj} (h : Off led I) (hq : q.1 ≠ I) : Off (q :: led) I := fun p hp => by
  rcases List.mem_cons.mp hp with rfl | hp
  · exact hq
  · exact h p hp
theorem sub_perm3 {α : Type} {x a b c : α} {l : List α} : ∀ q ∈ x :: a :: b :: l, q ∈ c :: a :: b :: x :: l := by
  intro q hq
  simp only [List.mem_cons] at hq ⊢
  rcases hq with h | h | h | h <;> simp [h]
section
variable {n : Nat} {c1 c2 c3 : Addr} {vA : Option Value} {aL : Addr} {kL : Nat} {vsL : List Value} {aR : Addr} {kR : Nat} {vsR : List Value} {P : List (List Int) × List (List Int)} {led cur : List (Addr × Obj)}
variable {prog : Program} {w : World} {A : Around} {E : Value → Shared → Prop} {s : Shared} {h₀ : Heap} {L b I I2 : Addr} {oI oI2 : Obj} {k : Int} {t : Tok} {Q : Unit → Shared → Prop} {m : Str → Option Value} {its : List Value} {kk : Nat} {r : List Int}
theorem TF.storeL2 (X : TF n c1 c2 c3 vA aL kL vsL aR kR vsR P led) (F : Fr h₀ L s.heap m) (N : News h₀ L s.heap cur) (hI : Off led I) (hI2 : Off led I2) (hsub : ∀ q ∈ (I2, oI2) :: (I, oI) :: led, q ∈ cur) (hb : (b, listOf its.toArray kk) ∈ led) (hi : IntsAre its r) (hoff : b ∉ [aL, aR, c1, c2, c3]) (h0 : 0 ≤ k) (h1 : k < P.1.length) (hfit : k < 2 ^ 63)
    (h : ∀ h' led', Fr h₀ L h' m → News h₀ L h' ((I2, oI2) :: (I, oI) :: led') → Off led' I → Off led' I2 → (∀ q ∈ led, q.1 ≠ aL → q ∈ led') → TF n c1 c2 c3 vA aL kL (vsL.set k.toNat (.ref b)) aR kR vsR (P.1.set k.toNat r, P.2) led' → Q () { s with heap := h' }) :
    wpAny (model prog w) A (setItem (.ref aL) (.int k t) (.ref b)) Q E s := by
  have hIL : I ≠ aL := Ne.symm (hI _ X.mL)
  have hIL2 : I2 ≠ aL := Ne.symm (hI2 _ X.mL)
  refine set_row F (newsSub N hsub) (.tail _ (.tail _ X.mL)) h0 (by have := X.rL.1; omega) hfit fun h' F' N' => ?_
  rw [updL_cons hIL2, updL_cons hIL] at N'
  exact h h' _ F' N' (Off.upd hI X.mL) (Off.upd hI2 X.mL) (fun q hq hne => mem_upd_ne hq hne) (X.setL k.toNat hb hi hoff)
theorem TF.storeR2 (X : TF n c1 c2 c3 vA aL kL vsL aR kR vsR P led) (F : Fr h₀ L s.heap m) (N : News h₀ L s.heap cur) (hI : Off led I) (hI2 : Off led I2) (hsub : ∀ q ∈ (I2, oI2) :: (I, oI) :: led, q ∈ cur) (hb : (b, listOf its.toArray kk) ∈ led) (hi : IntsAre its r) (hoff : b ∉ [aL, aR, c1, c2, c3]) (h0 : 0 ≤ k) (h1 : k < P.2.length) (hfit : k < 2 ^ 63)
    (h : ∀ h' led', Fr h₀ L h' m → News h₀ L h' ((I2, oI2) :: (I, oI) :: led') → Off led' I → Off led' I2 → (∀ q ∈ led, q.1 ≠ aR → q ∈ led') → TF n c1 c2 c3 vA aL kL vsL aR kR (vsR.set k.toNat (.ref b)) (P.1, P.2.set k.toNat r) led' → Q () { s with heap := h' }) :
    wpAny (model prog w) A (setItem (.ref aR) (.int k t) (.ref b)) Q E s := by
  have hIL : I ≠ aR := Ne.symm (hI _ X.mR)
  have hIL2 : I2 ≠ aR := Ne.symm (hI2 _ X.mR)
  refine set_row F (newsSub N hsub) (.tail _ (.tail _ X.mR)) h0 (by have := X.rR.1; omega) hfit fun h' F' N' => ?_
  rw [updL_cons hIL2, updL_cons hIL] at N'
  exact h h' _ F' N' (Off.upd hI X.mR) (Off.upd hI2 X.mR) (fun q hq hne => mem_upd_ne hq hne) (X.setR k.toNat hb hi hoff)
end
theorem sub_perm4 {α : Type} {x y a b : α} {l : List α} : ∀ q ∈ x :: y :: a :: l, q ∈ a :: b :: x :: y :: l := by
  intro q hq
  simp only [List.mem_cons] at hq ⊢
  rcases hq with h | h | h | h <;> simp [h]
theorem elims_eq {i : Nat} {P : List (List Int) × List (List Int)} : elims i (i + 1) P = elims i i P := by
  show (if i = i then _ else _ : _ × _) = _
  rw [if_pos rfl]
theorem elims_ne {i p : Nat} (h : p ≠ i) {P : List (List Int) × List (List Int)} : elims i (p + 1) P = (elim1 i p (ent (elims i p P).1 p i) (elims i p P).1, elim1 i p (ent (elims i p P).1 p i) (elims i p P).2) := by
  show (if p = i then _ else _ : _ × _) = _
  rw [if_neg h]
noncomputable def offL (a : Addr) (led : List (Addr × Obj)) : List (Addr × Obj) := led.filter fun q => decide (@Ne Nat q.1 a)
theorem mem_offL {a : Addr} {led : List (Addr × Obj)} {q : Addr × Obj} : q ∈ offL a led ↔ q ∈ led ∧ q.1 ≠ a := by
  unfold offL
  rw [List.mem_filter]
  exact and_congr Iff.rfl (by rw [decide_eq_true_iff])
/-- what the caller sees of a new list of rows -/
theorem rows_back {h₀ h₁ h' : Heap} {L L' : Addr} {m m' : Str → Option Value} {news led : List (Addr × Obj)} {D : Addr} {vs : List Value} {k : Nat} {R : List (List Int)} {off : List Addr} (F : Fr h₀ L h₁ m) (N : News h₀ L h₁ news) (F' : Fr h₁ L' h' m') (N' : News h₁ L' h' led) (hD : (D, listOf vs.toArray k) ∈ led) (hR : Rows off vs R led) (hoff : D ∈ off) :
    News h₀ L h' ((D, listOf vs.toArray k) :: (offL D led ++ news)) ∧ (∀ q ∈ offL D led ++ news, q.1 ≠ D) ∧ Rows [D] vs R (offL D led ++ news) := by
  have NA := newsBackAll F N F' N'
  refine ⟨fun q hq => ?_, fun q hq => ?_, (hR.mono (led' := offL D led ++ news) fun q hq hn => ?_).narrow (by simpa using hoff)⟩
  · rcases List.mem_cons.mp hq with rfl | hq
    · exact NA _ (List.mem_append_left _ hD)
    · rcases List.mem_append.mp hq with hq | hq
      · exact NA _ (List.mem_append_left _ (mem_offL.mp hq).1)
      · exact NA _ (List.mem_append_right _ hq)
  · rcases List.mem_append.mp hq with hq | hq
    · exact (mem_offL.mp hq).2
    · intro e
      have h1 := (N q hq).1
      have h2 := (N' _ hD).2.2
      dsimp only at h2
      rw [e, h2] at h1
      cases h1
  · exact List.mem_append_left _ (mem_offL.mpr ⟨hq, fun e => hn (e ▸ hoff)⟩)
theorem TF.cast {n : Nat} {c1 c2 c3 : Addr} {vA : Option Value} {aL : Addr} {kL : Nat} {vsL : List Value} {aR : Addr} {kR : Nat} {vsR : List Value} {P P' : List (List Int) × List (List Int)} {led : List (Addr × Obj)} (X : TF n c1 c2 c3 vA aL kL vsL aR kR vsR P led) (h : P = P') : TF n c1 c2 c3 vA aL kL vsL aR kR vsR P' led := h ▸ X
end
section
section
open PySem.Calls
set_option maxRecDepth 100000
variable {prog : Program} {w : World} {A : Around} {E : Value → Shared → Prop} {h : Heap} {g : Array GenState} {d : Drawn} {t : Nat} {os : OsState}
variable {nm q : Str} {C N : Addr} {bs bm bmB : List Value} {hdct : Bool} {sn : List Str} {sub : List Value} {ab : Bool} {col : Option Bool} {dd : Option Addr} {k0 k1 k2 k3 k5 : Option Value} {B newId initId : String}

/-- what the own class's ways up hold -/
structure Ways (B : String) (bm : List Value) : Prop where
  hB : bm.contains (.type B) = true
  hBase : bm.contains (.type "BaseException") = true
  hA : bm.contains (.type "AttributeError") = false
  hN : bm.contains (.type "NameError") = false

theorem own_check_new {M : Model} (F : ExcBaseFacts B newId initId bmB) (W : Ways B bm) {rest : List Value} {Q : Unit → Shared → Prop} (hC : h.get? C = some (excClassObj nm q C N bs bm hdct sn sub ab col dd k0 k1 k2 k3 k5 newId))
    (hq : Q () ⟨h, g, d, t, os⟩) : wpAny M A (checkBuiltinCall newId ⟨.ref C :: rest, []⟩) Q E ⟨h, g, d, t, os⟩ := by
  have up : (Value.ref C :: bm).contains (.type B) = true := by rw [List.contains_cons, W.hB, Bool.or_true]
  have ns := F.noStar
  simp only [checkBuiltinCall, F.newKind, F.newSplit, F.newRow]
  repeat (first | refine wpAny_loadPart_at hC ?_ | (refine wpAny_isSubtype_exc hC ?_; rw [up]) | refine wpAny_staticBase_exc hC ?_ | refine wpAny_madeBy_exc hC ?_ | simp only [bne_self_eq_false, Bool.false_eq_true, if_false] | wp_step)
  exact hq

theorem own_new (F : ExcBaseFacts B newId initId bmB) (W : Ways B bm) {rest : List Value} {R : Result → Shared → Prop} (hC : h.get? C = some (excClassObj nm q C N bs bm hdct sn sub ab col dd k0 k1 k2 k3 k5 newId))
    (hq : R (.ok (.ret (.ref (h.objs.size + 1)))) ⟨(h.push { cls := .type "tuple", data := .seq rest.toArray }).push
      { cls := .ref C, data := .fields #[.ref h.objs.size, .none, .none, .none, .bool false, .none] }, g, d, t, os⟩) (hrest : rest.length ≤ sizeLine) :
    codeAny (model prog w) A (.builtin newId ⟨.ref C :: rest, []⟩) R ⟨h, g, d, t, os⟩ := by
  have he := F.ends
  have u1 : (Value.ref C :: bm).contains (.type B) = true := by rw [List.contains_cons, W.hB, Bool.or_true]
  have u2 : (Value.ref C :: bm).contains (.type "AttributeError") = false := by rw [List.contains_cons, W.hA]; rfl
  have u3 : (Value.ref C :: bm).contains (.type "NameError") = false := by rw [List.contains_cons, W.hN]; rfl
  refine codeAny_builtinAt F.entry ?_
  unfold Builtin.«BaseException.__new__»
  refine PySem.wpAt_bind ?_
  show PySem.wpAt _ _ _ (stack >>= _) _ _ _
  refine PySem.wpAt_bind (PySem.wpAt_stack fun p below => PySem.wpAt_of_wpAny ?_)
  wp_walk
  refine PySem.wpAt_of_wpAny ?_
  rw [F.owner]
  repeat (first | with_reducible refine wpAny_madeHere_exc F.canon hC ?_ | with_reducible refine wpAny_loadPart_at hC ?_ | (with_reducible refine wpAny_isSubtype_exc hC ?_; first | rw [u1] | rw [u2] | rw [u3]) | wp_step)
  show R _ _
  rw [Heap.size_push]
  exact hq

noncomputable abbrev excObj (C t : Addr) (dd : Option Addr) : Obj := { cls := .ref C, dict := dd, data := .fields #[.ref t, .none, .none, .none, .bool false, .none] }
noncomputable abbrev tupObj (vs : List Value) : Obj := { cls := .type "tuple", data := .seq vs.toArray }

theorem own_type_call (F : ExcBaseFacts B newId initId bmB) (W : Ways B bm) {rest : List Value} {fI : Addr} {oI : Obj} {Q : Fin → Shared → Prop}
    (hC : h.get? C = some (excClassObj nm q C N bs bm hdct sn sub ab col dd k0 k1 k2 k3 k5 newId)) (hi : Looks (model prog w) h (typeLookup (.ref C) "__init__") (some (.ref fI)))
    (hfI : h.get? fI = some oI) (hfc : oI.cls = .type "function") (hrest : rest.length ≤ sizeLine)
    (hq : wpAny (model prog w) A (call (.ref fI) (.ref (h.objs.size + 1) :: rest)) (fun r s' => r = .none ∧ Q (.done (.ret (.ref (h.objs.size + 1)))) s') E ⟨(h.push (tupObj rest)).push (excObj C h.objs.size none), g, d, t, os⟩) :
    wpAny (model prog w) A (Builtin.«type.__call__» ⟨.ref C :: rest, []⟩) Q E ⟨h, g, d, t, os⟩ := by
  repeat (first | with_reducible refine wpAny_loadPart_at hC ?_ | with_reducible refine wpAny_madeBy_exc hC ?_ | wp_step)
  refine codeAny_call_builtin_code (Code.quiet_builtin _ F.quiet) (own_check_new F W hC ?_)
  refine own_new F W hC ?_ hrest
  show wpAny _ _ _ _ _ _
  have hC₁ : ((h.push (tupObj rest)).push (excObj C h.objs.size none)).get? C = _ := Heap.get?_push_of_some _ (Heap.get?_push_of_some _ hC)
  have hfI₁ : ((h.push (tupObj rest)).push (excObj C h.objs.size none)).get? fI = _ := Heap.get?_push_of_some _ (Heap.get?_push_of_some _ hfI)
  have hget : ((h.push (tupObj rest)).push (excObj C h.objs.size none)).get? (h.objs.size + 1) = some (excObj C h.objs.size none) := by heap_get
  have hcC : (Value.ref C :: bm).contains (.ref C) = true := by simp
  unfold isInstance
  repeat (first | with_reducible refine wpAny_loadPart_at hget ?_ | (with_reducible refine wpAny_isSubtype_exc hC₁ ?_; rw [hcC]) | wp_step)
  show wpAny _ _ (typeLookup (.ref C) _) _ _ _
  refine (hi.keeps (h' := (h.push (tupObj rest)).push (excObj C h.objs.size none)) fun b o e => Heap.get?_push_of_some _ (Heap.get?_push_of_some _ e)).at ?_
  refine wpAny_holding (wpAny_bind ?_)
  unfold bindSpecial
  refine wpAny_bind (wpAny_typeOf (T := "function") ⟨_, hfI₁, hfc⟩ ?_)
  rw [if_pos (by decide)]
  refine wpAny_pure (wpAny_bind (wpAny_mono hq (fun r s' hr => ?_) fun _ _ x => x))
  obtain ⟨rfl, hQ⟩ := hr
  wp_walk
  exact hQ

theorem own_call (F : ExcBaseFacts B newId initId bmB) (W : Ways B bm) {rest : List Value} {fI : Addr} {oI : Obj} {Q : Value → Shared → Prop}
    (hC : h.get? C = some (excClassObj nm q C N bs bm hdct sn sub ab col dd k0 k1 k2 k3 k5 newId)) (hi : Looks (model prog w) h (typeLookup (.ref C) "__init__") (some (.ref fI)))
    (hfI : h.get? fI = some oI) (hfc : oI.cls = .type "function") (hrest : rest.length ≤ sizeLine)
    (hq : wpAny (model prog w) (A.under (.builtin "type.__call__" ⟨.ref C :: rest, []⟩)) (call (.ref fI) (.ref (h.objs.size + 1) :: rest)) (fun r s' => r = .none ∧ Q (.ref (h.objs.size + 1)) s') E ⟨(h.push (tupObj rest)).push (excObj C h.objs.size none), g, d, t, os⟩) :
    wpAny (model prog w) A (call (.ref C) rest) Q E ⟨h, g, d, t, os⟩ := by
  have f1 := tc_lookup
  have f2 := tc_bind (.ref C)
  have hT : (⟨h, g, d, t, os⟩ : Shared).TypeIs (.ref C) "type" := ⟨_, hC, rfl⟩
  refine wpAny_call (codeAny_of_tree ?_)
  show wpAny _ _ (callAny (.ref C) _) _ _ _
  repeat (any_goals (first | assumption | with_reducible refine wpAny_loadPart_at hC ?_ | wp_step))
  refine ⟨rfl, ?_⟩
  exact codeAny_call_builtin_at (Code.quiet_builtin _ (by decide +kernel)) entry_typeCall (wpAny_check_type_call_sub hC (own_type_call F W hC hi hfI hfc hrest hq))

/-- Exception.__init__ upon an own exception -/
theorem own_check_init {M : Model} (F : ExcBaseFacts B newId initId bmB) (W : Ways B bm) {e : Addr} {oe : Obj} {rest : List Value} {Q : Unit → Shared → Prop}
    (hC : h.get? C = some (excClassObj nm q C N bs bm hdct sn sub ab col dd k0 k1 k2 k3 k5 newId)) (he : h.get? e = some oe) (hcls : oe.cls = .ref C) (hq : Q () ⟨h, g, d, t, os⟩) :
    wpAny M A (checkBuiltinCall initId ⟨.ref e :: rest, []⟩) Q E ⟨h, g, d, t, os⟩ := by
  have up : (Value.ref C :: bm).contains (.type B) = true := by rw [List.contains_cons, W.hB, Bool.or_true]
  have ns := F.noStar
  simp only [checkBuiltinCall, F.initKind, F.initSplit, F.initRow]
  repeat (first | (with_reducible refine wpAny_loadPart_at he ?_; rw [hcls]) | with_reducible refine wpAny_loadPart_at hC ?_ | (with_reducible refine wpAny_isSubtype_exc hC ?_; rw [up]) | wp_step)
  refine wpAny_onRaise ?_
  rw [show ∀ (a b : String) (n : Nat), Bind.check ⟨.positional, "*", B, .self, [⟨"args", .varPos, false⟩]⟩ a b n (List.map (fun x => x.fst) ({ pos := Value.ref e :: rest } : Args).kw) = pure () from
    fun a b n => check_star_args _ _ _ _ _ _]
  exact wpAny_pure hq

theorem own_init (F : ExcBaseFacts B newId initId bmB) (W : Ways B bm) {e t0 : Addr} {rest : List Value} {ed : Option Addr} {Q : Value → Shared → Prop} (hrest : rest.length ≤ sizeLine)
    (hC : h.get? C = some (excClassObj nm q C N bs bm hdct sn sub ab col dd k0 k1 k2 k3 k5 newId)) (he : h.get? e = some (excObj C t0 ed))
    (hq : ∀ h', (∀ b o, b ≠ e → h.get? b = some o → h'.get? b = some o) → h'.get? e = some (excObj C h.objs.size ed) → h'.get? h.objs.size = some (tupObj rest) → Q .none ⟨h', g, d, t, os⟩) :
    wpAny (model prog w) A (call (.builtin initId) (.ref e :: rest)) Q E ⟨h, g, d, t, os⟩ := by
  refine wpAny_call (codeAny_call_builtin F.init.plain F.initEntry (own_check_init F W hC he rfl ?_))
  have hlt : e < h.objs.size := Heap.lt_size he
  have hs := hrest
  wp_walk
  refine hq _ (fun b o hb hbo => ?_) ?_ ?_
  · rw [Heap.get?_update_other _ _ (Ne.symm hb)]; exact Heap.get?_push_of_some _ hbo
  · rw [Heap.get?_update_self _ (Heap.get?_push_of_some _ he) rfl]; rfl
  · rw [Heap.get?_update_other _ _ (Nat.ne_of_lt hlt)]; exact Heap.get?_push_size _ rfl
end
end
section
section
open PySem.Calls PySem.Builtin PySem.Builtin.ObjectAttr
set_option maxRecDepth 100000
variable {prog : Program} {w : World} {A : Around} {E : Value → Shared → Prop} {h : Heap} {g : Array GenState} {d : Drawn} {t : Nat} {os : OsState}
variable {nm q : Str} {C N : Addr} {bs bm bmB : List Value} {sn : List Str} {sub : List Value} {ab : Bool} {col : Option Bool} {dd : Option Addr} {k0 k1 k2 k3 k5 : Option Value} {B newId sa owner : String} {name : Str} {v : Value}

theorem own_check_sa {M : Model} {e : Addr} {o : Obj} {nameV : Value} {Q : Unit → Shared → Prop} (SF : StoreFacts B bmB sa owner) (ho : bm.contains (.type owner) = true)
    (hC : h.get? C = some (excClassObj nm q C N bs bm true sn sub ab col dd k0 k1 k2 k3 k5 newId)) (hx : h.get? e = some o) (hc : o.cls = .ref C) (hq : Q () ⟨h, g, d, t, os⟩) :
    wpAny M A (checkBuiltinCall sa ⟨[.ref e, nameV, v], []⟩) Q E ⟨h, g, d, t, os⟩ := by
  have up : (Value.ref C :: bm).contains (.type owner) = true := by rw [List.contains_cons, ho, Bool.or_true]
  have ha := SF.args (.ref e) nameV v
  simp only [checkBuiltinCall, SF.kind, SF.split]
  refine wpAny_bind ?_
  unfold isInstance
  repeat (first | (with_reducible refine wpAny_loadPart_at hx ?_; rw [hc]) | (with_reducible refine wpAny_isSubtype_exc hC ?_; rw [up]) | wp_step)
  cases hsig : Manifest.signature? sa with
  | none => exact wpAny_pure hq
  | some sig =>
    simp only [argsOk, hsig] at ha
    have h2 : Bind.checkArgs sa sig ⟨[.ref e, nameV, v], []⟩ = pure () := ha
    show wpAny M A (Bind.checkArgs sa sig ⟨[.ref e, nameV, v], []⟩) Q E _
    rw [h2]; exact wpAny_pure hq

theorem own_store_entry {e : Addr} {o : Obj} {vs : Array Value} {tk : Tok} {Q : Fin → Shared → Prop} (hC : h.get? C = some (excClassObj nm q C N bs bm true sn sub ab col dd k0 k1 k2 k3 k5 newId))
    (hpass : refuseLoop (.ref e) "__setattr__" bm = pure ()) (hn : Looks (model prog w) h (typeLookup (.ref C) name) none) (he : h.get? e = some o) (hc : o.cls = .ref C) (hdn : o.dict = none) (hdt : o.data = .fields vs)
    (hq : ∀ h' tk', h'.get? e = some { o with dict := some h.objs.size } → (∀ b o, b ≠ e → h.get? b = some o → h'.get? b = some o) → Q (.done (.ret .none)) ⟨h', g, d, tk', os⟩) :
    wpAny (model prog w) A (Builtin.«object.__setattr__» ⟨[.ref e, .str name tk, v], []⟩) Q E ⟨h, g, d, t, os⟩ := by
  unfold Builtin.«object.__setattr__»
  repeat (first | rw [refuse_eq] | (rw [refuseLoop_ref, hpass]) | (with_reducible refine wpAny_loadPart_at he ?_; rw [hc]) | with_reducible refine wpAny_mroOf_exc hC ?_ | with_reducible refine Looks.at hn ?_ | wp_step)
  rw [hdn, if_neg (by simp [typeHasDict])]
  split
  · rename_i hcd; cases hcd
  split
  · rename_i c hcd
    rw [hdt] at hcd
    cases hcd
  have hx₁ : (h.push { cls := .type "dict", data := .dict #[] }).get? e = some o := Heap.get?_push_of_some _ he
  have hxs : e ≠ h.objs.size := Nat.ne_of_lt (Heap.lt_size he)
  refine wpAny_bind (wpAny_alloc' ?_)
  refine wpAny_bind (wpAny_update' hx₁ ?_)
  refine wpAny_pure ?_
  have hgd : ((h.push { cls := .type "dict", data := .dict #[] }).update e fun o => { cls := o.cls, dict := some h.objs.size, data := o.data, slots := o.slots }).get? h.objs.size
      = some { cls := .type "dict", data := .dict #[] } :=
    (Heap.get?_update_ne _ _ _ _ hxs.symm).trans (Heap.get?_push_at rfl rfl)
  have hnd : ((h.push { cls := .type "dict", data := .dict #[] }).update e fun o => { cls := o.cls, dict := some h.objs.size, data := o.data, slots := o.slots }).Ns h.objs.size (fun _ => none) :=
    ⟨_, #[], _, hgd, rfl, fun e he => absurd he (by simp), fun _ => rfl⟩
  show wpAny _ _ (storeInDict h.objs.size (.str name tk) name v) _ _ _
  unfold storeInDict newKeyGuard
  refine wpAny_bind (wpAny_pure (wpAny_bind (wpAny_nsSet1 (Heap.Ns1.of_empty hnd) fun h' hn' hs => ?_)))
  obtain ⟨oD, esD, epD, hoD, hdD, hcD⟩ := hn'.count (Within.cons name v Within.nil)
  refine wpAny_bind (wpAny_lookBehind hoD (by rw [hdD]; exact pastItsLine_dict (Nat.le_trans hcD (by rw [List.length_cons, List.length_nil, sizeLine_eq]; omega))) ?_)
  wp_walk
  refine hq h' _ ?_ fun b ob hbx hb => ?_
  · refine (hs.2 e hxs).trans (Heap.get?_update_self _ hx₁ ?_)
    have hfr := (Heap.get?_some_iff.mp he).2
    obtain ⟨oc, od, odt, osl⟩ := o
    cases odt <;> first | rfl | exact hfr
  · exact (hs.2 b (Nat.ne_of_lt (Heap.lt_size hb))).trans ((Heap.get?_update_ne _ _ _ _ hbx).trans (Heap.get?_push_of_some _ hb))

theorem own_store {e t0 : Addr} {Q : Unit → Shared → Prop} (SF : StoreFacts B bmB sa owner) (ho : bm.contains (.type owner) = true) (hC : h.get? C = some (excClassObj nm q C N bs bm true sn sub ab col dd k0 k1 k2 k3 k5 newId))
    (hpass : refuseLoop (.ref e) "__setattr__" bm = pure ()) (hs : Looks (model prog w) h (typeLookup (.ref C) "__setattr__") (some (.builtin sa))) (hn : Looks (model prog w) h (typeLookup (.ref C) name) none) (he : h.get? e = some (excObj C t0 none))
    (hq : ∀ h' tk', h'.get? e = some (excObj C t0 (some h.objs.size)) → (∀ b o, b ≠ e → h.get? b = some o → h'.get? b = some o) → Q () ⟨h', g, d, tk', os⟩) :
    wpAny (model prog w) A (setAttr (.ref e) name v) Q E ⟨h, g, d, t, os⟩ := by
  have f3 := SF.slot.bind (.ref e)
  unfold setAttr callSpecial? specialOf
  repeat (any_goals (first | assumption | with_reducible refine wpAny_loadPart_at he ?_ | with_reducible refine Looks.at hs ?_ | wp_step))
  refine codeAny_call_builtin SF.slot.plain SF.entry (own_check_sa SF ho hC he rfl (own_store_entry hC hpass hn he rfl rfl rfl fun h' tk' a b => ?_))
  repeat (any_goals (first | assumption | wp_step))
  exact hq h' tk' a b
end
end
section
open PySem.Calls
section
variable {w : World} {mean : ExcName → Option Value} {mg mb : Str → Option Value} {p : Program} {loose : List Str}
section
variable {prog : Program} {A A₀ : Around} {s : Shared} {base h₀ : Heap} {outer : List Env} {L : Addr} {m : Str → Option Value} {env : Env} {K : Frag}
  {R : Result → Shared → Prop} {name qual : Str} {params : Arguments} {body : List Stmt} {scope : Scope} {dV kV doc pm cdv ct oc : Value} {an od : Option Addr} {osl : Array (Option Value)} {f : Addr} {args : Args} {vals : List Value}
/-- enter a def whose ground is all of the caller's heap but one object -/
theorem enterH {e : Addr} {o : Obj} (B : Below A₀ base outer h₀) (F : Fr h₀ L s.heap m) (X₀ : K.In h₀) (T : Top p loose mean mg mb h₀) (he : s.heap.get? e = some o) (hen : h₀.get? e = none) (heL : e ≠ L)
    (hA : A.frames = some (env :: outer)) (hf : env.frame = some L) (hke : env.scope.kind = .function)
    (ho : K.lookup f = some ⟨oc, od, .func (fnOf name qual params body scope dV kV doc pm an cdv ct), osl⟩) (hcd : codeIn K cdv qual = true) (hroom : A.depth < recursionLimit)
    (hbind : BindsTo s (fnOf name qual params body scope dV kV doc pm an cdv ct) ⟨vals, []⟩ ((params.args.map (·.arg)).zip vals)) (hloc : ∀ y ∈ (params.args.map (·.arg)).zip vals, scope.names.lookup y.1 = some .local)
    (h : ∀ g L' h₁ tk, g = hideAll s.heap [e] → Fr g L' h₁ (fun y => ((params.args.map (·.arg)).zip vals).reverse.lookup y) → News g L' h₁ [(e, o)] → Below A base (env :: outer) g → K.In g → Top p loose mean mg mb g →
      wpAny (model prog w) (A.deeper (envOf qual scope L' f cdv)) (execs body (envOf qual scope L' f cdv))
        (fun fl s' => R (.ok (.ret (match fl with | .ret v => v | _ => .none))) s')
        (fun e s' => wpAny (model prog w) (A.deeper (envOf qual scope L' f cdv)) (leaving (envOf qual scope L' f cdv) e) (fun _ s'' => R (.error e) s'') (fun e' s'' => R (.error e') s'') s')
        { s with heap := h₁, toks := tk })
    (hco : scope.isCoroutine = false) (hgen : scope.isGenerator = false) (hk : scope.kind = .function)
    (hcell : ∀ x ∈ scope.names, x.2 ≠ .cell) : codeAny (model prog w) A (.call (.ref f) ⟨vals, []⟩) R s := by
  have N : News h₀ L s.heap [(e, o)] := fun q hq => by
    rw [List.mem_singleton.mp hq]; exact ⟨he, heL, hen⟩
  obtain ⟨FG, BG, st, _⟩ := groundX (R := R) B F N hA hf hke
  refine codeAny_call_def (fd := fnOf name qual params body scope dV kV doc pm an cdv ct) (body := body) (binds := (params.args.map (·.arg)).zip vals) hroom ((X₀.keeps F.keep) _ _ ho) rfl (T.nolimit.keeps F.keep) (codeRec_of (X₀.keeps F.keep) hcd) rfl hbind hcell hloc (fun h₁ hns hk₁ => ?_) hco hgen hk
  exact h _ s.heap.objs.size h₁ _ rfl ⟨hns, fun b o e => hk₁ b o (of_hideAll _ e), Nat.le_of_eq (hideAll_size _ _)⟩
    (fun q hq => by rw [List.mem_singleton.mp hq]; exact ⟨hk₁ _ _ he, Nat.ne_of_lt (Heap.lt_size he), hideAll_none _ (.head _)⟩) BG (X₀.keeps st) (T.keeps st)
end
/-- one object of the ledger is another one now -/
theorem upd1 {g h h' : Heap} {L e : Addr} {m : Str → Option Value} {o o' : Obj} {news : List (Addr × Obj)} (F : Fr g L h m) (N : News g L h ((e, o) :: news)) (hne : ∀ q ∈ news, q.1 ≠ e) (hk : ∀ b x, b ≠ e → h.get? b = some x → h'.get? b = some x) (he : h'.get? e = some o') :
    Fr g L h' m ∧ News g L h' ((e, o') :: news) := by
  have n1 := N (e, o) (.head _)
  refine ⟨⟨F.ns.at' fun x q => hk _ x (fun q' => n1.2.1 q'.symm) q, fun b x q => hk b x (fun q' => by have := n1.2.2; rw [q'] at q; rw [q] at this; cases this) (F.keep b x q), F.above⟩, fun q hq => ?_⟩
  rcases List.mem_cons.mp hq with rfl | hq
  · exact ⟨he, n1.2⟩
  · exact ⟨hk _ _ (hne q hq) (N q (.tail _ hq)).1, (N q (.tail _ hq)).2⟩

theorem ways_44 : Ways "Exception" [.ref 31, .type "Exception", .type "BaseException", .type "object"] := ⟨by decide, by decide, by decide, by decide⟩

theorem meta_exception : typeOf (.type "Exception") = pure (.type "type") := by kernel_rfl
theorem cls44 (P : Params) : (hd.heap_1 P).lookup 44 = some (excClassObj "Misused" "Misused" 44 43 [.ref 31] [.ref 31, .type "Exception", .type "BaseException", .type "object"] true [] [] false none none (some (.ref 35)) none (some (.str "Misused" 218)) (some (.str "Misused" 226)) (some (.bool true)) "Exception.__new__") := by k_is
theorem init28 {dp un : Nat} {gd : Option (List Code)} {cn : Str} {cs : Scope} {a : Addr} {ccd : Value} {cl : List (Str × Addr)} {outer : List Env} {A₀ : Around} {base h₀ : Heap} {L : Addr} {m : Str → Option Value} {s : Shared} {Q E : Value → Shared → Prop} {e t0 : Addr} {why : Str} {t : Tok}
    (B : Below A₀ base outer h₀) (F : Fr h₀ L s.heap m) (X : (hd.heap_1 w.params).In h₀) (T : Top p loose mean mg mb h₀) (hk : cs.kind = .function) (hd : dp + 1 < recursionLimit)
    (he : s.heap.get? e = some (excObj 44 t0 none)) (hen : h₀.get? e = none) (heL : e ≠ L)
    (hQ : ∀ h' tk' t2 dd, (∀ b o, b ≠ e → s.heap.get? b = some o → h'.get? b = some o) → h'.get? e = some (excObj 44 t2 (some dd)) → Q .none { s with heap := h', toks := tk' }) :
    wpAny (model lawProg w) (ktrTop dp un gd cn cs L a ccd cl outer) (call (.ref 28) [.ref e, .str why t]) Q E s := by
  refine wpAny_call ?_
  k_dflt (refine' enterH B F X T he hen heL ?kA ?kF ?kK ?k6 ?k7 ?k8 ?k9 ?kB ?_ ?c2 ?c3 ?c4 ?c5; (case kA => exact rfl); (case kF => exact rfl); (case kK => assumption); (case k6 => k_is); (case k7 => k_is); (case k8 => ktr_room); (case k9 => exact BindsTo.of_eq rfl); (case c5 => decide); (case kB => exact locs rfl); (case c2 => exact rfl); (case c3 => exact rfl); (case c4 => exact rfl); k_whole; intro g L' h' tk' hg F' N' B' X' T'; (try simp only [List.map_cons, List.map_nil, List.zip_cons_cons, List.zip_nil_right, List.zip_nil_left, List.reverse_cons, List.nil_append, List.cons_append, List.reverse_nil] at F'); (try dsimp only); (try k_fold))
  k_steps
  refine' method_type ?F ?X ?m (by decide +kernel) ?e ?h ?_
  case F => k_asm
  case X => k_asm
  case m => exact meta_exception
  case e => k_dflt k_is
  case h => k_handed
  k_steps
  have hC := (X'.keeps F'.keep) 44 _ (cls44 w.params)
  have heI := (N' _ (.head _)).1
  refine own_init PySem.F.excBase_Exception ways_44 (by rw [sizeLine_eq]; exact (by decide : 1 ≤ 16777216)) hC heI fun h₂ kp₂ he₂ _ => ?_
  obtain ⟨F₂, N₂⟩ := upd1 F' N' (fun _ q => nomatch q) kp₂ he₂
  clear he₂ heI
  k_steps
  have hC₂ := (X'.keeps F₂.keep) 44 _ (cls44 w.params)
  have heI₂ := (N₂ _ (.head _)).1
  refine own_store PySem.F.store_Exception (by decide) hC₂ (by rw [refuseLoop_ref]; exact PySem.F.store_Exception.passes _) (looks_findIn (X'.keeps F₂.keep) (by k_is)) (looks_findIn (X'.keeps F₂.keep) (by k_is)) heI₂ fun h₃ tk₃ he₃ kp₃ => ?_
  obtain ⟨F₃, N₃⟩ := upd1 F₂ N₂ (fun _ q => nomatch q) kp₃ he₃
  clear he₃ heI₂
  k_steps
  exact hQ h₃ tk₃ _ _ (fun b o hb ho => F₃.keep b o (hg ▸ hideAll_get _ ho fun hm => hb (List.mem_singleton.mp hm))) (N₃ _ (.head _)).1

theorem mis_call {dp un : Nat} {gd : Option (List Code)} {cn : Str} {cs : Scope} {a : Addr} {ccd : Value} {cl : List (Str × Addr)} {outer : List Env} {A₀ : Around} {base h₀ : Heap} {L : Addr} {m : Str → Option Value} {s : Shared} {Q E : Value → Shared → Prop} {why : Str} {t : Tok}
    (B : Below A₀ base outer h₀) (F : Fr h₀ L s.heap m) (X : (hd.heap_1 w.params).In h₀) (T : Top p loose mean mg mb h₀) (hk : cs.kind = .function) (hd : dp + 2 < recursionLimit)
    (hQ : ∀ h' tk' e t2 dd, (∀ b o, s.heap.get? b = some o → h'.get? b = some o) → s.heap.get? e = none → h'.get? e = some (excObj 44 t2 (some dd)) → Q (.ref e) { s with heap := h', toks := tk' }) :
    wpAny (model lawProg w) (ktrTop dp un gd cn cs L a ccd cl outer) (call (.ref 44) [.str why t]) Q E s := by
  have hC := (X.keeps F.keep) 44 _ (cls44 w.params)
  obtain ⟨h, g, d, tk, os⟩ := s
  refine own_call PySem.F.excBase_Exception ways_44 hC (looks_findIn (X.keeps F.keep) (by k_is)) ((X.keeps F.keep) 28 _ (by k_is)) rfl (by rw [sizeLine_eq]; exact (by decide : 1 ≤ 16777216)) ?_
  have up : ∀ b o, h.get? b = some o → ((h.push (tupObj [.str why t])).push (excObj 44 h.objs.size none)).get? b = some o := fun b o e => Heap.get?_push_of_some _ (Heap.get?_push_of_some _ e)
  have hlt : ∀ b o, h.get? b = some o → b ≠ h.objs.size + 1 := fun b o e => Nat.ne_of_lt (Nat.lt_succ_of_lt (Heap.lt_size e))
  show wpAny (model lawProg w) (ktrTop (dp + 1) _ _ cn cs L a ccd cl outer) _ _ _ _
  refine init28 (s := ⟨_, _, _, _, _⟩) (e := h.objs.size + 1) (t0 := h.objs.size) B (F.keeps up) X T hk (by omega) ?_ ?_ ?_ ?_
  · exact (by heap_get)
  · exact Heap.get?_none_of_le (Nat.le_trans F.above (Nat.le_trans (Nat.le_of_lt F.ns.lt) (Nat.le_succ _)))
  · exact fun q => Nat.lt_irrefl _ (Nat.lt_of_le_of_lt (Nat.le_succ _) (q ▸ F.ns.lt))
  · intro h' tk' t2 dd kp he
    exact ⟨rfl, hQ h' tk' _ t2 dd (fun b o ho => kp b o (hlt b o ho) (up b o ho)) (Heap.get?_none_of_le (Nat.le_succ _)) he⟩
end
end
section
open PySem.Calls
noncomputable abbrev RetT := Heap → Ret
/-- as Tells, for a call that does not come back: the base is told too -/
noncomputable def TellsX (w : World) (p : Program) (loose : List Str) (mean : ExcName → Option Value) (mg mb : Str → Option Value) (d : Nat) (f : Addr) (news : CbLed) (vs : List Value) (R : RetT) : Prop :=
  ∀ (dp un : Nat) (gd : Option (List Code)) (cn : Str) (cs : Scope) (a : Addr) (ccd : Value) (cl : List (Str × Addr)) (outer : List Env) (A₀ : Around) (base h₀ : Heap) (L : Addr) (m : Str → Option Value) (s : Shared) (Q E : Value → Shared → Prop),
    Below A₀ base outer h₀ → Fr h₀ L s.heap m → (hd.heap_1 w.params).In h₀ → News h₀ L s.heap news → Top p loose mean mg mb h₀ → cs.kind = .function → dp + d < recursionLimit → un + 8 * d < cLine →
    R base h₀ L m news s Q E (envX cn cs L a ccd cl :: outer) →
    wpAny (model lawProg w) (ktrTop dp un gd cn cs L a ccd cl outer) (call (.ref f) vs) Q E s
noncomputable abbrev RetX : RetT := fun base _ _ _ _ s _ E fr => ∀ (e : Addr) (h' : Heap) (tk' : Nat), RaisedSN base s.heap fr e (.ref 44) [] h' → s.heap.UpToSlots h' → E (.ref e) { s with heap := h', toks := tk' }

section
variable {M : Model} {A : Around} {E : Value → Shared → Prop} {s' : Shared} {base g g₂ h : Heap} {outer : List Env} {L e C : Addr} {m : Str → Option Value} {env : Env} {Q : Unit → Shared → Prop}
theorem mem_fr {b : Addr} (hf : env.frame = some L) (hm : b ∈ (env :: outer).filterMap (·.frame)) : b = L ∨ b ∈ outer.filterMap (·.frame) := by
  obtain ⟨x, hx, hxf⟩ := List.mem_filterMap.mp hm
  rcases List.mem_cons.mp hx with rfl | hx
  · exact .inl (Option.some.inj (hf.symm.trans hxf)).symm
  · exact .inr (List.mem_filterMap.mpr ⟨x, hx, hxf⟩)
/-- an own exception, made in this frame, leaves it -/
theorem leave_newO {t : Addr} {dd : Option Addr} (K : Below A base outer g) (F : Fr g L h m) (hf : env.frame = some L) (hk : env.scope.kind = .function) (hkeep : ∀ b o, h.get? b = some o → s'.heap.get? b = some o) (hnew : h.get? e = none)
    (he : s'.heap.get? e = some (excObj C t dd)) (hQ : ∀ h', RaisedSN base g outer e (.ref C) [] h' → g.UpToSlots h' → Q () { s' with heap := h' }) :
    wpAny M (A.deeper env) (leaving env (.ref e)) Q E s' := by
  have K' := pushX K F hf hk
  have hin : ∀ x ∈ (env :: outer), ∀ b, x.frame = some b → b ∈ (env :: outer).filterMap (·.frame) := fun x he b hb => List.mem_filterMap.mpr ⟨x, he, hb⟩
  have st : base.StaysIn (hideAll h ((env :: outer).filterMap (·.frame))) := fun b o q => hideAll_get _ (K'.stays b o q) fun hm => by
    rw [(K'.frames.mem hm).1] at q; cases q
  have sg : ∀ b o, g.get? b = some o → b ∉ outer.filterMap (·.frame) → (hideAll h ((env :: outer).filterMap (·.frame))).get? b = some o := fun b o q nm => hideAll_get _ (F.keep b o q) fun hm => by
    rcases mem_fr hf hm with z | z
    · rw [z, kts_self F] at q; cases q
    · exact nm z
  have hen : (hideAll h ((env :: outer).filterMap (·.frame))).get? e = none := by
    cases q : (hideAll h ((env :: outer).filterMap (·.frame))).get? e with
    | none => rfl
    | some o => have := of_hideAll _ q; rw [hnew] at this; cases this
  refine wpAny_leaving_firstW (a0 := .ref t) K'.stack ((funFrames_hide K'.frames hin).of_keeps fun b o hb _ => ⟨o, hkeep b o hb, rfl⟩) hf he (fun b o hb => hkeep b o (of_hideAll _ hb)) hen rfl rfl rfl fun h' hL => ?_
  obtain ⟨k1, ⟨_, _, k2⟩, k3, k4⟩ := hL
  exact hQ h' ⟨_, .ref t, st, sg, (fun _ q => nomatch q), k1, hen, k2, k3⟩ (((Heap.UpToSlots.of_keeps F.keep).trans (Heap.UpToSlots.of_keeps hkeep)).trans k4)

/-- an exception that came up from a call leaves this frame too -/
theorem leave_onO {cls : Value} (K : Below A base outer g) (F : Fr g L g₂ m) (hf : env.frame = some L) (R : RaisedSN base g₂ (env :: outer) e cls [] s'.heap) (hsm : g₂.UpToSlots s'.heap)
    (hQ : ∀ h', RaisedSN base g outer e cls [] h' → g.UpToSlots h' → Q () { s' with heap := h' }) :
    wpAny M (A.deeper env) (leaving env (.ref e)) Q E s' := by
  obtain ⟨B, a0, hB, hBG, _, hfl⟩ := R
  exact wpAny_leaves_onW (Around.frames_deeper K.stack) hf hfl fun h' x1 x2 =>
    hQ h' ⟨B, a0, hB, fun b o q nm => hBG b o (F.keep b o q) (fun hm => by
      rcases mem_fr hf hm with z | z
      · rw [z, kts_self F] at q; cases q
      · exact nm z), (fun _ q => nomatch q), x1⟩ ((Heap.UpToSlots.of_keeps F.keep).trans (hsm.trans x2))
end

section
variable {prog : Program} {w : World} {A : Around} {E : Value → Shared → Prop} {s : Shared} {env : Env}
theorem raise_own {nm q : Str} {C N : Addr} {bs bm : List Value} {hdct : Bool} {sn : List Str} {sub : List Value} {ab : Bool} {col : Option Bool} {dd : Option Addr} {k0 k1 k2 k3 k5 : Option Value} {newId : String} {x : Expr} {pos : Pos} {Q : Flow → Shared → Prop}
    (hbase : bm.contains (.type "BaseException") = true) (hh : A.handled = none)
    (h : wpAny (model prog w) A (eval x env) (fun v s₁ => ∃ e t d, v = .ref e ∧ s₁.heap.get? C = some (excClassObj nm q C N bs bm hdct sn sub ab col dd k0 k1 k2 k3 k5 newId) ∧ s₁.heap.get? e = some (excObj C t d) ∧ E (.ref e) s₁) E s) :
    wpAny (model prog w) A (exec (.Raise (some x) none pos) env) Q E s := by
  have up : (Value.ref C :: bm).contains (.type "BaseException") = true := by rw [List.contains_cons, hbase, Bool.or_true]
  rw [arm_exec_Raise]
  refine wpAny_bind (wpAny_standAt ?_)
  simp only [evalOpt, Option.map]
  unfold raiseStmt
  refine wpAny_bind (wpAny_bind (wpAny_mono h (fun v s₁ h₁ => ?_) fun _ _ x => x))
  refine wpAny_bind (wpAny_standAt (wpAny_pure ?_))
  obtain ⟨e, t, d, rfl, hC, he, hE⟩ := h₁
  obtain ⟨hp, g, dr, tk, os⟩ := s₁
  repeat (first | with_reducible refine wpAny_loadPart_at he ?_ | with_reducible refine wpAny_loadPart_at hC ?_ | (with_reducible refine wpAny_isSubtype_exc hC ?_; rw [up]) | wp_step)
  exact wpAny_raiseNew_none hh hE
end

section
variable {w : World} {p : Program} {loose : List Str} {mean : ExcName → Option Value} {mg mb : Str → Option Value} {d : Nat} {f : Addr} {news : CbLed} {vs : List Value} {R : RetT}
  {dp un : Nat} {gd : Option (List Code)} {cn : Str} {cs : Scope} {a : Addr} {ccd : Value} {cl : List (Str × Addr)} {outer : List Env} {A₀ : Around} {base h₀ : Heap} {L : Addr} {m : Str → Option Value} {s : Shared} {Q E : Value → Shared → Prop}
theorem tellX (C : TellsX w p loose mean mg mb d f news vs R) (B : Below A₀ base outer h₀) (F : Fr h₀ L s.heap m) (X : (hd.heap_1 w.params).In h₀) (N : News h₀ L s.heap news) (T : Top p loose mean mg mb h₀) (hk : cs.kind = .function) (hd : dp + d < recursionLimit) (hu : un + 8 * d < cLine)
    (ret : R base h₀ L m news s Q E (envX cn cs L a ccd cl :: outer)) : wpAny (model lawProg w) (ktrTop dp un gd cn cs L a ccd cl outer) (call (.ref f) vs) Q E s := C _ _ _ _ _ _ _ _ _ _ _ _ _ _ _ _ _ B F X N T hk hd hu ret
end
end
section
open PySem.Calls
section
variable {w : World} {mean : ExcName → Option Value} {mg mb : Str → Option Value} {p : Program} {loose : List Str}
theorem inverse0_tells (news : CbLed) (t : CbTok) : TellsX w p loose mean mg mb 4 74 news [.int 0 t] RetX := by
  k_extra "tb_start"
  k_steps
  · exact kp9 _ _ ((X'.keeps F'.keep) 44 _ (cls44 w.params))
  · exact leave_newO B' F' rfl rfl kp9 new9 he9 fun h2 R2 U2 => hret _ _ _ R2 U2

theorem divided_tells (news : CbLed) (x y : Int) (t u : CbTok) (hx : Oct x) (hy : Oct y) (h0 : y ≠ 0) : Tells w p loose mean mg mb 5 81 news [.int x t, .int y u] (RetI (mulI x (powI y 254))) := by
  k_extra "tb_start"
  k_steps
  all_goals first | (refine cb_retI hret ?_ (by k_asm) (newsBack N (by assumption)); with_reducible rfl) | fail "open"

theorem divided0_tells (news : CbLed) (x : Int) (t u : CbTok) : TellsX w p loose mean mg mb 5 81 news [.int x t, .int 0 u] RetX := by
  k_extra "tb_start"
  k_steps
  exact leave_onO B' F' rfl R9 U9 fun h2 R2 U2 => hret _ _ _ R2 U2
end
end
section
open PySem.Calls PyProof.Rows.LCg PySem.W.KBw
section
variable {w : World} {mean : ExcName → Option Value} {mg mb : Str → Option Value} {p : Program} {loose : List Str}
theorem len_any {prog : Program} {w : World} {A : Around} {E : Value → Shared → Prop} {s : Shared} {l : Addr} {vs : List Value} {Q : Value → Shared → Prop} (hl : s.heap.IsList l vs.toArray) {n : Nat} (hv : vs.length = n) (hn : n ≤ 1099511627776) (h : ∀ t k, Q (.int (n : Int) t) { s with toks := k }) :
    wpAny (model prog w) A (call (.builtin "len") [.ref l]) Q E s := by
  subst hv
  refine call_len_list hl (by rw [List.size_toArray]; omega) ?_
  rw [List.size_toArray]
  exact h _ _
theorem rows_range {n : Nat} {M : List (List Int)} (h : M.length = n) : (List.range n).map (fun i => M.getD i []) = M := by
  apply List.ext_getElem
  · simp [h]
  · intro i h1 h2
    simp [List.getD_eq_getElem?_getD, h2]
local macro_rules | `(tactic| k_mem) => `(tactic| k_extra "kfm_cat1@Turn1")
theorem turned_tells (news : CbLed) (l : Addr) (n : Nat) (M : List (List Int)) (hM : Mat n M) (hn : n ≤ 63) : TellsX w p loose mean mg mb 6 103 news [.ref l] (fun base h₀ L m news s Q E fr =>
    GRows s.heap l M ∧ (∀ R, turnedI n M = some R → ∀ D vs k led h' tk', Fr h₀ L h' m → News h₀ L h' ((D, listOf vs.toArray k) :: led) → (∀ q ∈ led, q.1 ≠ D) → Rows [D] vs R led → (∀ q ∈ news, q ∈ led) → Q (.ref D) { s with heap := h', toks := tk' }) ∧
    (turnedI n M = none → RetX base h₀ L m news s Q E fr)) := by
  intro dp un gd cn cs a ccd cl outer A₀ base h₀ L m s Q E B F X N T hk hd hu hret
  obtain ⟨⟨gvs, hL, hlen, hrows⟩, hret, hraise⟩ := hret
  refine wpAny_call ?_
  k_dflt (refine' enterC B F X T ?kA ?kF ?kK ?k6 ?k7 ?k8 ?k9 ?kB ?kD ?_ ?c2 ?c3 ?c4; (case kA => exact rfl); (case kF => exact rfl); (case kK => assumption); (case k6 => k_is); (case k7 => k_is); (case k8 => ktr_room); (case k9 => exact BindsTo.of_eq rfl); (case kB => exact rfl); (case kD => decide +kernel); (case c2 => exact rfl); (case c3 => exact rfl); (case c4 => exact rfl); k_whole; intro L' h' tk' cells' F' N' Y' B' X' T'; k_cells Y'; (try simp only [List.map_cons, List.map_nil, List.zip_cons_cons, List.zip_nil_right, List.zip_nil_left] at F'); (try dsimp only); (try k_fold))
  rename_i e1 e2 e3
  have dA : _ = Data.cell none := e1
  have dL : _ = Data.cell none := e2
  have dM : _ = Data.cell none := e3
  clear e1 e2 e3
  have hne : l ≠ L' := fun e => by obtain ⟨o, ho, _⟩ := hL; exact absurd (Heap.lt_size ho) (e ▸ Nat.not_lt.mpr F'.above)
  have hLl := Fr.lst F' hL
  have hgl : gvs.length ≤ 63 := by rw [hlen, hM.1]; exact hn
  k_extra "kd_adr"
  refine len_any (vs := gvs) hLl (hlen.trans hM.1) (by omega) ?_
  k_extra "kd_adr"
  refine comp_rows (n := n) (Bd := fun i m₂ => ∃ v, m₂ (Str.ofString "row") = some v ∧ gvs.toArray[i]? = some v) (g := fun i => M.getD i []) [L' + 1, L' + 1 + 1, L' + 1 + 1 + 1] (by assumption) (by assumption) (fun a ha => by simp only [List.mem_cons, List.not_mem_nil, or_false] at ha; rcases ha with rfl | rfl | rfl <;> exact ⟨_, by k_mem⟩) (by rfl) (by decide) (by rfl) (by decide) (by rw [sizeLine_eq]; omega) ?elem ?src
  case elem =>
    intro s₁ i C oC m₂ rest E₁ hi hoC hBd F₁ N₁ hsub
    obtain ⟨v, hv, hit⟩ := hBd
    obtain ⟨b, its, hb1, hb2, hb3⟩ := hrows i (by rw [hM.1]; exact hi)
    have hvb : v = Value.ref b := by
      rw [List.getElem?_toArray, hb1] at hit; exact (Option.some.inj hit).symm
    subst hvb
    have hb2' := Fr.lst F₁ hb2
    k_steps
    refine list_copyK (by k_asm) (by k_asm) hb2' (fun D c h' Fh Nh l1 => ⟨D, its, c, h', _, rfl, rfl, Fh, Nh, fun q hq => Nat.ne_of_lt (l1 q hq), hb3⟩) (by rw [List.size_toArray, hb3.length, (mat_getD hM hi).1, sizeLine_eq]; omega)
  case src =>
    k_steps
    refine src_list rfl rfl rfl (by assumption) (by assumption) (Fr.lst (by assumption) hL) hne (by rw [List.size_toArray, hlen, hM.1]) fun h₂ => ?_
    intro aL vsL kL led₁ h₃ tk₃ F₃ N₃ oL lt₃ sub₃ R₃
    have hRL : (List.range n).map (fun i => M.getD i []) = M := rows_range hM.1
    rw [hRL] at R₃
    have cA : (L' + 1 + 1 + 1, _) ∈ (aL, listOf vsL.toArray kL) :: led₁ := .tail _ (sub₃ (L' + 1 + 1 + 1, _) (by k_mem))
    have cL : (L' + 1 + 1, _) ∈ (aL, listOf vsL.toArray kL) :: led₁ := .tail _ (sub₃ (L' + 1 + 1, _) (by k_mem))
    have cM : (L' + 1, _) ∈ (aL, listOf vsL.toArray kL) :: led₁ := .tail _ (sub₃ (L' + 1, _) (by k_mem))
    have laL : @LT.lt Nat _ (L' + 1 + 1 + 1) aL := lt₃ (L' + 1 + 1 + 1, _) (by k_mem)
    dsimp only
    k_dflt (refine store_cell (c := L' + 1 + 1) F₃ N₃ cL dL rfl rfl rfl ?_)
    intro h₄ oLf dLf F₄ N₄
    k_extra "kd_adr"
    have cA4 := mem_upd_ne (a := L' + 1 + 1) (o := oLf) cA (by show @Ne Nat _ _; omega)
    have cL4 := mem_upd_self (o := oLf) cL
    have cM4 := mem_upd_ne (a := L' + 1 + 1) (o := oLf) cM (by show @Ne Nat _ _; omega)
    have aL4 : (aL, listOf vsL.toArray kL) ∈ updL (L' + 1 + 1) oLf ((aL, listOf vsL.toArray kL) :: led₁) := mem_upd_ne (.head _) (by show @Ne Nat _ _; omega)
    have R4 : Rows [aL, L' + 1, L' + 1 + 1, L' + 1 + 1 + 1] vsL M (updL (L' + 1 + 1) oLf ((aL, listOf vsL.toArray kL) :: led₁)) := (R₃.cons).upd (by simp)
    generalize updL (L' + 1 + 1) oLf ((aL, listOf vsL.toArray kL) :: led₁) = led₄ at *
    refine comp_rows_cell_s (n := n) (x := Str.ofString "at") (y := Str.ofString "right") (g := fun at_ => (List.range n).map fun place => if place = at_ then 1 else 0) [aL, L' + 1, L' + 1 + 1, L' + 1 + 1 + 1] F₄ N₄ rfl (fun a ha => by simp only [List.mem_cons, List.not_mem_nil, or_false] at ha; rcases ha with rfl | rfl | rfl | rfl <;> exact ⟨_, by k_mem⟩) (by with_unfolding_all rfl) rfl rfl rfl (by rfl) (fun _ => rfl) (fun _ => rfl) (fun _ _ => rfl) rfl (by decide) (by rw [sizeLine_eq]; omega) ?elem ?src
    case elem =>
      intro s₁ i C c oC oc m₂ v rest E₁ hi hoC hdc hV F₁ N₁ hsub
      obtain ⟨tv, rfl⟩ := hV
      refine comp_ints (n := n) (Bd := fun j m₃ => ∃ v, m₃ (Str.ofString "place") = some v ∧ ∃ t, v = .int (0 + (j : Int)) t) (g := fun j => if j = i then 1 else 0) (by assumption) (by assumption) (by rfl) (by decide) (by rfl) (by decide) (by rw [sizeLine_eq]; omega) ?elem2 ?src2
      case elem2 =>
        intro s₂ j C₂ oC₂ m₃ rest₂ E₂ hj hoC₂ hBd F₂ N₂ hsub₂
        obtain ⟨v₂, hv₂, t₂, rfl⟩ := hBd
        k_steps
        refine eltPost (by assumption) (by assumption) ?_ subSelf
        show (if ((0 + (j : Int)) == 0 + (i : Int)) = true then (1 : Int) else 0) = if j = i then 1 else 0
        by_cases hji : j = i
        · subst hji; simp
        · rw [if_neg hji, if_neg]
          simp only [beq_iff_eq]; omega
      case src2 =>
        k_steps
        refine src_range (n := n) rfl rfl rfl (by assumption) (by assumption) (by assumption) (small_one (by omega) (by omega) (by omega) (by omega)) (by rw [rangeSize_nat, Int.sub_zero, Int.toNat_natCast]) fun h₂ => ?_
        intro D vs kk h₃ tk₃ F₃ N₃ lt₃ I₃
        exact ⟨D, vs, kk, h₃, tk₃, rfl, rfl, F₃, N₃, fun q hq => Nat.ne_of_lt (lt₃ q hq), I₃⟩
    case src =>
      k_steps
      refine ⟨_, _, _, _, _, rfl, by assumption, small_one (by omega) (by omega) (by omega) (by omega), by rw [rangeSize_nat, Int.sub_zero, Int.toNat_natCast], by assumption, by assumption, ?_⟩
      intro aR vsR kR led₅ h₅ tk₅ F₅ N₅ oR lt₅ sub₅ R₅
      dsimp only
      have X₅ : TF n (L' + 1) (L' + 1 + 1) (L' + 1 + 1 + 1) none aL kL vsL aR kR vsR (M, ident n) ((aR, listOf vsR.toArray kR) :: led₅) := by
        have z1 : @LT.lt Nat _ (L' + 1) aR := lt₅ (L' + 1, _) cM4
        have z2 : @LT.lt Nat _ (L' + 1 + 1) aR := lt₅ (L' + 1 + 1, _) cL4
        have z3 : @LT.lt Nat _ (L' + 1 + 1 + 1) aR := lt₅ (L' + 1 + 1 + 1, _) cA4
        have z4 : @LT.lt Nat _ aL aR := lt₅ _ aL4
        refine ⟨⟨_, _, .tail _ (sub₅ _ cM4), by assumption⟩, ⟨_, .tail _ (sub₅ _ cL4), dLf⟩, ⟨_, .tail _ (sub₅ _ cA4), dA⟩, .tail _ (sub₅ _ aL4), .head _, by show @Ne Nat _ _; omega, by show @Ne Nat _ _; omega, by show @Ne Nat _ _; omega, by show @Ne Nat _ _; omega, ?_, ?_, ?_, R₅.cons.narrow (by simp)⟩
        · simp only [List.mem_cons, List.not_mem_nil, or_false, not_or]; exact ⟨by show ¬ @Eq Nat _ _; omega, by show ¬ @Eq Nat _ _; omega, by show ¬ @Eq Nat _ _; omega⟩
        · simp only [List.mem_cons, List.not_mem_nil, or_false, not_or]; exact ⟨by show ¬ @Eq Nat _ _; omega, by show ¬ @Eq Nat _ _; omega, by show ¬ @Eq Nat _ _; omega⟩
        · exact (((R4.widen fun q hq => Nat.ne_of_lt (lt₅ q hq)).mono fun q hq _ => sub₅ q hq).cons).narrow (by simp)
      k_extra "kfm_num@Turn1"
      obtain ⟨oM5, tM5, hM5, dM5⟩ := X₅.cM
      clear cA cL cM cA4 cL4 cM4 aL4 R4 sub₅ lt₅ R₅ oR R₃ oL lt₃ sub₃ hRL dA dL dM dLf laL
      (with_unfolding_all refine' For_turns F₅ ?_)
      k_steps
      refine rng_turns (n := n) rfl (by assumption) (by assumption) (by assumption) (small_one (by omega) (by omega) (by omega) (by omega)) (by rw [rangeSize_nat, Int.sub_zero, Int.toNat_natCast])
        (fun i m' led => ∃ vA aL kL vsL aR kR vsR P, m' (Str.ofString "right") = some (.ref aR) ∧ turnIter n M i = some P ∧ TF n (L' + 1) (L' + 1 + 1) (L' + 1 + 1 + 1) vA aL kL vsL aR kR vsR P led)
        ⟨_, _, _, _, _, _, _, _, if_pos rfl, rfl, X₅⟩ ?step ?done
      case step =>
        clear hM5 dM5 X₅
        dsimp only
        rintro i t m₁ led h₆ tk₆ I oI hi ⟨vA, aL, kL, vsL, aR, kR, vsR, P, hmR, hP, X₆⟩ hoI F₆ N₆
        obtain ⟨oA6, hA6, dA6⟩ := X₆.cA
        refine wpAny_assign_Name (store_cell (c := L' + 1 + 1 + 1) F₆ N₆ (.tail _ hA6) dA6 rfl rfl rfl ?_)
        intro h₇ oA7 dA7 F₇ N₇
        rw [Int.zero_add] at dA7
        have hIc : I ≠ L' + 1 + 1 + 1 := Ne.symm (hoI _ hA6)
        rw [updL_cons hIc] at N₇
        have X₇ := X₆.setA dA7
        have hoI₇ : Off _ I := off_upd (o := oA7) hoI hA6
        have kL₇ := X₇.mL
        clear X₆ hoI hA6 dA6 hIc N₆ F₆
        generalize updL (L' + 1 + 1 + 1) oA7 led = led₇ at *
        change Fr s.heap L' h₇ m₁ at F₇
        change News s.heap L' h₇ _ at N₇
        obtain ⟨oM7, tM7, hM7, dM7⟩ := X₇.cM
        obtain ⟨oL7, hL7, dL7⟩ := X₇.cL
        obtain ⟨oA, hA7, dA⟩ := X₇.cA
        have kM7 : (L' + 1, oM7) ∈ (I, oI) :: led₇ := .tail _ hM7
        have kL7 : (L' + 1 + 1, oL7) ∈ (I, oI) :: led₇ := .tail _ hL7
        have kA7 : (L' + 1 + 1 + 1, oA) ∈ (I, oI) :: led₇ := .tail _ hA7
        obtain ⟨mL, mR⟩ := mat_turnIter hM i (by omega) P hP
        have hlR := X₇.rL.1
        have hrR := X₇.rR.1
        dsimp only
        k_extra "kd_p"
        refine comp_ints_if_s (n := n - i) (y := Str.ofString "picks") (Bd := fun j m₃ => ∃ v, m₃ (Str.ofString "place") = some v ∧ ∃ t, v = .int ((i : Int) + (j : Int)) t) (g := fun j => (i : Int) + (j : Int)) (b := fun j => decide (ent P.1 (i + j) i ≠ 0)) F₇ N₇ (by with_unfolding_all rfl) rfl rfl rfl (by rfl) (by decide) (by rfl) (by decide) (by rw [sizeLine_eq]; omega) ?test ?elem ?src
        case test =>
          intro s₁ j C oC m₂ rest Q₁ E₁ hj hoC hBd F₁ N₁ hsub hQ
          obtain ⟨v₂, hv₂, t₂, rfl⟩ := hBd
          have hM8 := hsub _ kM7
          have hL8 := hsub _ kL7
          have hA8 := hsub _ kA7
          k_extra "kfm_num@Turn1"
          refine X₇.readL N₁ (.tail _ (hsub _ (.tail _ X₇.mL))) (by omega) (by rw [mL.1]; omega) (by omega) ?_
          intro b1 its1 k1 g1 g2 g3 g4
          rw [show ((i : Int) + (j : Int)).toNat = i + j by omega] at g3
          k_extra "kfm_num@Turn1"
          refine read_ent N₁ (.tail _ (hsub _ (.tail _ g2))) g3 (by omega) (by rw [(mat_getD mL (show i + j < n by omega)).1]; omega) (by omega) ?_
          intro t₃
          rw [show ((i : Int)).toNat = i by omega]
          k_extra "kfm_num@Turn1"
          rw [bne_dec]
          exact hQ _ _ (by assumption) (by assumption)
        case elem =>
          intro s₁ j C oC m₂ rest E₁ hj hoC hBd F₁ N₁ hsub
          obtain ⟨v₂, hv₂, t₂, rfl⟩ := hBd
          k_steps
          exact eltPost (by assumption) (by assumption) rfl subSelf
        case src =>
          k_steps
          refine src_range (n := n - i) rfl rfl rfl (by assumption) (by assumption) (by assumption) (small_one (by omega) (by omega) (by omega) (by omega)) (by rw [rangeSize_nat]; omega) fun h₂ => ?_
          intro D vsP kP h₈ tk₈ F₈ N₈ lt₈ I₈
          change IntsAre vsP (picks n i P.1) at I₈
          dsimp only
          k_extra "kfm_num@Turn1"
          refine eq_empty (vs := vsP) (by assumption) (by k_mem) (by k_mem) (by ke_room) ?_
          cases hpk : picks n i P.1 with
          | nil =>
            rw [hpk] at I₈
            have hv0 : vsP = [] := List.length_eq_zero_iff.mp I₈.length
            have hnone : turnedI n M = none := by
              have z : turnIter n M (i + 1) = none := by rw [turnIter, hP]; dsimp only; rw [hpk]
              rw [turnedI, turnIter_none z n (by omega)]; rfl
            subst hv0
            dsimp only [decide]
            k_extra "kfm_num@Turn1"
            · rename Fr s.heap L' _ _ => Fn
              exact kp9 _ _ ((X'.keeps Fn.keep) 44 _ (cls44 w.params))
            · rename Fr s.heap L' _ _ => Fn
              exact leave_newO B' Fn rfl rfl kp9 new9 he9 fun h2 R2 U2 => hraise hnone _ _ _ R2 U2
          | cons f rest =>
            obtain ⟨k, rfl, hik, hkn, hne0⟩ := mem_picks (hpk ▸ List.mem_cons_self : f ∈ picks n i P.1)
            rw [hpk] at I₈
            cases I₈ with
            | cons _ tf hr =>
            k_extra "kfm_num@Turn1"
            refine sub_row (v := .int (k : Int) tf) ⟨_, (by assumption : News s.heap L' _ _) _ (.tail _ (.head _)) |>.1, rfl, _, rfl⟩ rfl (by omega) (by omega) ?_
            k_extra "kfm_num@Turn1"
            refine X₇.readL (by assumption) (by k_mem) (by omega) (by rw [mL.1]; omega) (by omega) ?_
            intro b2 its2 k2 u1 u2 u3 u4
            k_extra "kfm_num@Turn1"
            refine X₇.readL (by assumption) (by k_mem) (by omega) (by rw [mL.1]; omega) (by omega) ?_
            intro b1 its1 k1 v1 v2 v3 v4
            rw [Int.toNat_natCast] at u1 u3 v1 v3
            k_extra "kfm_num@Turn1"
            refine X₇.storeL (by assumption) (by assumption) hoI₇ (by k_extra "kfm_run@Turn1") u2 u3 u4 (by omega) (by rw [mL.1]; omega) (by omega) ?_
            intro h₁₀ led₁₀ F₁₀ N₁₀ hoI₁₀ sub₁₀ X₁₀
            rw [Int.toNat_natCast] at X₁₀
            have v2' := sub₁₀ _ v2 (fun e => v4 (by rw [show b1 = aL from e]; simp))
            obtain ⟨oM10, tM10, hM10, dM10⟩ := X₁₀.cM
            obtain ⟨oL10, hL10, dL10⟩ := X₁₀.cL
            obtain ⟨oA10, hA10, dA10⟩ := X₁₀.cA
            have wL10 := X₁₀.mL
            have wR10 := X₁₀.mR
            dsimp only
            k_extra "kfm_num@Turn1"
            refine X₁₀.storeL (by assumption) (by assumption) hoI₁₀ (by k_extra "kfm_run@Turn1") v2' v3 v4 (by omega) (by rw [List.length_set, mL.1]; omega) (by omega) ?_
            intro h₁₁ led₁₁ F₁₁ N₁₁ hoI₁₁ sub₁₁ X₁₁
            rw [Int.toNat_natCast] at X₁₁
            change TF n _ _ _ _ aL kL _ aR kR _ (swapR P.1 i k, P.2) _ at X₁₁
            clear X₇ X₁₀ v2' v2 u2 v1 u1 v3 u3 v4 u4 sub₁₀ sub₁₁ hoI₁₀ hoI₇ F₁₀ N₁₀
            obtain ⟨oM11, tM11, hM11, dM11⟩ := X₁₁.cM
            obtain ⟨oL11, hL11, dL11⟩ := X₁₁.cL
            obtain ⟨oA11, hA11, dA11⟩ := X₁₁.cA
            have wL11 := X₁₁.mL
            have wR11 := X₁₁.mR
            have F₁₁' := Fr.ovr F₁₁ (x := Str.ofString "right") (v := .ref aR) (by rw [if_neg (by decide), if_neg (by decide)]; exact hmR)
            dsimp only
            have mL1 : Mat n (swapR P.1 i k) := mat_swap mL hi hkn
            k_extra "kfm_num@Turn1"
            refine X₁₁.readR (by assumption) (by k_mem) (by omega) (by rw [mR.1]; omega) (by omega) ?_
            intro b2 its2 k2 u1 u2 u3 u4
            k_extra "kfm_num@Turn1"
            refine X₁₁.readR (by assumption) (by k_mem) (by omega) (by rw [mR.1]; omega) (by omega) ?_
            intro b1 its1 k1 v1 v2 v3 v4
            rw [Int.toNat_natCast] at u1 u3 v1 v3
            k_extra "kfm_num@Turn1"
            refine X₁₁.storeR (by assumption) (by assumption) hoI₁₁ (by k_extra "kfm_run@Turn1") u2 u3 u4 (by omega) (by rw [mR.1]; omega) (by omega) ?_
            intro h₁₂ led₁₂ F₁₂ N₁₂ hoI₁₂ sub₁₂ X₁₂
            rw [Int.toNat_natCast] at X₁₂
            have v2' := sub₁₂ _ v2 (fun e => v4 (by rw [show b1 = aR from e]; simp))
            obtain ⟨oM12, tM12, hM12, dM12⟩ := X₁₂.cM
            obtain ⟨oL12, hL12, dL12⟩ := X₁₂.cL
            obtain ⟨oA12, hA12, dA12⟩ := X₁₂.cA
            have wL12 := X₁₂.mL
            have wR12 := X₁₂.mR
            dsimp only
            k_extra "kfm_num@Turn1"
            refine X₁₂.storeR (by assumption) (by assumption) hoI₁₂ (by k_extra "kfm_run@Turn1") v2' v3 v4 (by omega) (by rw [List.length_set, mR.1]; omega) (by omega) ?_
            intro h₁₃ led₁₃ F₁₃ N₁₃ hoI₁₃ sub₁₃ X₁₃
            rw [Int.toNat_natCast] at X₁₃
            change TF n _ _ _ _ aL kL _ aR kR _ (swapR P.1 i k, swapR P.2 i k) _ at X₁₃
            clear X₁₁ X₁₂ v2' v2 u2 v1 u1 v3 u3 v4 u4 sub₁₂ sub₁₃ hoI₁₂ hoI₁₁
            have mR1 : Mat n (swapR P.2 i k) := mat_swap mR hi hkn
            have hentO : Oct (ent (swapR P.1 i k) i i) := oct_ent mL1 hi hi
            have hentN : ent (swapR P.1 i k) i i ≠ 0 := by rw [ent_swap (by rw [mL.1]; omega) (by rw [mL.1]; omega)]; exact hne0
            obtain ⟨oM13, tM13, hM13, dM13⟩ := X₁₃.cM
            obtain ⟨oL13, hL13, dL13⟩ := X₁₃.cL
            obtain ⟨oA13, hA13, dA13⟩ := X₁₃.cA
            have wL13 := X₁₃.mL
            have wR13 := X₁₃.mR
            dsimp only
            k_extra "kfm_num@Turn1"
            refine X₁₃.readL (by assumption) (by k_mem) (by omega) (by rw [mL1.1]; omega) (by omega) ?_
            intro b1 its1 k1 v1 v2 v3 v4
            rw [Int.toNat_natCast] at v1 v3
            k_extra "kfm_num@Turn1"
            refine read_ent (by assumption) (.tail _ v2) v3 (by omega) (by rw [(mat_getD mL1 hi).1]; omega) (by omega) ?_
            intro t₄
            rw [Int.toNat_natCast]
            rw [show ((swapR P.1 i k).getD i []).getD i 0 = ent (swapR P.1 i k) i i from rfl]
            k_extra "kfm_num@Turn1"
            refine X₁₃.readL (by assumption) (by k_mem) (by omega) (by rw [mL1.1]; omega) (by omega) ?_
            intro b1 its1 k1 v1 v2 v3 v4
            rw [Int.toNat_natCast] at v1 v3
            k_extra "kfm_num@Turn1"
            k_dflt (refine' tell (times_row_tells _ _ _ ((swapR P.1 i k).getD i []) _ _ v3 (by rw [(mat_getD mL1 hi).1]; exact hn) (mat_getD mL1 hi).2 (oct_powI _ _)) (by k_asm) (by k_asm) (by k_asm) (by k_asm) (by k_asm) (by first | exact rfl | assumption) (by k_extra "kwd_rel") (by k_extra "kwd_less") ⟨⟨_, ((by k_asm : News s.heap L' _ _) _ (.tail _ v2)).1, rfl, _, rfl⟩, ?_⟩)
            intro a9 w9 k9 h₁₄ tk₁₄ F₁₄ N₁₄ o9 I9
            dsimp only
            k_extra "kfm_num@Turn1"
            refine X₁₃.readR (by assumption) (by k_mem) (by omega) (by rw [mR1.1]; omega) (by omega) ?_
            intro b2 its2 k2 u1 u2 u3 u4
            rw [Int.toNat_natCast] at u1 u3
            k_extra "kfm_num@Turn1"
            k_dflt (refine' tell (times_row_tells _ _ _ ((swapR P.2 i k).getD i []) _ _ u3 (by rw [(mat_getD mR1 hi).1]; exact hn) (mat_getD mR1 hi).2 (oct_powI _ _)) (by k_asm) (by k_asm) (by k_asm) (by k_asm) (by k_asm) (by first | exact rfl | assumption) (by k_extra "kwd_rel") (by k_extra "kwd_less") ⟨⟨_, ((by k_asm : News s.heap L' _ _) _ (.tail _ (.tail _ u2))).1, rfl, _, rfl⟩, ?_⟩)
            intro a10 w10 k10 h₁₅ tk₁₅ F₁₅ N₁₅ o10 I10
            dsimp only
            k_extra "kfm_num@Turn1"
            have off9 := X₁₃.off (fun q hq => o9 q (.tail _ hq))
            have off10 := X₁₃.off (fun q hq => o10 q (.tail _ (.tail _ hq)))
            have X₁₄ := X₁₃.grow (led' := (a10, listOf w10.toArray k10) :: (a9, listOf w9.toArray k9) :: led₁₃) (fun q hq => .tail _ (.tail _ hq))
            have hoI₁₄ : Off ((a10, listOf w10.toArray k10) :: (a9, listOf w9.toArray k9) :: led₁₃) I := (hoI₁₃.cons (q := (a9, _)) (Ne.symm (o9 (I, oI) (.head _)))).cons (q := (a10, _)) (Ne.symm (o10 (I, oI) (.tail _ (.head _))))
            refine X₁₄.storeL (by assumption) (by assumption) hoI₁₄ sub_perm3 (.tail _ (.head _)) I9 off9 (by omega) (by rw [mL1.1]; omega) (by omega) ?_
            intro h₁₆ led₁₆ F₁₆ N₁₆ hoI₁₆ sub₁₆ X₁₆
            rw [Int.toNat_natCast] at X₁₆
            have z10 := sub₁₆ _ (.head _) (fun e => off10 (by rw [show a10 = aL from e]; simp))
            obtain ⟨oM16, tM16, hM16, dM16⟩ := X₁₆.cM
            obtain ⟨oL16, hL16, dL16⟩ := X₁₆.cL
            obtain ⟨oA16, hA16, dA16⟩ := X₁₆.cA
            have wL16 := X₁₆.mL
            have wR16 := X₁₆.mR
            dsimp only
            k_extra "kfm_num@Turn1"
            refine X₁₆.storeR (by assumption) (by assumption) hoI₁₆ (by k_extra "kfm_run@Turn1") z10 I10 off10 (by omega) (by rw [mR1.1]; omega) (by omega) ?_
            intro h₁₇ led₁₇ F₁₇ N₁₇ hoI₁₇ sub₁₇ X₁₇
            rw [Int.toNat_natCast] at X₁₇
            change TF n _ _ _ _ aL kL _ aR kR _ (pivot i k P) _ at X₁₇
            clear X₁₃ X₁₄ X₁₆ z10 u2 v2 v1 u1 v3 u3 v4 u4 sub₁₆ sub₁₇ hoI₁₃ hoI₁₄ hoI₁₆ off9 off10 o9 o10
            obtain ⟨oM17, tM17, hM17, dM17⟩ := X₁₇.cM
            obtain ⟨oL17, hL17, dL17⟩ := X₁₇.cL
            obtain ⟨oA17, hA17, dA17⟩ := X₁₇.cA
            have wL17 := X₁₇.mL
            have wR17 := X₁₇.mR
            dsimp only
            k_extra "kfm_num@Turn1"
            rename Fr s.heap L' h₁₇ _ => lF
            (with_unfolding_all refine' For_turns lF ?_)
            k_extra "kfm_num@Turn1"
            refine rng_turns (n := n) rfl (by assumption) (by assumption) (by assumption) (small_one (by omega) (by omega) (by omega) (by omega)) (by rw [rangeSize_nat, Int.sub_zero, Int.toNat_natCast])
              (fun p m' led => m' (Str.ofString "right") = some (.ref aR) ∧ ∃ led' vsL vsR, led = (I, oI) :: led' ∧ Off led' I ∧ TF n (L' + 1) (L' + 1 + 1) (L' + 1 + 1 + 1) (some (.int (i : Int) t)) aL kL vsL aR kR vsR (elims i p (pivot i k P)) led')
              ⟨by rw [if_neg (by decide), if_pos rfl], led₁₇, _, _, rfl, hoI₁₇, X₁₇⟩ ?step2 ?done2
            case step2 =>
              clear X₁₇ hoI₁₇
              obtain ⟨mL2, mR2⟩ := mat_pivot mL mR hi hkn
              dsimp only
              rintro p t₅ m₂ _ h₁₈ tk₁₈ I2 oI2 hp ⟨hmR2, led₁₈, vsL, vsR, rfl, hoI₁₈, X₁₈⟩ hoI2 F₁₈ N₁₈
              change Fr s.heap L' _ _ at F₁₈
              change News s.heap L' _ _ at N₁₈
              have F₁₈' := Fr.ovr F₁₈ hmR2
              have hII : I ≠ I2 := hoI2 (I, oI) (.head _)
              have hoI2' : Off led₁₈ I2 := fun q hq => hoI2 q (.tail _ hq)
              clear hoI2 F₁₈
              obtain ⟨mL3, mR3⟩ := mat_elims hi p (by omega) mL2 mR2
              obtain ⟨oM18, tM18, hM18, dM18⟩ := X₁₈.cM
              obtain ⟨oL18, hL18, dL18⟩ := X₁₈.cL
              obtain ⟨oA18, hA18, dA18⟩ := X₁₈.cA
              have wL18 := X₁₈.mL
              have wR18 := X₁₈.mR
              try dsimp only
              simp only [Int.zero_add]
              k_extra "kfm_num@Turn1"
              · rename_i hpi
                have hpi' : p ≠ i := fun e => hpi (by rw [e])
                refine X₁₈.readL (by assumption) (by k_mem) (by omega) (by rw [mL3.1]; omega) (by omega) ?_
                intro b1 its1 k1 v1 v2 v3 v4
                rw [Int.toNat_natCast] at v1 v3
                k_extra "kfm_num@Turn1"
                refine read_ent (by assumption) (.tail _ (.tail _ v2)) v3 (by omega) (by rw [(mat_getD mL3 hp).1]; omega) (by omega) ?_
                intro t₆
                rw [Int.toNat_natCast]
                rw [show ((elims i p (pivot i k P)).1.getD p []).getD i 0 = ent (elims i p (pivot i k P)).1 p i from rfl]
                have hfO : Oct (ent (elims i p (pivot i k P)).1 p i) := oct_ent mL3 hp hi
                have hel : elims i (p + 1) (pivot i k P) = _ := elims_ne hpi'
                generalize elims i p (pivot i k P) = Q3 at *
                generalize hfac : ent Q3.1 p i = fac at *
                k_extra "kfm_num@Turn1"
                refine X₁₈.readL (by assumption) (by k_mem) (by omega) (by rw [mL3.1]; omega) (by omega) ?_
                intro b3 its3 k3 u1 u2 u3 u4
                rw [Int.toNat_natCast] at u1 u3
                k_extra "kfm_num@Turn1"
                refine X₁₈.readL (by assumption) (by k_mem) (by omega) (by rw [mL3.1]; omega) (by omega) ?_
                intro b4 its4 k4 y1 y2 y3 y4
                rw [Int.toNat_natCast] at y1 y3
                k_extra "kfm_num@Turn1"
                k_dflt (refine' tell (times_row_tells _ _ _ (Q3.1.getD i []) _ _ y3 (by rw [(mat_getD mL3 hi).1]; exact hn) (mat_getD mL3 hi).2 hfO) (by k_asm) (by k_asm) (by k_asm) (by k_asm) (by k_asm) (by first | exact rfl | assumption) (by k_extra "kwd_rel") (by k_extra "kwd_less") ⟨⟨_, ((by k_asm : News s.heap L' _ _) _ (.tail _ (.tail _ y2))).1, rfl, _, rfl⟩, ?_⟩)
                intro a9 w9 k9 h₁₉ tk₁₉ F₁₉ N₁₉ o9 I9
                dsimp only
                k_extra "kfm_num@Turn1"
                k_dflt (refine' tell (plus_row_tells _ _ _ _ _ (Q3.1.getD p []) _ u3 I9 (by rw [(mat_getD mL3 hp).1]; exact hn) (by rw [List.length_map, (mat_getD mL3 hp).1, (mat_getD mL3 hi).1])) (by k_asm) (by k_asm) (by k_asm) (by k_asm) (by k_asm) (by first | exact rfl | assumption) (by k_extra "kwd_rel") (by k_extra "kwd_less") ⟨⟨_, ((by k_asm : News s.heap L' _ _) _ (.tail _ (.tail _ (.tail _ u2)))).1, rfl, _, rfl⟩, ⟨_, ((by k_asm : News s.heap L' _ _) _ (.head _)).1, rfl, _, rfl⟩, ?_⟩)
                intro a10 w10 k10 h₂₀ tk₂₀ F₂₀ N₂₀ o10 I10
                dsimp only
                k_extra "kfm_num@Turn1"
                have off10 := X₁₈.off (fun q hq => o10 q (.tail _ (.tail _ (.tail _ hq))))
                refine (X₁₈.grow (led' := (a10, listOf w10.toArray k10) :: led₁₈) (fun q hq => .tail _ hq)).storeL2 (by assumption) (by assumption) (hoI₁₈.cons (q := (a10, _)) (Ne.symm (o10 (I, oI) (.tail _ (.tail _ (.head _)))))) (hoI2'.cons (q := (a10, _)) (Ne.symm (o10 (I2, oI2) (.tail _ (.head _))))) sub_perm4 (.head _) I10 off10 (by omega) (by rw [mL3.1]; omega) (by omega) ?_
                intro h₂₁ led₂₁ F₂₁ N₂₁ hoI₂₁ hoI2₂₁ sub₂₁ X₂₁
                rw [Int.toNat_natCast] at X₂₁
                clear X₁₈ hoI₁₈ hoI2' o10 o9 off10 I9 I10 v1 v2 v3 v4 u1 u2 u3 u4 y1 y2 y3 y4 sub₂₁
                obtain ⟨oM21, tM21, hM21, dM21⟩ := X₂₁.cM
                obtain ⟨oL21, hL21, dL21⟩ := X₂₁.cL
                obtain ⟨oA21, hA21, dA21⟩ := X₂₁.cA
                have wL21 := X₂₁.mL
                have wR21 := X₂₁.mR
                dsimp only
                k_extra "kfm_num@Turn1"
                refine X₂₁.readR (by assumption) (by k_mem) (by omega) (by rw [mR3.1]; omega) (by omega) ?_
                intro b3 its3 k3 u1 u2 u3 u4
                rw [Int.toNat_natCast] at u1 u3
                k_extra "kfm_num@Turn1"
                refine X₂₁.readR (by assumption) (by k_mem) (by omega) (by rw [mR3.1]; omega) (by omega) ?_
                intro b4 its4 k4 y1 y2 y3 y4
                rw [Int.toNat_natCast] at y1 y3
                k_extra "kfm_num@Turn1"
                k_dflt (refine' tell (times_row_tells _ _ _ (Q3.2.getD i []) _ _ y3 (by rw [(mat_getD mR3 hi).1]; exact hn) (mat_getD mR3 hi).2 hfO) (by k_asm) (by k_asm) (by k_asm) (by k_asm) (by k_asm) (by first | exact rfl | assumption) (by k_extra "kwd_rel") (by k_extra "kwd_less") ⟨⟨_, ((by k_asm : News s.heap L' _ _) _ (.tail _ (.tail _ y2))).1, rfl, _, rfl⟩, ?_⟩)
                intro a9 w9 k9 h₂₂ tk₂₂ F₂₂ N₂₂ o9 I9
                dsimp only
                k_extra "kfm_num@Turn1"
                k_dflt (refine' tell (plus_row_tells _ _ _ _ _ (Q3.2.getD p []) _ u3 I9 (by rw [(mat_getD mR3 hp).1]; exact hn) (by rw [List.length_map, (mat_getD mR3 hp).1, (mat_getD mR3 hi).1])) (by k_asm) (by k_asm) (by k_asm) (by k_asm) (by k_asm) (by first | exact rfl | assumption) (by k_extra "kwd_rel") (by k_extra "kwd_less") ⟨⟨_, ((by k_asm : News s.heap L' _ _) _ (.tail _ (.tail _ (.tail _ u2)))).1, rfl, _, rfl⟩, ⟨_, ((by k_asm : News s.heap L' _ _) _ (.head _)).1, rfl, _, rfl⟩, ?_⟩)
                intro a10 w10 k10 h₂₃ tk₂₃ F₂₃ N₂₃ o10 I10
                dsimp only
                k_extra "kfm_num@Turn1"
                have off10 := X₂₁.off (fun q hq => o10 q (.tail _ (.tail _ (.tail _ hq))))
                refine (X₂₁.grow (led' := (a10, listOf w10.toArray k10) :: led₂₁) (fun q hq => .tail _ hq)).storeR2 (by assumption) (by assumption) (hoI₂₁.cons (q := (a10, _)) (Ne.symm (o10 (I, oI) (.tail _ (.tail _ (.head _)))))) (hoI2₂₁.cons (q := (a10, _)) (Ne.symm (o10 (I2, oI2) (.tail _ (.head _))))) sub_perm4 (.head _) I10 off10 (by omega) (by rw [mR3.1]; omega) (by omega) ?_
                intro h₂₄ led₂₄ F₂₄ N₂₄ hoI₂₄ hoI2₂₄ sub₂₄ X₂₄
                rw [Int.toNat_natCast] at X₂₄
                dsimp only
                k_extra "kfm_num@Turn1"
                have X₂₅ := X₂₄.cast (P' := elims i (p + 1) (pivot i k P)) (by rw [hel]; rfl)
                refine REnd.next F₂₄ N₂₄ (fun q hq => ?_) ⟨by dsimp only; rw [if_neg (by decide), if_neg (by decide), if_pos rfl], led₂₄, _, _, rfl, hoI₂₄, X₂₅⟩
                rcases List.mem_cons.mp hq with rfl | hq
                · exact hII
                · exact hoI2₂₄ q hq
              · rename_i hpi
                have hpi' : p = i := by first | omega | (simp at hpi; omega)
                subst hpi'
                have X₂₅ := X₁₈.cast (elims_eq (i := p)).symm
                refine REnd.next (by assumption) (by assumption) (fun q hq => ?_) ⟨by rw [if_neg (by decide), if_pos rfl], led₁₈, _, _, rfl, hoI₁₈, X₂₅⟩
                rcases List.mem_cons.mp hq with rfl | hq
                · exact hII
                · exact hoI2' q hq
            case done2 =>
              rintro h₁₈ tk₁₈ m₂ _ F₁₈ N₁₈ ⟨hmR2, led₁₈, vsL, vsR, rfl, hoI₁₈, X₁₈⟩
              k_extra "kfm_num@Turn1"
              refine REnd.next F₁₈ N₁₈ hoI₁₈ ⟨_, _, _, _, _, _, _, _, hmR2, ?_, X₁₈⟩
              rw [turnIter, hP]
              dsimp only
              rw [hpk]
              rfl
      case done =>
        rintro h₆ tk₆ m₆ led₆ F₆ N₆ ⟨vA, aL, kL, vsL, aR, kR, vsR, P, hmR, hP, X₆⟩
        change Fr s.heap L' h₆ m₆ at F₆
        change News s.heap L' h₆ _ at N₆
        have F₆' := Fr.ovr F₆ hmR
        clear F₆
        have hR : turnedI n M = some P.2 := by rw [turnedI, hP]; rfl
        k_extra "kfm_num@Turn1"
        obtain ⟨q1, q2, q3⟩ := rows_back (by assumption : Fr h₀ L s.heap m) N F₆' N₆ X₆.mR X₆.rR (by simp)
        exact hret _ hR _ _ _ _ _ _ (by assumption) q1 q2 q3 fun q hq => List.mem_append_right _ hq
end
end
section
open PySem.Calls PyProof.Rows.LCg
section
variable {prog : Program} {w : World} {A : Around} {E : Value → Shared → Prop} {s : Shared} {env : Env} {h₀ : Heap} {body : List Stmt} {Q : Flow → Shared → Prop}
/-- the end of a turn over an enumerate: its object I1, its list's iterator I2 -/
noncomputable def REnd2 (h₀ : Heap) (L : Addr) (I1 I2 : Addr) (o1 o2 : Obj) (J : (Str → Option Value) → List (Addr × Obj) → Prop) (s₁ : Shared) (Q : Flow → Shared → Prop) (f : Flow) (s₂ : Shared) : Prop :=
  match f with
  | .ret v => Q (.ret v) s₂
  | .brk => Q .next s₂
  | _ => ∃ h' tk m' led', s₂ = { s₁ with heap := h', toks := tk } ∧ Fr h₀ L h' m' ∧ News h₀ L h' ((I1, o1) :: (I2, o2) :: led') ∧ Off led' I1 ∧ Off led' I2 ∧ J m' led'
theorem REnd2.next {L I1 I2 : Addr} {o1 o2 : Obj} {J : (Str → Option Value) → List (Addr × Obj) → Prop} {s₁ : Shared} {h' : Heap} {tk : Nat} {m' : Str → Option Value} {led' : List (Addr × Obj)} (F : Fr h₀ L h' m') (N : News h₀ L h' ((I1, o1) :: (I2, o2) :: led')) (k1 : Off led' I1) (k2 : Off led' I2) (hj : J m' led') :
    REnd2 h₀ L I1 I2 o1 o2 J s₁ Q .next { s₁ with heap := h', toks := tk } := ⟨h', tk, m', led', rfl, F, N, k1, k2, hj⟩
theorem enum_turns {elts : List Expr} {kk : Nat} {pos : Pos} {l : Addr} {vs : List Value} {m : Str → Option Value} {led₀ : List (Addr × Obj)} (hh : A.handled = none) (F : Fr h₀ env.locals s.heap m) (N : News h₀ env.locals s.heap led₀) (hl₀ : h₀.IsList l vs.toArray) (hne : l ≠ env.locals)
    (J : Nat → (Str → Option Value) → List (Addr × Obj) → Prop) (h0 : J 0 m led₀)
    (step : ∀ i t x T m₁ led h tk I1 I2 o1 o2, vs[i]? = some x → J i m₁ led → Off led I1 → Off led I2 → I1 ≠ I2 → IsTup h T #[.int (i : Int) t, x] → Fr h₀ env.locals h m₁ → News h₀ env.locals h ((I1, o1) :: (I2, o2) :: led) →
      wpAny (model prog w) A (assign (.Tuple elts kk pos) env (.ref T)) (fun _ s₃ => wpAny (model prog w) A (execs body env) (REnd2 h₀ env.locals I1 I2 o1 o2 (J (i + 1)) { s with heap := h, toks := tk } Q) E s₃) E { s with heap := h, toks := tk })
    (done : ∀ h' tk m' led', Fr h₀ env.locals h' m' → News h₀ env.locals h' led' → J vs.length m' led' → Q .next { s with heap := h', toks := tk }) :
    wpAny (model prog w) A (call (.type "enumerate") [.ref l]) (fun xv s₁ => wpAny (model prog w) A (pyIter xv) (fun it s₂ => TurnsAt prog w A h₀ env (.Tuple elts kk pos) body Q E it s₂) E s₁) E s := by
  have hl : s.heap.IsList l vs.toArray := hl₀.at fun o e => F.keep l o e
  obtain ⟨ol, hol, _⟩ := hl₀
  have hlt : l < s.heap.objs.size := Heap.lt_size (F.keep _ _ hol)
  have hLs : env.locals < s.heap.objs.size := F.ns.lt
  have hfr : ∀ j, h₀.get? (s.heap.objs.size + j) = none := fun j => Heap.get?_none_of_le (Nat.le_trans F.above (Nat.le_trans (Nat.le_of_lt hLs) (Nat.le_add_right _ _)))
  refine call_enumerate_list hl fun h' hE hI hsz hk => ?_
  refine wpAny_pyIter_enum hE ?_
  have W := KTurns.ofWalksU (elts := elts) (k := kk) (pos := pos) (WalksT.enumerate (prog := prog) (w := w) hh (s.heap.objs.size + 1) s.heap.objs.size l (Nat.succ_ne_self _) (ktu_ne 1 hlt) (Nat.ne_of_lt hlt) vs.toArray).toU
  refine ⟨s.heap.objs.size + 1, _, _, _, _, _, _, m, led₀, J, rfl, W, fun hI' => ?_, fun b hb => ?_, fun p hp hm => ?_, ⟨⟨.none, hE⟩, hI, hl.at fun o e => hk l o e⟩, F.keeps hk, N.grown hk, h0, ?_, fun h' tk m' led' F' N' _ hJ => done h' tk m' led' F' N' (by simpa using hJ)⟩
  · have hb' : env.locals = s.heap.objs.size + 1 ∨ env.locals = s.heap.objs.size ∨ env.locals = l := by simpa using hI'
    rcases hb' with e | e | e
    · exact ktu_ne 1 hLs e
    · exact Nat.ne_of_lt hLs e
    · exact hne e.symm
  · have hb' : b = s.heap.objs.size + 1 ∨ b = s.heap.objs.size := by simpa using hb
    rcases hb' with rfl | rfl
    · exact hfr 1
    · exact hfr 0
  · have hb' : p.1 = s.heap.objs.size + 1 ∨ p.1 = s.heap.objs.size := by simpa using hm
    have hlp := Heap.lt_size (N p hp).1
    rcases hb' with e | e
    · exact ktu_ne 1 hlp e
    · exact Nat.ne_of_lt hlp e
  · rintro i v m₁ led h₁ tk₁ own hi ⟨T, vals, rfl, ⟨t, x, hx, rfl⟩, hT⟩ hJ hoff hsub hget hall st F₁ N₁
    obtain ⟨⟨old, he⟩, hit, _⟩ := st
    have he' : ∃ o1, h₁.get? (s.heap.objs.size + 1) = some o1 := ⟨_, he⟩
    obtain ⟨o1, ho1⟩ := he'
    have hi' : ∃ o2, h₁.get? s.heap.objs.size = some o2 := by obtain ⟨o, ho, _⟩ := hit; exact ⟨o, ho⟩
    obtain ⟨o2, ho2⟩ := hi'
    have m1 := hall (s.heap.objs.size + 1) (by simp) (hfr 1) o1 ho1
    have m2 := hall s.heap.objs.size (by simp) (hfr 0) o2 ho2
    have off1 : Off led (s.heap.objs.size + 1) := fun p hp e => hoff p hp (by rw [e]; simp)
    have off2 : Off led s.heap.objs.size := fun p hp e => hoff p hp (by rw [e]; simp)
    have ownI : ∀ p ∈ own, p = (s.heap.objs.size + 1, o1) ∨ p = (s.heap.objs.size, o2) := fun p hp => by
      have e1 : p.1 = s.heap.objs.size + 1 ∨ p.1 = s.heap.objs.size ∨ p.1 = l := by simpa using hsub p hp
      have e2 := hget p hp
      obtain ⟨p1, p2⟩ := p
      dsimp only at e1 e2
      rcases e1 with e1 | e1 | e1
      · rw [e1, ho1] at e2; left; rw [e1, Option.some.inj e2]
      · rw [e1, ho2] at e2; right; rw [e1, Option.some.inj e2]
      · have := (N₁ _ (List.mem_append_left _ hp)).2.2
        dsimp only at this
        rw [e1, hol] at this; cases this
    have N₂ : News h₀ env.locals h₁ ((s.heap.objs.size + 1, o1) :: (s.heap.objs.size, o2) :: led) := fun p hp => by
      rcases List.mem_cons.mp hp with rfl | hp
      · exact N₁ _ (List.mem_append_left _ m1)
      rcases List.mem_cons.mp hp with rfl | hp
      · exact N₁ _ (List.mem_append_left _ m2)
      · exact N₁ _ (List.mem_append_right _ hp)
    refine wpAny_mono (step i t x T m₁ led h₁ tk₁ _ _ o1 o2 (by simpa using hx) hJ off1 off2 (Nat.succ_ne_self _) hT F₁ N₂) (fun _ s₃ h₃ => wpAny_mono h₃ (fun f s₄ h₄ => ?_) fun _ _ e => e) fun _ _ e => e
    have fin : (∃ h' tk m' led', s₄ = { s with heap := h', toks := tk } ∧ Fr h₀ env.locals h' m' ∧ News h₀ env.locals h' ((s.heap.objs.size + 1, o1) :: (s.heap.objs.size, o2) :: led') ∧ Off led' (s.heap.objs.size + 1) ∧ Off led' s.heap.objs.size ∧ J (i + 1) m' led') →
        LoopStepU h₀ env.locals [s.heap.objs.size + 1, s.heap.objs.size] own (J (i + 1)) { s with heap := h₁, toks := tk₁ } .next s₄ := by
      rintro ⟨h', tk, m', led', rfl, F', N', k1, k2, hj⟩
      refine ⟨rfl, h', tk, m', led', rfl, F', fun p hp => ?_, fun p hp hm => ?_, hj⟩
      · rcases List.mem_append.mp hp with hp | hp
        · rcases ownI p hp with rfl | rfl
          · exact N' _ (.head _)
          · exact N' _ (.tail _ (.head _))
        · exact N' _ (.tail _ (.tail _ hp))
      · have hb' : p.1 = s.heap.objs.size + 1 ∨ p.1 = s.heap.objs.size := by simpa using hm
        rcases hb' with e | e
        · exact k1 p hp e
        · exact k2 p hp e
    cases f with
    | ret v => exact h₄
    | brk => exact h₄
    | next => exact fin h₄
    | cont => exact fin h₄
end
end
section
open PySem.Calls PyProof.Rows.LCg PySem.W.KBw
/-- the law's own sum of products -/
noncomputable def minorI (p : Nat) (M : List (List Int)) : List (List Int) := M.map fun r => r.take p ++ r.drop (p + 1)
noncomputable def sumT (f : Nat → Int) : Nat → Int
  | 0 => 0
  | p+1 => Builtin.bitXor (sumT f p) (f p)
noncomputable def sumI : Nat → List (List Int) → Int
  | 0, _ => 1
  | n+1, M => sumT (fun p => mulI ((M.getD 0 []).getD p 0) (sumI n (minorI p (M.drop 1)))) (M.getD 0 []).length
noncomputable def Rect (n c : Nat) (M : List (List Int)) : Prop := M.length = n ∧ ∀ r ∈ M, r.length = c ∧ ∀ x ∈ r, Oct x
theorem rect_getD {n c : Nat} {M : List (List Int)} (h : Rect n c M) {i : Nat} (hi : i < n) : (M.getD i []).length = c ∧ ∀ x ∈ M.getD i [], Oct x := by
  refine h.2 _ ?_
  rw [List.getD_eq_getElem?_getD, List.getElem?_eq_getElem (by rw [h.1]; exact hi)]
  exact List.getElem_mem _
theorem oct_sumT {f : Nat → Int} (hf : ∀ p, Oct (f p)) : ∀ p, Oct (sumT f p)
  | 0 => oct_zero
  | p+1 => oct_xor (oct_sumT hf p) (hf p)
theorem oct_sumI : ∀ (n : Nat) (M : List (List Int)), Oct (sumI n M)
  | 0, _ => (⟨by decide, by decide⟩ : Oct 1)
  | _+1, _ => oct_sumT (fun _ => oct_mulI _ _) _
theorem rect_minor {n c p : Nat} {M : List (List Int)} (h : Rect (n + 1) c M) (hp : p < c) : Rect n (c - 1) (minorI p (M.drop 1)) := by
  refine ⟨by rw [minorI, List.length_map, List.length_drop, h.1]; rfl, fun r hr => ?_⟩
  obtain ⟨q, hq, rfl⟩ := List.mem_map.mp hr
  obtain ⟨h1, h2⟩ := h.2 q (List.mem_of_mem_drop hq)
  refine ⟨by rw [List.length_append, List.length_take, List.length_drop]; omega, fun x hx => ?_⟩
  rcases List.mem_append.mp hx with hx | hx
  · exact h2 x (List.mem_of_mem_take hx)
  · exact h2 x (List.mem_of_mem_drop hx)
theorem slice_one (vs : List Value) : slicePick vs.toArray (some 1) none none = (vs.drop 1).toArray := by
  have e : sliceBounds (some 1) none none vs.toArray.size = (((min 1 vs.toArray.size : Nat) : Int), ((vs.toArray.size : Nat) : Int), 1) := by
    simp only [sliceBounds, Option.getD_none, show (1 : Int) > 0 by decide, if_true, if_neg (show ¬ ((1 : Int) < 0) by omega)]
    congr 1
    omega
  rw [PySem.W.kmk_pick_nat _ e]
  show ((vs.drop (min 1 vs.toArray.size)).take (vs.toArray.size - min 1 vs.toArray.size)).toArray = _
  rw [List.size_toArray, PySem.W.kmk_drop_min, List.take_of_length_le (by rw [List.length_drop]; omega)]
theorem minor_map {n p : Nat} {M : List (List Int)} (h : M.length = n + 1) : (List.range n).map (fun i => (M.getD (i + 1) []).take p ++ (M.getD (i + 1) []).drop (p + 1)) = minorI p (M.drop 1) := by
  unfold minorI
  apply List.ext_getElem
  · simp [h]
  · intro i h1 h2
    simp at h1 h2
    simp [List.getD_eq_getElem?_getD, show i + 1 < M.length by omega, Nat.add_comm 1 i]
section
open PySem.SeqAt
variable {prog : Program} {w : World} {A : Around} {E : Value → Shared → Prop} {s : Shared} {h₀ : Heap} {L : Addr}
theorem eq_emptyG {news : List (Addr × Obj)} {l z : Addr} {vs : List Value} {n' : Nat} {Q : Value → Shared → Prop} (h1 : s.heap.IsList l vs.toArray) (N : News h₀ L s.heap news) (hz : (z, listOf #[] n') ∈ news) (hu : A.units < cLine) (h : Q (.bool (decide (vs = []))) s) :
    wpAny (model prog w) A (compareOp .Eq (.ref l) (.ref z)) Q E s := by
  have h2 : s.heap.IsList z #[] := ⟨_, (N _ hz).1, rfl, _, rfl⟩
  cases vs with
  | nil => exact eq_listAt (e := fun _ => true) h1 h2 rfl hu (fun j q1 q2 => absurd q2 (Nat.not_lt_zero _)) h
  | cons v r => exact eq_list_lengthsAt h1 h2 (by simp) hu h
end
theorem Rows.g {h₀ h : Heap} {L D : Addr} {k : Nat} {off : List Addr} {vs : List Value} {M : List (List Int)} {led : List (Addr × Obj)} (R : Rows off vs M led) (N : News h₀ L h led) (hD : (D, listOf vs.toArray k) ∈ led) : GRows h D M :=
  ⟨vs, ⟨_, (N _ hD).1, rfl, _, rfl⟩, R.1, fun i hi => by
    obtain ⟨b, its, k, h1, h2, h3, _⟩ := R.2 i hi
    exact ⟨b, its, h1, ⟨_, (N _ h2).1, rfl, _, rfl⟩, h3⟩⟩
end
section
open PySem.Calls PyProof.Rows.LCg PySem.W.KBw
section
variable {w : World} {mean : ExcName → Option Value} {mg mb : Str → Option Value} {p : Program} {loose : List Str}
local macro_rules | `(tactic| k_mem) => `(tactic| k_extra "kfm_cat1@Sum1")

theorem lsum_tells : ∀ (n : Nat) (news : CbLed) (l : Addr) (c : Nat) (M : List (List Int)), Rect n c M → n ≤ 63 → c ≤ 63 → Tells w p loose mean mg mb (n + 2) 170 news [.ref l] (fun h₀ L m news s Q E fr => GRows s.heap l M ∧ RetI (sumI n M) h₀ L m news s Q E fr) := by
  intro n
  induction n with
  | zero =>
    intro news l c M hM hn hc
    k_extra "kt_ors"
    rename_i hd1
    obtain ⟨⟨gvs, hL, hlen, hrows⟩, hret⟩ := hret
    have hg0 : gvs = [] := List.length_eq_zero_iff.mp (by rw [hlen, hM.1])
    subst hg0
    k_extra "kfm_num@Sum1"
    refine eq_emptyG (vs := []) (Fr.lst (by assumption) hL) (by assumption) (by k_mem) (by ke_room) ?_
    dsimp only [decide]
    k_extra "kfm_num@Sum1"
    refine cb_retI hret rfl (by k_asm) (newsBack N (by assumption))
  | succ n ih =>
    intro news l c M hM hn hc
    k_extra "kt_ors"
    rename_i hd1
    obtain ⟨⟨gvs, hL, hlen, hrows⟩, hret⟩ := hret
    have hne : l ≠ L' := fun e => by obtain ⟨o, ho, _⟩ := hL; exact absurd (Heap.lt_size ho) (e ▸ Nat.not_lt.mpr F'.above)
    obtain ⟨b0, its0, q1, q2, q3⟩ := hrows 0 (by rw [hM.1]; omega)
    have hne0 : b0 ≠ L' := fun e => by obtain ⟨o, ho, _⟩ := q2; exact absurd (Heap.lt_size ho) (e ▸ Nat.not_lt.mpr F'.above)
    k_extra "kfm_num@Sum1"
    refine eq_emptyG (vs := gvs) (Fr.lst (by assumption) hL) (by assumption) (by k_mem) (by ke_room) ?_
    rw [decide_eq_false (show gvs ≠ [] from fun e => by rw [e, hM.1] at hlen; cases hlen)]
    k_extra "kfm_num@Sum1"
    have dP0 : _ = Data.cell none := hd1
    clear hd1
    rename Fr s.heap L' _ _ => lF
    (with_unfolding_all refine' For_turns lF ?_)
    k_extra "kfm_num@Sum1"
    refine sub_row (v := .ref b0) (Fr.lst (by assumption) hL) q1 (by omega) (by omega) ?_
    iterate 1 k_extra "kfm_eq@Sum1"
    refine enum_turns (vs := its0) rfl (by assumption) (by assumption) q2 hne0
      (fun i m' led => m' (Str.ofString "rows") = some (.ref l) ∧ (∃ t, m' (Str.ofString "found") = some (.int (sumT (fun p => mulI ((M.getD 0 []).getD p 0) (sumI n (minorI p (M.drop 1)))) i) t)) ∧ ∃ o v, (L' + 1, o) ∈ led ∧ o.data = .cell v) ⟨by rfl, ⟨_, by rfl⟩, _, _, by k_mem, dP0⟩ ?step ?done
    case step =>
      dsimp only
      rintro i t x T m₁ led h₁ tk₁ I1 I2 o1 o2 hx ⟨hrw, ⟨tf, hfd⟩, oP, vP, hP, dP⟩ off1 off2 hII hT F₁ N₁
      change Fr s.heap L' h₁ m₁ at F₁
      change News s.heap L' h₁ _ at N₁
      obtain ⟨t₁, rfl, hxm⟩ := ints_at q3 (i := i) (v := x) (by rw [List.getElem?_toArray]; exact hx)
      refine assign_Tuple_tuple rfl (items := #[.int (i : Int) t, .int ((M.getD 0 []).getD i 0) t₁]) hT rfl rfl fun h₂ he => ?_
      have he' : ∀ b o, h₁.get? b = some o → h₂.get? b = some o := fun b o e => he b o (Nat.ne_of_lt (Heap.lt_size e)) e
      have F₂ := F₁.keeps he'
      have N₂ := N₁.grown he'
      refine assignInOrder_cons (wpAny_assign_Name (store_cell (c := L' + 1) F₂ N₂ (.tail _ (.tail _ hP)) dP rfl rfl rfl fun h₃ o₃ d₃ F₃ N₃ => ?_))
      rw [updL_cons (Ne.symm (off1 _ hP)), updL_cons (Ne.symm (off2 _ hP))] at N₃
      have off1' := off1.upd (o := o₃) hP
      have off2' := off2.upd (o := o₃) hP
      have hP' := mem_upd_self (o := o₃) hP
      generalize updL (L' + 1) o₃ led = led₃ at *
      refine assignInOrder_cons (wpAny_assign_Name (wpAny_storeName_local rfl F₃.ns (fun h₄ hn₄ hs₄ => ?_) rfl))
      refine assignInOrder_nil ?_
      have F₄ := F₃.set hn₄ hs₄
      have N₄ := N₃.set hs₄
      have F₄' := (Fr.ovr (Fr.ovr F₄ (x := Str.ofString "rows") (v := .ref l) (by rw [if_neg (by decide)]; exact hrw)) (x := Str.ofString "found") (v := .int _ tf) (by rw [if_neg (by decide), if_neg (by decide)]; exact hfd))
      (try dsimp only at F₄')
      clear F₄ F₃ F₂ F₁ N₃ N₂ N₁
      (try dsimp only)
      have hP4 : (L' + 1, o₃) ∈ (I1, o1) :: (I2, o2) :: led₃ := .tail _ (.tail _ hP')
      k_extra "kd_p"
      refine comp_rows_s (n := n) (y := Str.ofString "rest") (Bd := fun j m₂ => ∃ v, m₂ (Str.ofString "row") = some v ∧ (gvs.drop 1).toArray[j]? = some v) (g := fun j => (M.getD (j + 1) []).take i ++ (M.getD (j + 1) []).drop (i + 1)) [] F₄' N₄ (fun a ha => absurd ha (List.not_mem_nil)) (by with_unfolding_all rfl) rfl rfl rfl (by rfl) (by decide) (by rfl) (by decide) (by rw [sizeLine_eq]; omega) ?elem ?src
      case elem =>
        intro s₁ j C oC m₂ rest E₁ hj hoC hBd F₅ N₅ hsub
        obtain ⟨v₂, hv₂, hit⟩ := hBd
        obtain ⟨b1, its1, y1, y2, y3⟩ := hrows (j + 1) (by rw [hM.1]; omega)
        have hv1 : v₂ = .ref b1 := by
          rw [List.getElem?_toArray, List.getElem?_drop, Nat.add_comm, y1] at hit
          exact (Option.some.inj hit).symm
        subst hv1
        obtain ⟨hl1, ho1⟩ := rect_getD hM (show j + 1 < n + 1 by omega)
        have hP5 := hsub _ hP4
        k_extra "kfm_num@Sum1"
        refine kmk_slice_ints (by k_asm) (by k_asm) (Fr.lst (by k_asm) y2) (by kmk_part) (by kmk_part) y3 (kmk_upto y3 (by omega)) rfl ?_ (by with_unfolding_all rfl) (by kmk_pure) (by rw [List.size_toArray, y3.length, sizeLine_eq]; omega)
        intro D1 w1 h₆ F₆ N₆ lt₆ I₆ _ _
        dsimp only
        k_extra "kfm_num@Sum1"
        refine kmk_slice_ints (by k_asm) (by k_asm) (Fr.lst (by k_asm) y2) (by kmk_part) (by kmk_part) y3 (kmk_from y3 (by omega)) rfl ?_ (by with_unfolding_all rfl) (by kmk_pure) (by rw [List.size_toArray, y3.length, sizeLine_eq]; omega)
        intro D2 w2 h₇ F₇ N₇ lt₇ I₇ _ _
        dsimp only
        k_extra "kfm_num@Sum1"
        refine kmk_add_ints (by k_asm) (by k_asm) ⟨_, ((by k_asm : News s.heap L' _ _) _ (.tail _ (.head _))).1, rfl, _, rfl⟩ ⟨_, ((by k_asm : News s.heap L' _ _) _ (.head _)).1, rfl, _, rfl⟩ I₆ I₇ ?_ (by rw [List.length_take, List.length_drop, sizeLine_eq]; omega)
        intro D3 us h₈ F₈ N₈ lt₈ I₈
        refine ⟨D3, us, 0, h₈, _, rfl, rfl, F₈, newsSub N₈ fun q hq => ?_, fun q hq => Nat.ne_of_lt (lt₈ q (.tail _ (.tail _ hq))), ?_⟩
        · rcases List.mem_cons.mp hq with rfl | hq
          · exact .head _
          · exact .tail _ (.tail _ (.tail _ hq))
        · rw [Int.toNat_natCast, show ((i : Int) + 1).toNat = i + 1 by omega] at I₈
          exact I₈
      case src =>
        k_extra "kfm_num@Sum1"
        refine kmk_slice F₄' N₄ (Fr.lst F₄' hL) (by kmk_part) (by kmk_part) ?_ (by with_unfolding_all rfl) (by kmk_pure) (by rw [List.size_toArray, hlen, hM.1, sizeLine_eq]; omega)
        intro D1 h₅ F₅ N₅ lt₅
        rw [slice_one] at N₅
        have hD1 : D1 ≠ L' := (N₅ _ (.head _)).2.1
        dsimp only
        refine src_list rfl rfl rfl F₅ (newsSub N₅ fun q hq => .tail _ hq) ⟨_, (N₅ _ (.head _)).1, rfl, _, rfl⟩ hD1 (by rw [List.size_toArray, List.length_drop, hlen, hM.1]; rfl) fun h₆ => ?_
        intro aR vsR kR led₇ h₇ tk₇ F₇ N₇ oR lt₇ sub₇ R₇
        rw [minor_map hM.1] at R₇
        dsimp only
        have hic : i < c := by
          have z := (List.getElem?_eq_some_iff.mp hx).1
          rw [q3.length, (rect_getD hM (show 0 < n + 1 by omega)).1] at z
          exact z
        have hO1 : Oct ((M.getD 0 []).getD i 0) := (rect_getD hM (show 0 < n + 1 by omega)).2 _ hxm
        have hO2 : Oct (sumI n (minorI i (M.drop 1))) := oct_sumI _ _
        k_extra "kfm_num@Sum1"
        k_dflt (refine' tell (ih _ _ (c - 1) (minorI i (M.drop 1)) (rect_minor hM hic) (by omega) (by omega)) (by k_asm) (by k_asm) (by k_asm) (by k_asm) (by k_asm) (by first | exact rfl | assumption) (by k_extra "kwd_rel") (by k_extra "kwd_less") ⟨R₇.cons.g (by k_asm) (.head _), ?_⟩)
        intro t₈ h₈ tk₈ F₈ N₈
        dsimp only
        k_extra "kfm_num@Sum1"
        refine REnd2.next (led' := led₃) (by k_asm) (newsSub (by k_asm : News s.heap L' _ _) fun q hq => .tail _ (sub₇ q hq)) off1' off2' ⟨?_, ⟨_, if_pos rfl⟩, _, _, hP', d₃⟩
        (try dsimp only)
        rw [if_neg (by decide), if_neg (by decide), if_neg (by decide), if_pos rfl]
    case done =>
      rintro h₁ tk₁ m₁ led F₁ N₁ ⟨hrw, ⟨tf, hfd⟩, oP, vP, hP, dP⟩
      change Fr s.heap L' h₁ m₁ at F₁
      change News s.heap L' h₁ _ at N₁
      have F₁' := Fr.ovr F₁ hfd
      clear F₁
      have hz : its0.length = (M.getD 0 []).length := q3.length
      rw [hz] at F₁'
      (try dsimp only)
      k_extra "kfm_num@Sum1"
      refine cb_retI hret rfl (by k_asm) (newsBack N (by assumption))
end
end
section
open PySem.Calls
noncomputable def frs (l : List Env) : List Addr := l.filterMap (·.frame)
section
variable {prog : Program} {w : World} {A₀ : Around} {E : Value → Shared → Prop} {s' : Shared} {base g g₀ G : Heap} {outer : List Env} {L a e C : Addr} {m : Str → Option Value} {name : Str} {scope : Scope} {cd : Value}
  {b₀ : Stmt} {suite : List Stmt} {pos np : Pos} {rest : List ExceptHandler} {Q : Flow → Shared → Prop} {KF : Frag}
  {p : Program} {loose : List Str} {mean : ExcName → Option Value} {mg mb : Str → Option Value} {x : Str}
  {nm q : Str} {N : Addr} {bs bm : List Value} {hdct : Bool} {sn : List Str} {sub : List Value} {ab : Bool} {col : Option Bool} {dd : Option Addr} {k0 k1 k2 k3 k5 : Option Value} {newId : String}
/-- an own exception is caught by its own name -/
theorem caught_O (R : RaisedSN base G (envOf name scope L a cd :: outer) e (.ref C) [] s'.heap) (F : Fr g L G m) (K : Below A₀ base outer g) (hsm : G.UpToSlots s'.heap) (XB : KF.In base) (TB : Top p loose mean mg mb base)
    (D : KtsDicts (outer.filterMap (·.frame)) g) (ex : nsIn KF mainGlobals x = some (some (.ref C))) (hCK : KF.lookup C = some (excClassObj nm q C N bs bm hdct sn sub ab col dd k0 k1 k2 k3 k5 newId)) (hbase : bm.contains (.type "BaseException") = true)
    (k : ∀ h' g', KtsTurn (outer.filterMap (·.frame)) g g' → Fr g' L h' m → Below A₀ base outer g' → KF.In g' → Top p loose mean mg mb g' → KtsDicts (outer.filterMap (·.frame)) g' →
      wpAny (model prog w) ((A₀.deeper (envOf name scope L a cd)).mark (some (.ref e))) (execs (b₀ :: suite) (envOf name scope L a cd)) Q (fun _ _ => False) { s' with heap := h' })
    (hk : scope.kind = .function := by rfl) (hx : (envOf name scope L a cd).kindOf x = some .globalImplicit := by rfl) (hd : (x == ("__debug__" : Str)) = false := by decide) :
    wpAny (model prog w) (A₀.deeper (envOf name scope L a cd)) (noteFrame (.ref e) (envOf name scope L a cd))
      (fun _ s₂ => wpAny (model prog w) (A₀.deeper (envOf name scope L a cd)) (setFlight (.ref e) none) (fun _ s₃ =>
        wpAny (model prog w) (A₀.deeper (envOf name scope L a cd)) (handleBy (.ref e) (envOf name scope L a cd) (.ExceptHandler (some (.Name x np)) none (b₀ :: suite) pos :: rest)) Q E s₃) E s₂) E s' := by
  obtain ⟨B, a0, hB, hBG, _, hfl⟩ := R
  refine wpAny_looks_onW (Around.frames_deeper K.stack) rfl hfl fun h₄ hheld₄ hsm₄ => ?_
  refine wpAny_landsW hheld₄ fun h₅ hheld hsm₅' => ?_
  have hsm₅ := hsm₄.trans hsm₅'
  obtain ⟨g₅, T₅, F₅, K₅⟩ := kts_ground K F hBG hheld.1 (hsm.trans hsm₅)
  have X₅ : KF.In g₅ := XB.keeps K₅.stays
  have P₅ : TopRead p loose mg mb g₅ := topRead_of (TB.keeps K₅.stays)
  obtain ⟨ob, hob, hobc⟩ := hheld.there
  have hC₅ := F₅.keep _ _ (X₅ _ _ hCK)
  refine wpAny_handleBy_cons (codeAny_handlers_test (name_K F₅ X₅ P₅ ex ?_ hk hx hd)) (by intro q; cases q)
  refine wpAny_excMatches_sub_self hC₅ hob hobc hbase (codeAny_handlers_suite ?_)
  refine lands_againW hheld fun h₆ hfl₆ hsm₆ => ?_
  obtain ⟨g₆, T₆, F₆, K₆⟩ := kts_ground K F hBG hfl₆.1 ((hsm.trans hsm₅).trans hsm₆)
  have X₆ : KF.In g₆ := XB.keeps K₆.stays
  have P₆ : Top p loose mean mg mb g₆ := TB.keeps K₆.stays
  exact wpAny_mono (k h₆ g₆ T₆ F₆ K₆ X₆ P₆ (D.turn T₆)) (fun _ _ z => z) fun _ _ z => z.elim
end

/-- a call that comes back True, a raise having been caught within it: the frames of the callers have their slots turned -/
noncomputable def TellsT (w : World) (p : Program) (loose : List Str) (mean : ExcName → Option Value) (mg mb : Str → Option Value) (d : Nat) (f : Addr) (news : CbLed) (vs : List Value) (C : Heap → Prop) : Prop :=
  ∀ (dp un : Nat) (gd : Option (List Code)) (cn : Str) (cs : Scope) (a : Addr) (ccd : Value) (cl : List (Str × Addr)) (outer : List Env) (A₀ : Around) (base h₀ : Heap) (L : Addr) (m : Str → Option Value) (s : Shared) (Q E : Value → Shared → Prop),
    Below A₀ base outer h₀ → Fr h₀ L s.heap m → (hd.heap_1 w.params).In h₀ → News h₀ L s.heap news → Top p loose mean mg mb h₀ → cs.kind = .function → dp + d < recursionLimit → un + 8 * d < cLine →
    (hd.heap_1 w.params).In base → Top p loose mean mg mb base → KtsDicts (outer.filterMap (·.frame)) h₀ → C s.heap →
    (∀ h₀' h' tk', KtsTurn (outer.filterMap (·.frame)) h₀ h₀' → Fr h₀' L h' m → News h₀' L h' news → Below A₀ base outer h₀' → (hd.heap_1 w.params).In h₀' → Top p loose mean mg mb h₀' → KtsDicts (outer.filterMap (·.frame)) h₀' → Q (.bool true) { s with heap := h', toks := tk' }) →
    wpAny (model lawProg w) (ktrTop dp un gd cn cs L a ccd cl outer) (call (.ref f) vs) Q E s

noncomputable def LeaveT (A₀ : Around) (base : Heap) (env : Env) (outer : List Env) (K : Frag) (p : Program) (loose : List Str) (mean : ExcName → Option Value) (mg mb : Str → Option Value) (h₀ : Heap) (L : Addr) (m : Str → Option Value) (g : Heap) (news : List (Addr × Obj)) (R : Result → Shared → Prop) (v : Value) (s' : Shared) : Prop :=
  ∃ g' L' m', KtsTurn ((env :: outer).filterMap (·.frame)) g g' ∧ Fr g' L' s'.heap m' ∧
    (∀ h₀', KtsTurn (outer.filterMap (·.frame)) h₀ h₀' → Fr h₀' L s'.heap m → News h₀' L s'.heap news → Below A₀ base outer h₀' → K.In h₀' → Top p loose mean mg mb h₀' → KtsDicts (outer.filterMap (·.frame)) h₀' → R (.ok (.ret v)) s')

section
variable {prog : Program} {w : World} {A A₀ : Around} {s : Shared} {base h₀ : Heap} {outer : List Env} {L : Addr} {m : Str → Option Value} {env : Env} {news : List (Addr × Obj)} {K : Frag} {p : Program} {loose : List Str} {mean : ExcName → Option Value} {mg mb : Str → Option Value}
  {R : Result → Shared → Prop} {name qual : Str} {params : Arguments} {body : List Stmt} {scope : Scope} {dV kV doc pm cdv ct oc : Value} {an od : Option Addr} {osl : Array (Option Value)} {f : Addr} {args : Args} {vals : List Value}

theorem dictsE (F : Fr h₀ L s.heap m) (D : KtsDicts (outer.filterMap (·.frame)) h₀) (hf : env.frame = some L) : KtsDicts ((env :: outer).filterMap (·.frame)) s.heap := fun b hb => by
  rcases mem_fr hf hb with rfl | z
  · obtain ⟨oL, es, ep, hL, hLd, _⟩ := F.ns
    exact ⟨oL, es, ep, hL, hLd⟩
  · obtain ⟨o, es, n, ho, hd⟩ := D b z
    exact ⟨o, es, n, F.keep b o ho, hd⟩

theorem leaveT (B : Below A₀ base outer h₀) (F : Fr h₀ L s.heap m) (N : News h₀ L s.heap news) (XB : K.In base) (TB : Top p loose mean mg mb base) (D : KtsDicts (outer.filterMap (·.frame)) h₀) (hf : env.frame = some L) {v : Value} {s' : Shared}
    (hl : LeaveT A₀ base env outer K p loose mean mg mb h₀ L m s.heap news R v s') : R (.ok (.ret v)) s' := by
  obtain ⟨g', L', m', T', F', k⟩ := hl
  have nL₀ : h₀.get? L = none := kts_self F
  obtain ⟨oL, es, ep, hLg, hLd, hLk, hLf⟩ := F.ns
  obtain ⟨sl, hs⟩ := T'.up hLg
  have nf : ∀ b o, h₀.get? b = some o → b ∉ outer.filterMap (·.frame) → b ∉ (env :: outer).filterMap (·.frame) := fun b o e nm q => by
    rcases mem_fr hf q with z | z
    · rw [z, nL₀] at e; cases e
    · exact nm z
  obtain ⟨T₁, S₁⟩ := kts_turn_at (h := s'.heap) (fs := outer.filterMap (·.frame)) (g := h₀)
    (fun b hb => by
      obtain ⟨_, o, ho', _⟩ := B.frames.mem hb
      exact ⟨o, ho'⟩)
    (fun b o e nmem => F'.keep b o (T'.other b o (F.keep b o e) (nf b o e nmem)))
    (fun b o e hm => by
      obtain ⟨sl', hs'⟩ := T'.up (F.keep b o e)
      exact ⟨sl', F'.keep _ _ hs'⟩)
  have B₃ : Below A₀ base outer (ktsHeap s'.heap (outer.filterMap (·.frame)) h₀) := ⟨B.stack, fun b o e => T₁.other b o (B.stays b o e) (fun hm => by
    rw [(B.frames.mem hm).1] at e; cases e), B.frames.of_keeps fun b o e _ => by
    obtain ⟨sl', hs'⟩ := T₁.up e
    exact ⟨_, hs', rfl⟩⟩
  refine k _ T₁ ⟨⟨_, es, ep, F'.keep _ _ hs, hLd, hLk, hLf⟩, S₁, by rw [T₁.size]; exact F.above⟩ (fun q hq => ?_) B₃ (XB.keeps B₃.stays) (TB.keeps B₃.stays) (D.turn T₁)
  obtain ⟨n1, n2, n3⟩ := N q hq
  refine ⟨F'.keep _ _ (T'.other _ _ n1 fun hm => ?_), n2, T₁.none_ _ n3⟩
  rcases mem_fr hf hm with z | z
  · exact n2 z
  · obtain ⟨_, o, ho', _⟩ := B.frames.mem z
    rw [n3] at ho'; cases ho'

theorem enterT (B : Below A₀ base outer h₀) (F : Fr h₀ L s.heap m) (X₀ : K.In h₀) (N : News h₀ L s.heap news) (T : Top p loose mean mg mb h₀) (XB : K.In base) (TB : Top p loose mean mg mb base) (D : KtsDicts (outer.filterMap (·.frame)) h₀)
    (hA : A.frames = some (env :: outer)) (hf : env.frame = some L) (hke : env.scope.kind = .function)
    (ho : K.lookup f = some ⟨oc, od, .func (fnOf name qual params body scope dV kV doc pm an cdv ct), osl⟩) (hcd : codeIn K cdv qual = true) (hroom : A.depth < recursionLimit)
    (hbind : BindsTo s (fnOf name qual params body scope dV kV doc pm an cdv ct) ⟨vals, []⟩ ((params.args.map (·.arg)).zip vals)) (hloc : ∀ y ∈ (params.args.map (·.arg)).zip vals, scope.names.lookup y.1 = some .local)
    (h : ∀ L' h₁ tk, Fr s.heap L' h₁ (fun y => ((params.args.map (·.arg)).zip vals).reverse.lookup y) → Below A base (env :: outer) s.heap → K.In s.heap → Top p loose mean mg mb s.heap → KtsDicts ((env :: outer).filterMap (·.frame)) s.heap →
      wpAny (model prog w) (A.deeper (envOf qual scope L' f cdv)) (execs body (envOf qual scope L' f cdv))
        (fun fl s' => LeaveT A₀ base env outer K p loose mean mg mb h₀ L m s.heap news R (match fl with | .ret v => v | _ => .none) s')
        (fun e s' => wpAny (model prog w) (A.deeper (envOf qual scope L' f cdv)) (leaving (envOf qual scope L' f cdv) e) (fun _ s'' => R (.error e) s'') (fun e' s'' => R (.error e') s'') s')
        { s with heap := h₁, toks := tk })
    (hco : scope.isCoroutine = false) (hgen : scope.isGenerator = false) (hk : scope.kind = .function)
    (hcell : ∀ x ∈ scope.names, x.2 ≠ .cell) : codeAny (model prog w) A (.call (.ref f) ⟨vals, []⟩) R s := by
  refine codeAny_call_def (fd := fnOf name qual params body scope dV kV doc pm an cdv ct) (body := body) (binds := (params.args.map (·.arg)).zip vals) hroom ((X₀.keeps F.keep) _ _ ho) rfl (T.nolimit.keeps F.keep) (codeRec_of (X₀.keeps F.keep) hcd) rfl hbind hcell hloc (fun h₁ hns hk₁ => ?_) hco hgen hk
  exact wpAny_mono (h s.heap.objs.size h₁ _ ⟨hns, hk₁, Nat.le_refl _⟩ (belowE B F hA hf hke) (X₀.keeps F.keep) (T.keeps F.keep) (dictsE F D hf)) (fun fl s' hl => leaveT B F N XB TB D hf hl) fun _ _ y => y

theorem enterCT (B : Below A₀ base outer h₀) (F : Fr h₀ L s.heap m) (X₀ : K.In h₀) (N : News h₀ L s.heap news) (T : Top p loose mean mg mb h₀) (XB : K.In base) (TB : Top p loose mean mg mb base) (D : KtsDicts (outer.filterMap (·.frame)) h₀)
    (hA : A.frames = some (env :: outer)) (hf : env.frame = some L) (hke : env.scope.kind = .function)
    (ho : K.lookup f = some ⟨oc, od, .func (fnOf name qual params body scope dV kV doc pm an cdv ct), osl⟩) (hcd : codeIn K cdv qual = true) (hroom : A.depth < recursionLimit)
    (hbind : BindsTo s (fnOf name qual params body scope dV kV doc pm an cdv ct) ⟨vals, []⟩ ((params.args.map (·.arg)).zip vals)) (hkind : (((params.args.map (·.arg)).zip vals).all fun y => scope.names.lookup y.1 == some .local || scope.names.lookup y.1 == some .cell) = true)
    (hnd : ((cellsFrom 0 scope.names []).map (·.1)).Nodup)
    (h : ∀ L' h₁ tk cells, Fr s.heap L' h₁ (bindL (envOfC qual scope L' f cdv).kindOf ((params.args.map (·.arg)).zip vals) fun _ => none) → News s.heap L' h₁ cells →
      CellsAre (bindC (envOfC qual scope L' f cdv).kindOf ((params.args.map (·.arg)).zip vals) fun _ => none) (cellsFrom (L' + 1) scope.names []) cells → Below A base (env :: outer) s.heap → K.In s.heap → Top p loose mean mg mb s.heap → KtsDicts ((env :: outer).filterMap (·.frame)) s.heap →
      wpAny (model prog w) (A.deeper (envOfC qual scope L' f cdv)) (execs body (envOfC qual scope L' f cdv))
        (fun fl s' => LeaveT A₀ base env outer K p loose mean mg mb h₀ L m s.heap news R (match fl with | .ret v => v | _ => .none) s')
        (fun e s' => wpAny (model prog w) (A.deeper (envOfC qual scope L' f cdv)) (leaving (envOfC qual scope L' f cdv) e) (fun _ s'' => R (.error e) s'') (fun e' s'' => R (.error e') s'') s')
        { s with heap := h₁, toks := tk })
    (hco : scope.isCoroutine = false) (hgen : scope.isGenerator = false) (hk : scope.kind = .function) : codeAny (model prog w) A (.call (.ref f) ⟨vals, []⟩) R s := by
  refine codeAny_call_function hroom ((X₀.keeps F.keep) _ _ ho) rfl hco hgen rfl (codeRec_of (X₀.keeps F.keep) hcd) (hbind _ _ _ _ ?_)
  refine wpAny_newFunctionEnv_cells hk (kindsX hkind _) fun env' he s' x => ?_
  subst he
  refine ⟨(T.nolimit.keeps F.keep).keeps x.toInCall.keep, codeAny_func ?_⟩
  obtain ⟨h₁, tk, rfl, _⟩ := x.done
  obtain ⟨cells, NC, Y⟩ := Cl.news (h₀ := s.heap) (Nat.le_refl _) fun n c hm => ⟨x.cell n c (lookup_of_mem_nodup (cellsFrom_names scope.names 0 (s.heap.objs.size + 1) [] [] rfl ▸ hnd) hm), x.above n c hm⟩
  exact wpAny_mono (h s.heap.objs.size h₁ tk cells ⟨x.toInCall.ns, x.toInCall.keep, Nat.le_refl _⟩ NC Y (belowE B F hA hf hke) (X₀.keeps F.keep) (T.keeps F.keep) (dictsE F D hf)) (fun fl s' hl => leaveT B F N XB TB D hf hl) fun _ _ y => y
end

section
variable {w : World} {p : Program} {loose : List Str} {mean : ExcName → Option Value} {mg mb : Str → Option Value} {d : Nat} {f : Addr} {news : CbLed} {vs : List Value} {C : Heap → Prop}
  {dp un : Nat} {gd : Option (List Code)} {cn : Str} {cs : Scope} {a : Addr} {ccd : Value} {cl : List (Str × Addr)} {outer : List Env} {A₀ : Around} {base h₀ : Heap} {L : Addr} {m : Str → Option Value} {s : Shared} {Q E : Value → Shared → Prop}
theorem tellT (H : TellsT w p loose mean mg mb d f news vs C) (B : Below A₀ base outer h₀) (F : Fr h₀ L s.heap m) (X : (hd.heap_1 w.params).In h₀) (N : News h₀ L s.heap news) (T : Top p loose mean mg mb h₀) (hk : cs.kind = .function) (hd : dp + d < recursionLimit) (hu : un + 8 * d < cLine)
    (XB : (Mine.hd.heap_1 w.params).In base) (TB : Top p loose mean mg mb base) (D : KtsDicts (outer.filterMap (·.frame)) h₀) (hC : C s.heap)
    (ret : ∀ h₀' h' tk', KtsTurn (outer.filterMap (·.frame)) h₀ h₀' → Fr h₀' L h' m → News h₀' L h' news → Below A₀ base outer h₀' → (Mine.hd.heap_1 w.params).In h₀' → Top p loose mean mg mb h₀' → KtsDicts (outer.filterMap (·.frame)) h₀' → Q (.bool true) { s with heap := h', toks := tk' }) :
    wpAny (model lawProg w) (ktrTop dp un gd cn cs L a ccd cl outer) (call (.ref f) vs) Q E s := H _ _ _ _ _ _ _ _ _ _ _ _ _ _ _ _ _ B F X N T hk hd hu XB TB D hC ret
end
end
section
open PySem.Calls
section
variable {prog : Program} {w : World} {A A₀ : Around} {s : Shared} {base h₀ : Heap} {outer : List Env} {L : Addr} {m : Str → Option Value} {env : Env} {K : Frag} {p : Program} {loose : List Str} {mean : ExcName → Option Value} {mg mb : Str → Option Value}
  {R : Result → Shared → Prop} {name qual : Str} {params : Arguments} {body : Expr} {scope : Scope} {cl : List (Str × Addr)} {pm ctv : Value} {f c' : Addr} {vals : List Value} {P : Value → Shared → Prop}
/-- enter a lambda; its ground is the caller's whole heap -/
theorem enterL (B : Below A₀ base outer h₀) (F : Fr h₀ L s.heap m) (X₀ : K.In h₀) (T : Top p loose mean mg mb h₀) (hA : A.frames = some (env :: outer)) (hf : env.frame = some L) (hke : env.scope.kind = .function)
    (ho : s.heap.get? f = some (kla_obj name qual params body scope cl pm c' ctv)) (hcd : s.heap.CodeRec (.ref c') qual) (hroom : A.depth < recursionLimit)
    (hbind : bindArgs (kla_fn name qual params body scope cl pm (.ref c') ctv) ⟨vals, []⟩ = pure ((params.args.map (·.arg)).zip vals)) (hloc : ∀ y ∈ (params.args.map (·.arg)).zip vals, scope.names.lookup y.1 = some .local)
    (h : ∀ L' h₁ tk, Fr s.heap L' h₁ (fun y => ((params.args.map (·.arg)).zip vals).reverse.lookup y) → Below A base (env :: outer) s.heap → K.In s.heap → Top p loose mean mg mb s.heap →
      wpAny (model prog w) (A.deeper (envX qual scope L' f (.ref c') cl)) (eval body (envX qual scope L' f (.ref c') cl))
        (fun v s' => R (.ok (.ret v)) s')
        (fun e s' => wpAny (model prog w) (A.deeper (envX qual scope L' f (.ref c') cl)) (leaving (envX qual scope L' f (.ref c') cl) e) (fun _ s'' => R (.error e) s'') (fun e' s'' => R (.error e') s'') s')
        { s with heap := h₁, toks := tk })
    (hco : scope.isCoroutine = false) (hgen : scope.isGenerator = false) (hk : scope.kind = .function)
    (hcell : ∀ x ∈ scope.names, x.2 ≠ .cell) : codeAny (model prog w) A (.call (.ref f) ⟨vals, []⟩) R s := by
  refine kla_callFunE hroom ho rfl hco hgen rfl hcd ?_
  rw [hbind]
  refine wpAny_pure (wpAny_newFunctionEnv hcell hloc (fun h₁ hns hsb => ⟨((T.nolimit).keeps F.keep).fresh _ hsb, ?_⟩) hk)
  show codeAny _ _ (.expr body (envX qual scope s.heap.objs.size f (.ref c') cl)) _ _
  have hk₁ : ∀ b o, s.heap.get? b = some o → h₁.get? b = some o := fun b o e => hsb.extBut b o (Nat.ne_of_lt (Heap.lt_size e)) (Heap.get?_push_of_some _ e)
  exact kla_codeExpr (h s.heap.objs.size h₁ _ ⟨hns, hk₁, Nat.le_refl _⟩ (belowE B F hA hf hke) (X₀.keeps F.keep) (T.keeps F.keep))
end
section
variable {M : Model} {A : Around} {E : Value → Shared → Prop} {s : Shared} {h₀ : Heap} {L a c : Addr} {m : Str → Option Value} {cn : Str} {cs : Scope} {ccd : Value} {cl : List (Str × Addr)} {x : Str} {pos : Pos} {v : Value} {o : Obj} {Q : Value → Shared → Prop}
/-- a free name whose cell stands in the ground -/
theorem ld_free (F : Fr h₀ L s.heap m) (hc : cl.lookup x = some c) (hv : h₀.IsCell c (some v)) (h : Q v s)
    (hk : cs.kind = .function := by rfl) (hx : (envX cn cs L a ccd cl).kindOf x = some .free := by rfl) (hb : (x == ("__debug__" : Str)) = false := by decide) (hn : (x == ("__classdict__" : Str)) = false := by decide) :
    wpAny M A (eval (.Name x pos) (envX cn cs L a ccd cl)) Q E s := by
  obtain ⟨o, ho, hd⟩ := hv
  exact wpAny_Name (wpAny_loadName_free hk hx hc ⟨o, F.keep _ _ ho, hd⟩ h hn) hb
end
noncomputable def CodeIn (h : Heap) (c' : Addr) (qual : Str) : Prop := h.CodeRec (.ref c') qual
/-- the lambda f, made in the def q, its cells as told, stands in the heap -/
noncomputable def LamIn (qual : Str) (params : Arguments) (body : Expr) (scope : Scope) (cl : List (Str × Addr)) (pm : Value) (f : Addr) (cells : List (Addr × Value)) (h : Heap) : Prop :=
  (∃ c' ctv, h.get? f = some (kla_obj "<lambda>" qual params body scope cl pm c' ctv) ∧ h.CodeRec (.ref c') qual) ∧ ∀ q ∈ cells, h.IsCell q.1 (some q.2)
theorem codeRec_keeps {h h' : Heap} {v : Value} {qual : Str} (x : h.CodeRec v qual) (k : ∀ b o, h.get? b = some o → h'.get? b = some o) : h'.CodeRec v qual := by
  obtain ⟨c, oc, vs, t, e1, e2, e3, e4⟩ := x
  exact ⟨c, oc, vs, t, e1, k _ _ e2, e3, e4⟩
theorem LamIn.keeps {qual : Str} {params : Arguments} {body : Expr} {scope : Scope} {cl : List (Str × Addr)} {pm : Value} {f : Addr} {cells : List (Addr × Value)} {h h' : Heap} (x : LamIn qual params body scope cl pm f cells h) (k : ∀ b o, h.get? b = some o → h'.get? b = some o) : LamIn qual params body scope cl pm f cells h' := by
  obtain ⟨⟨c', ctv, e1, e2⟩, e3⟩ := x
  exact ⟨⟨c', ctv, k _ _ e1, codeRec_keeps e2 k⟩, fun q hq => by
    obtain ⟨o, ho, hd⟩ := e3 q hq
    exact ⟨o, k _ _ ho, hd⟩⟩
theorem LamIn.fn {qual : Str} {params : Arguments} {body : Expr} {scope : Scope} {cl : List (Str × Addr)} {pm : Value} {f : Addr} {cells : List (Addr × Value)} {h : Heap} (x : LamIn qual params body scope cl pm f cells h) : FnAt f h := by
  obtain ⟨⟨c', ctv, e1, e2⟩, _⟩ := x
  exact ⟨_, _, _, _, e1⟩
end
section
open PySem.Calls
/-- the table of nested codes at P, as the ledger bears it; the codes of lams that it holds stand in the ledger too -/
noncomputable def TabOn (P : Addr) (lams : List (Pos × Str)) (news : List (Addr × Obj)) : Prop :=
  ∃ ps, (P, tabObj ps) ∈ news ∧ TriplesOk ps.toList ∧ ∀ q ∈ lams, codeAmong q.1 ps.toList = none ∨ ∃ c' oc vs t, codeAmong q.1 ps.toList = some (.ref c') ∧ (c', oc) ∈ news ∧ oc.data = .fields vs ∧ vs[1]? = some (.str q.2 t) ∧ c' ≠ P

noncomputable def TellsP (w : World) (p : Program) (loose : List Str) (mean : ExcName → Option Value) (mg mb : Str → Option Value) (d : Nat) (f : Addr) (P : Addr) (lams : List (Pos × Str)) (vs : List Value) (C : Heap → Prop) : Prop :=
  ∀ (dp un : Nat) (gd : Option (List Code)) (cn : Str) (cs : Scope) (a : Addr) (ccd : Value) (cl : List (Str × Addr)) (outer : List Env) (A₀ : Around) (base h₀ : Heap) (L : Addr) (m : Str → Option Value) (news : CbLed) (s : Shared) (Q E : Value → Shared → Prop),
    Below A₀ base outer h₀ → Fr h₀ L s.heap m → (hd.heap_1 w.params).In h₀ → News h₀ L s.heap news → Top p loose mean mg mb h₀ → cs.kind = .function → dp + d < recursionLimit → un + 8 * d < cLine →
    (hd.heap_1 w.params).In base → Top p loose mean mg mb base → KtsDicts (outer.filterMap (·.frame)) h₀ → TabOn P lams news → C s.heap →
    (∀ h₀' h' tk' news', KtsTurn (outer.filterMap (·.frame)) h₀ h₀' → Fr h₀' L h' m → News h₀' L h' news' → TabOn P lams news' → (∀ q ∈ news, q.1 ≠ P → q ∈ news') → Below A₀ base outer h₀' → (hd.heap_1 w.params).In h₀' → Top p loose mean mg mb h₀' → KtsDicts (outer.filterMap (·.frame)) h₀' → Q (.bool true) { s with heap := h', toks := tk' }) →
    wpAny (model lawProg w) (ktrTop dp un gd cn cs L a ccd cl outer) (call (.ref f) vs) Q E s

noncomputable def offP (P : Addr) (news : List (Addr × Obj)) : List (Addr × Obj) := news.filter fun q => decide (@Ne Nat q.1 P)
theorem mem_offP {P : Addr} {news : List (Addr × Obj)} {q : Addr × Obj} : q ∈ offP P news ↔ q ∈ news ∧ q.1 ≠ P := by
  unfold offP
  rw [List.mem_filter, decide_eq_true_iff]
noncomputable def LeaveP (A₀ : Around) (base : Heap) (env : Env) (outer : List Env) (K : Frag) (p : Program) (loose : List Str) (mean : ExcName → Option Value) (mg mb : Str → Option Value) (h₀ : Heap) (L : Addr) (m : Str → Option Value) (g : Heap) (P : Addr) (news : List (Addr × Obj)) (R : Result → Shared → Prop) (v : Value) (s' : Shared) : Prop :=
  ∃ g' L' m' newsIn, KtsTurn ((env :: outer).filterMap (·.frame)) g g' ∧ Fr g' L' s'.heap m' ∧ News g' L' s'.heap newsIn ∧
    (∀ h₀', KtsTurn (outer.filterMap (·.frame)) h₀ h₀' → Fr h₀' L s'.heap m → News h₀' L s'.heap (newsIn ++ offP P news) → Below A₀ base outer h₀' → K.In h₀' → Top p loose mean mg mb h₀' → KtsDicts (outer.filterMap (·.frame)) h₀' → R (.ok (.ret v)) s')

section
variable {prog : Program} {w : World} {A A₀ : Around} {s : Shared} {base h₀ : Heap} {outer : List Env} {L P : Addr} {m : Str → Option Value} {env : Env} {news : List (Addr × Obj)} {K : Frag} {p : Program} {loose : List Str} {mean : ExcName → Option Value} {mg mb : Str → Option Value}
  {R : Result → Shared → Prop} {name qual : Str} {params : Arguments} {body : List Stmt} {scope : Scope} {dV kV doc pm cdv ct oc : Value} {an od : Option Addr} {osl : Array (Option Value)} {f : Addr} {args : Args} {vals : List Value} {oP : Obj}

theorem leaveP (B : Below A₀ base outer h₀) (F : Fr h₀ L s.heap m) (N : News h₀ L s.heap news) (hP : (P, oP) ∈ news) (XB : K.In base) (TB : Top p loose mean mg mb base) (D : KtsDicts (outer.filterMap (·.frame)) h₀) (hf : env.frame = some L) {v : Value} {s' : Shared}
    (hl : LeaveP A₀ base env outer K p loose mean mg mb h₀ L m (hideAll s.heap [P]) P news R v s') : R (.ok (.ret v)) s' := by
  obtain ⟨g', L', m', newsIn, T', F', N', k⟩ := hl
  have nL₀ : h₀.get? L = none := kts_self F
  have nP := N _ hP
  have inG : ∀ b o, b ≠ P → s.heap.get? b = some o → (hideAll s.heap [P]).get? b = some o := fun b o hb e => hideAll_get _ e fun hm => hb (List.mem_singleton.mp hm)
  have st : ∀ b o, h₀.get? b = some o → (hideAll s.heap [P]).get? b = some o := fun b o e => inG b o (fun q => by rw [q, nP.2.2] at e; cases e) (F.keep b o e)
  obtain ⟨oL, es, ep, hLg, hLd, hLk, hLf⟩ := F.ns
  have hLg' := inG L oL (fun q => nP.2.1 q.symm) hLg
  obtain ⟨sl, hs⟩ := T'.up hLg'
  have nf : ∀ b o, h₀.get? b = some o → b ∉ outer.filterMap (·.frame) → b ∉ (env :: outer).filterMap (·.frame) := fun b o e nm q => by
    rcases mem_fr hf q with z | z
    · rw [z, nL₀] at e; cases e
    · exact nm z
  obtain ⟨T₁, S₁⟩ := kts_turn_at (h := s'.heap) (fs := outer.filterMap (·.frame)) (g := h₀)
    (fun b hb => by
      obtain ⟨_, o, ho', _⟩ := B.frames.mem hb
      exact ⟨o, ho'⟩)
    (fun b o e nmem => F'.keep b o (T'.other b o (st b o e) (nf b o e nmem)))
    (fun b o e hm => by
      obtain ⟨sl', hs'⟩ := T'.up (st b o e)
      exact ⟨sl', F'.keep _ _ hs'⟩)
  have B₃ : Below A₀ base outer (ktsHeap s'.heap (outer.filterMap (·.frame)) h₀) := ⟨B.stack, fun b o e => T₁.other b o (B.stays b o e) (fun hm => by
    rw [(B.frames.mem hm).1] at e; cases e), B.frames.of_keeps fun b o e _ => by
    obtain ⟨sl', hs'⟩ := T₁.up e
    exact ⟨_, hs', rfl⟩⟩
  refine k _ T₁ ⟨⟨_, es, ep, F'.keep _ _ hs, hLd, hLk, hLf⟩, S₁, by rw [T₁.size]; exact F.above⟩ (fun q hq => ?_) B₃ (XB.keeps B₃.stays) (TB.keeps B₃.stays) (D.turn T₁)
  rcases List.mem_append.mp hq with hq | hq
  · obtain ⟨n1, n2, n3⟩ := N' q hq
    refine ⟨n1, (fun e => by rw [e, hs] at n3; cases n3), T₁.none_ _ ?_⟩
    cases z : h₀.get? q.1 with
    | none => rfl
    | some o =>
      obtain ⟨sl', hs'⟩ := T'.up (st _ _ z)
      rw [hs'] at n3; cases n3
  · obtain ⟨hq, hqP⟩ := mem_offP.mp hq
    obtain ⟨n1, n2, n3⟩ := N q hq
    refine ⟨F'.keep _ _ (T'.other _ _ (inG _ _ hqP n1) fun hm => ?_), n2, T₁.none_ _ n3⟩
    rcases mem_fr hf hm with z | z
    · exact n2 z
    · obtain ⟨_, o, ho', _⟩ := B.frames.mem z
      rw [n3] at ho'; cases ho'

theorem enterP (B : Below A₀ base outer h₀) (F : Fr h₀ L s.heap m) (X₀ : K.In h₀) (N : News h₀ L s.heap news) (T : Top p loose mean mg mb h₀) (hP : (P, oP) ∈ news) (XB : K.In base) (TB : Top p loose mean mg mb base) (D : KtsDicts (outer.filterMap (·.frame)) h₀)
    (hA : A.frames = some (env :: outer)) (hf : env.frame = some L) (hke : env.scope.kind = .function)
    (ho : K.lookup f = some ⟨oc, od, .func (fnOf name qual params body scope dV kV doc pm an cdv ct), osl⟩) (hcd : codeIn K cdv qual = true) (hroom : A.depth < recursionLimit)
    (hbind : BindsTo s (fnOf name qual params body scope dV kV doc pm an cdv ct) ⟨vals, []⟩ ((params.args.map (·.arg)).zip vals)) (hkind : (((params.args.map (·.arg)).zip vals).all fun y => scope.names.lookup y.1 == some .local || scope.names.lookup y.1 == some .cell) = true)
    (hnd : ((cellsFrom 0 scope.names []).map (·.1)).Nodup)
    (h : ∀ g L' h₁ tk cells, g = hideAll s.heap [P] → Fr g L' h₁ (bindL (envOfC qual scope L' f cdv).kindOf ((params.args.map (·.arg)).zip vals) fun _ => none) → News g L' h₁ (cells ++ [(P, oP)]) →
      CellsAre (bindC (envOfC qual scope L' f cdv).kindOf ((params.args.map (·.arg)).zip vals) fun _ => none) (cellsFrom (L' + 1) scope.names []) cells → Below A base (env :: outer) g → K.In g → Top p loose mean mg mb g → KtsDicts ((env :: outer).filterMap (·.frame)) g → (P < L') →
      wpAny (model prog w) (A.deeper (envOfC qual scope L' f cdv)) (execs body (envOfC qual scope L' f cdv))
        (fun fl s' => LeaveP A₀ base env outer K p loose mean mg mb h₀ L m g P news R (match fl with | .ret v => v | _ => .none) s')
        (fun e s' => wpAny (model prog w) (A.deeper (envOfC qual scope L' f cdv)) (leaving (envOfC qual scope L' f cdv) e) (fun _ s'' => R (.error e) s'') (fun e' s'' => R (.error e') s'') s')
        { s with heap := h₁, toks := tk })
    (hco : scope.isCoroutine = false) (hgen : scope.isGenerator = false) (hk : scope.kind = .function) : codeAny (model prog w) A (.call (.ref f) ⟨vals, []⟩) R s := by
  have N1 : News h₀ L s.heap [(P, oP)] := fun q hq => by rw [List.mem_singleton.mp hq]; exact N _ hP
  obtain ⟨FG, BG, st, _⟩ := groundX (R := R) B F N1 hA hf hke
  refine codeAny_call_function hroom ((X₀.keeps F.keep) _ _ ho) rfl hco hgen rfl (codeRec_of (X₀.keeps F.keep) hcd) (hbind _ _ _ _ ?_)
  refine wpAny_newFunctionEnv_cells hk (kindsX hkind _) fun env' he s' x => ?_
  subst he
  refine ⟨(T.nolimit.keeps F.keep).keeps x.toInCall.keep, codeAny_func ?_⟩
  obtain ⟨h₁, tk, rfl, _⟩ := x.done
  have hk₁ := x.toInCall.keep
  obtain ⟨cells, NC, Y⟩ := Cl.news (h₀ := s.heap) (Nat.le_refl _) fun n c hm => ⟨x.cell n c (lookup_of_mem_nodup (cellsFrom_names scope.names 0 (s.heap.objs.size + 1) [] [] rfl ▸ hnd) hm), x.above n c hm⟩
  have hlt : P < s.heap.objs.size := Heap.lt_size (N _ hP).1
  refine wpAny_mono (h _ s.heap.objs.size h₁ tk cells rfl ⟨x.toInCall.ns, fun b o e => hk₁ b o (of_hideAll _ e), Nat.le_of_eq (hideAll_size _ _)⟩ (fun q hq => ?_) Y BG (X₀.keeps st) (T.keeps st) (fun b hb => ?_) hlt) (fun fl s' hl => leaveP B F N hP XB TB D hf hl) fun _ _ y => y
  · rcases List.mem_append.mp hq with hq | hq
    · refine ⟨(NC q hq).1, (NC q hq).2.1, ?_⟩
      cases z : (hideAll s.heap [P]).get? q.1 with
      | none => rfl
      | some o => have := of_hideAll _ z; rw [(NC q hq).2.2] at this; cases this
    · rw [List.mem_singleton.mp hq]
      exact ⟨hk₁ _ _ (N _ hP).1, Nat.ne_of_lt hlt, hideAll_none _ (.head _)⟩
  · rcases mem_fr hf hb with rfl | z
    · obtain ⟨oL, es, ep, hL, hLd, _⟩ := FG.ns
      exact ⟨oL, es, ep, hL, hLd⟩
    · obtain ⟨o, es, n, ho', hd'⟩ := D b z
      exact ⟨o, es, n, st b o ho', hd'⟩
end
theorem triples_snoc {l : List Value} {a b : Int} {t u : Tok} {c : Value} (h : TriplesOk l) : TriplesOk (l ++ [.int a t, .int b u, c]) := by
  fun_induction TriplesOk l with
  | case1 => simp [TriplesOk]
  | case2 _ _ _ _ _ _ ih => simpa [TriplesOk] using ih h
  | case3 => exact absurd h (by simp)
theorem among_other {pos pos' : Pos} {c : Value} {l : List Value} (h : TriplesOk l) (hne : (pos.line == pos'.line && pos.col == pos'.col) = false) : codeAmong pos' (l ++ [rawInt pos.line, rawInt pos.col, c]) = codeAmong pos' l := by
  fun_induction TriplesOk l with
  | case1 =>
    simp only [List.nil_append, codeAmong, rawInt]
    rw [if_neg]
    intro hc
    simp only [Bool.and_eq_true, beq_iff_eq] at hc
    rw [Bool.and_eq_false_iff, beq_eq_false_iff_ne, beq_eq_false_iff_ne] at hne
    rcases hne with h1 | h1
    · exact h1 (by exact_mod_cast hc.1)
    · exact h1 (by exact_mod_cast hc.2)
  | case2 a t b u x r ih =>
    simp only [List.cons_append, codeAmong]
    rw [ih h]
  | case3 => exact absurd h (by simp)
end
section
open PySem.Calls
noncomputable def LamsOk (P : Addr) (lams : List (Pos × Str)) (ps : Array Value) (mem : Addr × Obj → Prop) : Prop :=
  ∀ q ∈ lams, codeAmong q.1 ps.toList = none ∨ ∃ c' oc vs t, codeAmong q.1 ps.toList = some (.ref c') ∧ mem (c', oc) ∧ oc.data = .fields vs ∧ vs[1]? = some (.str q.2 t) ∧ c' ≠ P
theorem LamsOk.mono {P : Addr} {lams : List (Pos × Str)} {ps : Array Value} {mem mem' : Addr × Obj → Prop} (h : LamsOk P lams ps mem) (k : ∀ q, q.1 ≠ P → mem q → mem' q) : LamsOk P lams ps mem' := fun q hq => by
  rcases h q hq with e | ⟨c', oc, vs, t, e1, e2, e3, e4, e5⟩
  · exact .inl e
  · exact .inr ⟨c', oc, vs, t, e1, k _ e5 e2, e3, e4, e5⟩
theorem TabOn.open {P : Addr} {lams : List (Pos × Str)} {news : List (Addr × Obj)} (h : TabOn P lams news) : ∃ ps, (P, tabObj ps) ∈ news ∧ TriplesOk ps.toList ∧ LamsOk P lams ps (· ∈ news) := h
theorem tabOn_back {P : Addr} {lams : List (Pos × Str)} {news newsIn : List (Addr × Obj)} {ps : Array Value} (hP : (P, tabObj ps) ∈ newsIn) (ht : TriplesOk ps.toList) (h : LamsOk P lams ps fun q => q ∈ news ∨ q ∈ newsIn) : TabOn P lams (newsIn ++ offP P news) :=
  ⟨ps, List.mem_append_left _ hP, ht, h.mono fun q hq hm => by
    rcases hm with hm | hm
    · exact List.mem_append_right _ (mem_offP.mpr ⟨hm, hq⟩)
    · exact List.mem_append_left _ hm⟩
theorem updF_pre {P : Addr} {o : Obj} {news : List (Addr × Obj)} {g : Obj → List (Addr × Obj)} (U : UpdF P o news g) : ∀ {pre : List (Addr × Obj)}, (∀ q ∈ pre, q.1 ≠ P) → UpdF P o (pre ++ news) (fun o' => pre ++ g o')
  | [], _ => U
  | q :: _, h => .tail (h q (.head _)) (updF_pre U fun x hx => h x (.tail _ hx))

section
variable {prog : Program} {w : World} {A : Around} {E : Value → Shared → Prop} {s : Shared} {h₀ : Heap} {L a c P : Addr} {m mg mb : Str → Option Value} {cn : Str} {cs : Scope} {ccd : Value} {cl : List (Str × Addr)} {news : List (Addr × Obj)} {g : Obj → List (Addr × Obj)}
  {p : Program} {loose : List Str} {mean : ExcName → Option Value} {params : Arguments} {body : Expr} {scope : Scope} {ps : Array Value} {pos : Pos} {clos : List (Str × Addr)} {lams : List (Pos × Str)} {mem : Addr × Obj → Prop} {Q : Value → Shared → Prop}
/-- a lambda of a def whose table stands in the ledger: its code is made, or found in the table -/
theorem lam_make (F : Fr h₀ L s.heap m) (N : News h₀ L s.heap news) (T : Top p loose mean mg mb h₀) (C : CodeHd h₀ c P) (hcd : ccd = .ref c) (U : UpdF P (tabObj ps) news g) (ht : TriplesOk ps.toList) (hok : LamsOk P lams ps mem)
    (hmem : ∀ q, mem q → q.1 ≠ P → h₀.get? q.1 = some q.2 ∨ q ∈ news) (hin : (pos, (envX cn cs L a ccd cl).qual ++ "<lambda>") ∈ lams) (hdist : ∀ q ∈ lams, q = (pos, (envX cn cs L a ccd cl).qual ++ "<lambda>") ∨ (pos.line == q.1.line && pos.col == q.1.col) = false)
    (hdef : defaultsOf params (envX cn cs L a ccd cl) = ([], [])) (hcl : closureFor scope (envX cn cs L a ccd cl) = pure clos)
    (h : ∀ f c' ctv ps' pre h' tk, Fr h₀ L h' m → News h₀ L h' (pre ++ g (tabObj ps')) → (f, kla_obj "<lambda>" ((envX cn cs L a ccd cl).qual ++ "<lambda>") params body scope clos ((mg "__name__").getD .none) c' ctv) ∈ pre → h'.CodeRec (.ref c') ((envX cn cs L a ccd cl).qual ++ "<lambda>") →
      (∀ q ∈ pre, q.1 ≠ P) → TriplesOk ps'.toList → LamsOk P lams ps' (fun q => mem q ∨ q ∈ pre) → Q (.ref f) { s with heap := h', toks := tk }) :
    wpAny (model prog w) A (eval (.Lambda params body scope pos) (envX cn cs L a ccd cl)) Q E s := by
  refine kla_eval hdef ?_
  obtain ⟨own, rest, hnews, hg, h1, h2⟩ := U.split
  have hPn : (P, tabObj ps) ∈ news := by rw [hnews]; exact List.mem_append_right _ (.head _)
  have hPh := (N _ hPn).1
  have ltP : ∀ {f : Addr}, (∀ q ∈ news, q.1 < f) → f ≠ P := fun hf e => by
    have := hf _ hPn; rw [e] at this; exact Nat.lt_irrefl _ this
  rcases hok _ hin with hn | ⟨c', oc, vs, t, e1, e2, e3, e4, e5⟩
  · refine kla_nest F N T C hcd U ht hn hcl fun f c' oc vs t ctv h' tk F' N' d1 d2 l1 l2 => ?_
    have fP : f ≠ P := fun e => by have := l1 _ hPn; rw [← e] at this; exact Nat.lt_irrefl _ (Nat.lt_trans this l2)
    have cP : c' ≠ P := ltP l1
    refine h f c' ctv (ps ++ #[rawInt pos.line, rawInt pos.col, .ref c']) [_, (c', oc)] h' tk F' N' (.head _) ⟨c', oc, vs, t, rfl, (N' _ (.tail _ (.head _))).1, d1, d2⟩ (fun q hq => ?_) ?_ fun q hq => ?_
    · simp only [List.mem_cons, List.not_mem_nil, or_false] at hq
      rcases hq with rfl | rfl
      · exact fP
      · exact cP
    · rw [Array.toList_append]; exact triples_snoc ht
    · rw [Array.toList_append]
      rcases hdist q hq with rfl | hne
      · exact .inr ⟨c', oc, vs, t, codeAmong_snoc _ ht hn, .inr (.tail _ (.head _)), d1, d2, cP⟩
      · have e := among_other (c := .ref c') ht hne
        rcases hok q hq with z | ⟨c2, oc2, vs2, t2, z1, z2, z3, z4, z5⟩
        · exact .inl (e.trans z)
        · exact .inr ⟨c2, oc2, vs2, t2, e.trans z1, .inl z2, z3, z4, z5⟩
  · refine kla_hit F N T C hcd hPn ht e1 hcl fun f ctv h' tk F' N' l1 => ?_
    have fP : f ≠ P := ltP l1
    have hk : h'.CodeRec (.ref c') ((envX cn cs L a ccd cl).qual ++ "<lambda>") := ?_
    · refine h f c' ctv ps [_] h' tk F' ?_ (.head _) hk (fun q hq => ?_) ht (hok.mono fun q _ hq => .inl hq)
      · have : g (tabObj ps) = news := by rw [hg, hnews]
        rw [this]; exact N'
      · rw [List.mem_singleton.mp hq]; exact fP
    · rcases hmem _ e2 e5 with z | z
      · exact ⟨c', oc, vs, t, rfl, F'.keep _ _ z, e3, e4⟩
      · exact ⟨c', oc, vs, t, rfl, (N' _ (.tail _ z)).1, e3, e4⟩
end
end
section
open PySem.Calls PyProof.Rows.LCg PySem.W.KBw
/-- what stands while the square is drawn: the five cells, the table of codes, the list of rows -/
structure SF (n : Nat) (i : Int) (t : Tok) (l b P : Addr) (ps : Array Value) (vP : Option Value) (lR : Addr) (kR : Nat) (vR : List Value) (M : List (List Int)) (led : List (Addr × Obj)) : Prop where
  cS : ∃ o, (b + 1, o) ∈ led ∧ o.data = .cell (some (.ref l))
  cA : ∃ o, (b + 1 + 1, o) ∈ led ∧ o.data = .cell (some (.int i t))
  cN : ∃ o u, (b + 1 + 1 + 1, o) ∈ led ∧ o.data = .cell (some (.int (n : Int) u))
  cP : ∃ o, (b + 1 + 1 + 1 + 1, o) ∈ led ∧ o.data = .cell vP
  cR : ∃ o, (b + 1 + 1 + 1 + 1 + 1, o) ∈ led ∧ o.data = .cell (some (.ref lR))
  tab : (P, tabObj ps) ∈ led
  mR : (lR, listOf vR.toArray kR) ∈ led
  nP : @LT.lt Nat _ P b
  nR : @LT.lt Nat _ (b + 1 + 1 + 1 + 1 + 1) lR
  rR : Rows [P, lR, b + 1, b + 1 + 1, b + 1 + 1 + 1, b + 1 + 1 + 1 + 1, b + 1 + 1 + 1 + 1 + 1] vR M led
section
variable {n : Nat} {i : Int} {t : Tok} {l b P : Addr} {ps : Array Value} {vP : Option Value} {lR : Addr} {kR : Nat} {vR : List Value} {M : List (List Int)} {led led' : List (Addr × Obj)}
theorem SF.grow (X : SF n i t l b P ps vP lR kR vR M led) (h : ∀ q ∈ led, q ∈ led') : SF n i t l b P ps vP lR kR vR M led' := by
  obtain ⟨⟨o1, a1, a2⟩, ⟨o2, b1, b2⟩, ⟨o3, u, d1, d2⟩, ⟨o4, e1, e2⟩, ⟨o5, f1, f2⟩, g1, g2, nP, nR, rR⟩ := X
  exact ⟨⟨o1, h _ a1, a2⟩, ⟨o2, h _ b1, b2⟩, ⟨o3, u, h _ d1, d2⟩, ⟨o4, h _ e1, e2⟩, ⟨o5, h _ f1, f2⟩, h _ g1, h _ g2, nP, nR, rR.mono fun q hq _ => h q hq⟩
theorem SF.setP (X : SF n i t l b P ps vP lR kR vR M led) {o : Obj} {v : Option Value} (ho : o.data = .cell v) : SF n i t l b P ps v lR kR vR M (updL (b + 1 + 1 + 1 + 1) o led) := by
  obtain ⟨⟨o1, a1, a2⟩, ⟨o2, b1, b2⟩, ⟨o3, u, d1, d2⟩, ⟨o4, e1, e2⟩, ⟨o5, f1, f2⟩, g1, g2, nP, nR, rR⟩ := X
  exact ⟨⟨o1, mem_upd_ne a1 (by show @Ne Nat _ _; omega), a2⟩, ⟨o2, mem_upd_ne b1 (by show @Ne Nat _ _; omega), b2⟩, ⟨o3, u, mem_upd_ne d1 (by show @Ne Nat _ _; omega), d2⟩, ⟨o, mem_upd_self e1, ho⟩, ⟨o5, mem_upd_ne f1 (by show @Ne Nat _ _; omega), f2⟩, mem_upd_ne g1 (by show @Ne Nat _ _; omega), mem_upd_ne g2 (by show @Ne Nat _ _; omega), nP, nR, rR.upd (by simp)⟩
/-- the list of rows is changed -/
theorem SF.setR (X : SF n i t l b P ps vP lR kR vR M led) {k' : Nat} {vR' : List Value} {M' : List (List Int)} (hR : Rows [P, lR, b + 1, b + 1 + 1, b + 1 + 1 + 1, b + 1 + 1 + 1 + 1, b + 1 + 1 + 1 + 1 + 1] vR' M' led) : SF n i t l b P ps vP lR k' vR' M' (updL lR (listOf vR'.toArray k') led) := by
  obtain ⟨⟨o1, a1, a2⟩, ⟨o2, b1, b2⟩, ⟨o3, u, d1, d2⟩, ⟨o4, e1, e2⟩, ⟨o5, f1, f2⟩, g1, g2, nP, nR, rR⟩ := X
  exact ⟨⟨o1, mem_upd_ne a1 (by show @Ne Nat _ _; omega), a2⟩, ⟨o2, mem_upd_ne b1 (by show @Ne Nat _ _; omega), b2⟩, ⟨o3, u, mem_upd_ne d1 (by show @Ne Nat _ _; omega), d2⟩, ⟨o4, mem_upd_ne e1 (by show @Ne Nat _ _; omega), e2⟩, ⟨o5, mem_upd_ne f1 (by show @Ne Nat _ _; omega), f2⟩, mem_upd_ne g1 (by show @Ne Nat _ _; omega), mem_upd_self g2, nP, nR, hR.upd (by simp)⟩
theorem SF.off (X : SF n i t l b P ps vP lR kR vR M led) {a : Addr} (h : ∀ q ∈ led, q.1 ≠ a) : a ∉ [P, lR, b + 1, b + 1 + 1, b + 1 + 1 + 1, b + 1 + 1 + 1 + 1, b + 1 + 1 + 1 + 1 + 1] := by
  obtain ⟨⟨o1, a1, a2⟩, ⟨o2, b1, b2⟩, ⟨o3, u, d1, d2⟩, ⟨o4, e1, e2⟩, ⟨o5, f1, f2⟩, g1, g2, nP, nR, rR⟩ := X
  intro hm
  simp only [List.mem_cons, List.not_mem_nil, or_false] at hm
  rcases hm with rfl | rfl | rfl | rfl | rfl | rfl | rfl
  · exact h _ g1 rfl
  · exact h _ g2 rfl
  · exact h _ a1 rfl
  · exact h _ b1 rfl
  · exact h _ d1 rfl
  · exact h _ e1 rfl
  · exact h _ f1 rfl
end
theorem Rows.snoc {off : List Addr} {vs : List Value} {M : List (List Int)} {led : List (Addr × Obj)} {b : Addr} {its : List Value} {k : Nat} {r : List Int} (R : Rows off vs M led) (hb : (b, listOf its.toArray k) ∈ led) (hI : IntsAre its r) (hoff : b ∉ off) : Rows off (vs ++ [.ref b]) (M ++ [r]) led :=
  ⟨by rw [List.length_append, List.length_append, R.1]; rfl, fun i hi => by
    rw [List.length_append, List.length_singleton] at hi
    by_cases h : i < M.length
    · obtain ⟨b', its', k', h1, h2, h3, h4⟩ := R.2 i h
      exact ⟨b', its', k', by rw [List.getElem?_append_left (by rw [R.1]; exact h)]; exact h1, h2, by rw [List.getD_eq_getElem?_getD, List.getElem?_append_left h, ← List.getD_eq_getElem?_getD]; exact h3, h4⟩
    · obtain rfl : i = M.length := by omega
      exact ⟨b, its, k, by rw [← R.1, List.getElem?_append_right (Nat.le_refl _), Nat.sub_self]; rfl, hb, by rw [List.getD_eq_getElem?_getD, List.getElem?_append_right (Nat.le_refl _), Nat.sub_self]; exact hI, hoff⟩⟩
theorem SF.start {h₀ h : Heap} {L : Addr} {n : Nat} {i : Int} {t u : Tok} {l b P : Addr} {ps : Array Value} {vP : Option Value} {lR : Addr} {o1 o2 o3 o4 o5 : Obj} {led : List (Addr × Obj)} (_N : News h₀ L h led)
    (m1 : (b + 1, o1) ∈ led) (m2 : (b + 1 + 1, o2) ∈ led) (m3 : (b + 1 + 1 + 1, o3) ∈ led) (m4 : (b + 1 + 1 + 1 + 1, o4) ∈ led) (m5 : (b + 1 + 1 + 1 + 1 + 1, o5) ∈ led) (m6 : (P, tabObj ps) ∈ led) (m7 : (lR, listOf #[] 0) ∈ led)
    (d1 : o1.data = .cell (some (.ref l))) (d2 : o2.data = .cell (some (.int i t))) (d3 : o3.data = .cell (some (.int (n : Int) u))) (d4 : o4.data = .cell vP) (d5 : o5.data = .cell (some (.ref lR))) (nP : @LT.lt Nat _ P b) (nR : @LT.lt Nat _ (b + 1 + 1 + 1 + 1 + 1) lR) : SF n i t l b P ps vP lR 0 [] [] led :=
  ⟨⟨_, m1, d1⟩, ⟨_, m2, d2⟩, ⟨_, _, m3, d3⟩, ⟨_, m4, d4⟩, ⟨_, m5, d5⟩, m6, m7, nP, nR, ⟨rfl, fun i hi => absurd hi (Nat.not_lt_zero _)⟩⟩
theorem pw11 {k : Nat} (h : k < 9) : PwOk ((11 : Int) ^ (k : Int).toNat) := by
  have : k = 0 ∨ k = 1 ∨ k = 2 ∨ k = 3 ∨ k = 4 ∨ k = 5 ∨ k = 6 ∨ k = 7 ∨ k = 8 := by omega
  rcases this with rfl | rfl | rfl | rfl | rfl | rfl | rfl | rfl | rfl <;> exact ⟨by decide, by decide⟩
section
variable {n : Nat} {i : Int} {t : Tok} {l b P : Addr} {ps : Array Value} {vP : Option Value} {lR : Addr} {kR : Nat} {vR : List Value} {M : List (List Int)} {led cur : List (Addr × Obj)}
variable {prog : Program} {w : World} {A : Around} {E : Value → Shared → Prop} {s : Shared} {h₀ : Heap} {L a I : Addr} {oI : Obj} {Q : Value → Shared → Prop} {m : Str → Option Value} {its : List Value} {kk : Nat} {r : List Int}
theorem SF.append (X : SF n i t l b P ps vP lR kR vR M led) (F : Fr h₀ L s.heap m) (N : News h₀ L s.heap cur) (hI : Off led I) (hsub : ∀ q ∈ (I, oI) :: led, q ∈ cur) (hb : (a, listOf its.toArray kk) ∈ led) (hi : IntsAre its r) (hoff : a ∉ [P, lR, b + 1, b + 1 + 1, b + 1 + 1 + 1, b + 1 + 1 + 1 + 1, b + 1 + 1 + 1 + 1 + 1]) (hsz : vR.length ≤ sizeLine)
    (h : ∀ h' led', Fr h₀ L h' m → News h₀ L h' ((I, oI) :: led') → Off led' I → SF n i t l b P ps vP lR (kR + 1) (vR ++ [.ref a]) (M ++ [r]) led' → Q .none { s with heap := h' }) :
    wpAny (model prog w) A (call (.builtin "list.append") [.ref lR, .ref a]) Q E s := by
  have hIL : I ≠ lR := Ne.symm (hI _ X.mR)
  have N0 := newsSub N hsub
  have z : s.heap.get? lR = some (listOf vR.toArray kR) := (N0 _ (.tail _ X.mR)).1
  refine append_at (hsz := by rw [List.size_toArray]; exact hsz) z fun h' hs' hg => ?_
  have hg' : h'.get? lR = some (listOf (vR ++ [Value.ref a]).toArray (kR + 1)) := hg.trans (by rw [List.push_toArray])
  obtain ⟨F', N'⟩ := news_upd' F N0 (.tail _ X.mR) (fun b x hb e => hs'.extBut b x hb e) hg'
  rw [updL_cons hIL] at N'
  exact h h' _ F' N' (Off.upd hI X.mR) (X.setR (X.rR.snoc hb hi hoff))
end
theorem sub_perm2 {α : Type} {x a : α} {l : List α} : ∀ q ∈ x :: a :: l, q ∈ a :: x :: l := by
  intro q hq
  simp only [List.mem_cons] at hq ⊢
  rcases hq with h | h | h <;> simp [h]
section
variable {n : Nat} {i : Int} {t : Tok} {l b P : Addr} {ps : Array Value} {vP : Option Value} {lR : Addr} {kR : Nat} {vR : List Value} {M : List (List Int)} {led cur : List (Addr × Obj)}
variable {prog : Program} {w : World} {A : Around} {E : Value → Shared → Prop} {s : Shared} {h₀ : Heap} {L a : Addr} {m : Str → Option Value} {its : List Value} {kk : Nat} {r : List Int}
theorem SF.storeLast {Q : Unit → Shared → Prop} {u : Tok} (X : SF n i t l b P ps vP lR kR vR M led) (F : Fr h₀ L s.heap m) (N : News h₀ L s.heap cur) (hsub : ∀ q ∈ led, q ∈ cur) (hb : (a, listOf its.toArray kk) ∈ led) (hi : IntsAre its r) (hoff : a ∉ [P, lR, b + 1, b + 1 + 1, b + 1 + 1 + 1, b + 1 + 1 + 1 + 1, b + 1 + 1 + 1 + 1 + 1]) (hM : 1 ≤ M.length)
    (h : ∀ h' led', Fr h₀ L h' m → News h₀ L h' led' → SF n i t l b P ps vP lR kR (vR.set (M.length - 1) (.ref a)) (M.set (M.length - 1) r) led' → Q () { s with heap := h' }) :
    wpAny (model prog w) A (setItem (.ref lR) (.int (-1) u) (.ref a)) Q E s := by
  have N0 := newsSub N hsub
  have z : s.heap.get? lR = some (listOf vR.toArray kR) := (N0 _ X.mR).1
  have hlen := X.rR.1
  refine ki_setBack z (by decide) (by rw [List.size_toArray]; omega) (by decide) ?_
  have e1 : ((-1 : Int) + (vR.toArray.size : Nat)).toNat = M.length - 1 := by rw [List.size_toArray]; omega
  have up : (s.heap.update lR (Obj.mapSeq (·.setIfInBounds ((-1 : Int) + (vR.toArray.size : Nat)).toNat (.ref a)))).get? lR = some (listOf (vR.set (M.length - 1) (.ref a)).toArray kR) := by
    have ea : vR.toArray.setIfInBounds (M.length - 1) (.ref a) = (vR.set (M.length - 1) (.ref a)).toArray := by apply Array.toList_inj.mp; simp
    rw [Heap.get?_update_self _ z rfl, e1]
    simp only [Obj.mapSeq, ea]
    simp
  obtain ⟨F', N'⟩ := news_upd' F N0 X.mR (fun b x hb e => by rw [Heap.get?_update_other _ _ (Ne.symm hb)]; exact e) up
  exact h _ _ F' N' (X.setR (X.rR.set _ hb hi hoff))
theorem eq_rows {l r : Addr} {Q : Value → Shared → Prop} (h1 : GRows s.heap l M) (h2 : GRows s.heap r M) (hu : A.in1.units + 64 < cLine) (h : Q (.bool true) s) : wpAny (model prog w) A (compareOp .Eq (.ref l) (.ref r)) Q E s := by
  obtain ⟨vs, a1, a2, a3⟩ := h1
  obtain ⟨us, b1, b2, b3⟩ := h2
  refine SeqAt.eq_listAt (e := fun _ => true) a1 b1 (by rw [List.size_toArray, List.size_toArray, a2, b2]) (by rw [units_in1] at hu; omega) (fun j q1 q2 => ?_) (by rw [List.all_eq_true.mpr fun _ _ => rfl]; exact h)
  obtain ⟨b, its, c1, c2, c3⟩ := a3 j (by simpa [a2] using q1)
  obtain ⟨b', its', d1, d2, d3⟩ := b3 j (by simpa [b2] using q2)
  have z1 : vs.toArray[j] = .ref b := by
    have := (List.getElem?_eq_some_iff.mp c1).2
    simpa using this
  have z2 : us.toArray[j] = .ref b' := by
    have := (List.getElem?_eq_some_iff.mp d1).2
    simpa using this
  rw [z1, z2]
  have := keq_ints (A := A) c2 c3 d2 d3 hu
  rw [decide_eq_true rfl] at this
  exact this
end
end
section
open PySem.Calls
section
variable {w : World} {mean : ExcName → Option Value} {mg mb : Str → Option Value} {p : Program} {loose : List Str}
theorem misused_tells (news : CbLed) (c : Addr) (d : Nat) (Cond : Heap → Prop) (hc : TellsX w p loose mean mg mb d c [] [] (fun base h₀ L m news s Q E fr => Cond s.heap ∧ RetX base h₀ L m news s Q E fr))
    (hCond : ∀ h h' : Heap, Cond h → (∀ b o, h.get? b = some o → h'.get? b = some o) → Cond h') (hF : ∀ h, Cond h → FnAt c h) : TellsT w p loose mean mg mb (d + 1) 153 news [.ref c] Cond := by
  intro dp un gd cn cs a ccd cl outer A₀ base h₀ L m s Q E B F X N T hk hd hu XB TB D hC hret
  refine wpAny_call ?_
  k_dflt (refine' enterT B F X N T XB TB D ?kA ?kF ?kK ?k6 ?k7 ?k8 ?k9 ?kB ?_ ?c2 ?c3 ?c4 ?c5; (case kA => exact rfl); (case kF => exact rfl); (case kK => assumption); (case k6 => k_is); (case k7 => k_is); (case k8 => ktr_room); (case k9 => exact BindsTo.of_eq rfl); (case c5 => decide); (case kB => exact locs rfl); (case c2 => exact rfl); (case c3 => exact rfl); (case c4 => exact rfl); k_whole; intro L' h' tk' F' B' X' T' D'; (have N' : News s.heap L' h' [] := News.nil); (try simp only [List.map_cons, List.map_nil, List.zip_cons_cons, List.zip_nil_right, List.zip_nil_left, List.reverse_cons, List.nil_append, List.cons_append, List.reverse_nil] at F'); (try dsimp only); (try k_fold))
  k_steps
  have hC' : Cond h' := hCond _ _ hC F'.keep
  refine callWith_F0 (hF _ hC') ?_
  refine tellX hc B' F' X' N' T' rfl (by ktr_room) (by ktr_units) ⟨hC', fun e9 h9 tk9 R9 U9 => ?_⟩
  refine caught_O R9 F' B' U9 XB TB D' (by k_is) (cls44 w.params) (by decide) fun h2 g2 T2 F2 B2 X2 P2 D2 => ?_
  k_steps
  exact ⟨g2, L', _, T2, F2, fun h0' q1 q2 q3 q4 q5 q6 q7 => hret h0' _ _ q1 q2 q3 q4 q5 q6 q7⟩
end
end
section
open PySem.Calls
section
variable {w : World} {mean : ExcName → Option Value} {mg mb : Str → Option Value} {p : Program} {loose : List Str}
noncomputable abbrev noPar : Arguments := { posonlyargs := [], args := [], vararg := none, kwonlyargs := [], kw_defaults := [], kwarg := none, defaults := [] }
noncomputable abbrev invBody (p1 p2 p3 : Pos) : Expr := .Call (.Name (Str.ofString "inverse") p1) [.Name (Str.ofString "y") p2] [] p3
noncomputable abbrev invScope : Scope := { kind := .function, names := [(Str.ofString "y", .free), (Str.ofString "inverse", .globalImplicit)], isGenerator := false, isCoroutine := false, more := [] }
noncomputable abbrev divBody (p1 p2 p3 p4 : Pos) : Expr := .Call (.Name (Str.ofString "divided") p1) [.Name (Str.ofString "x") p2, .Name (Str.ofString "y") p3] [] p4
noncomputable abbrev divScope : Scope := { kind := .function, names := [(Str.ofString "x", .free), (Str.ofString "y", .free), (Str.ofString "divided", .globalImplicit)], isGenerator := false, isCoroutine := false, more := [] }

theorem lamInv_tells (f : Addr) (qual : Str) (p1 p2 p3 : Pos) (cl : List (Str × Addr)) (pm : Value) (cy : Addr) (t : Tok) (hcl : cl.lookup (Str.ofString "y") = some cy) :
    TellsX w p loose mean mg mb 5 f [] [] (fun base h₀ L m news s Q E fr => LamIn qual noPar (invBody p1 p2 p3) invScope cl pm f [(cy, .int 0 t)] s.heap ∧ RetX base h₀ L m news s Q E fr) := by
  intro dp un gd cn cs a ccd cl₀ outer A₀ base h₀ L m s Q E B F X N T hk hd hu hret
  obtain ⟨⟨⟨c', ctv, hf, hcode⟩, hcells⟩, hret⟩ := hret
  have hy := hcells _ (.head _)
  refine wpAny_call ?_
  k_dflt (refine' enterL B F X T ?kA ?kF ?kK hf hcode ?k8 ?k9 ?kB ?_ ?c2 ?c3 ?c4 ?c5; (case kA => exact rfl); (case kF => exact rfl); (case kK => assumption); (case k8 => ktr_room); (case k9 => exact rfl); (case c5 => decide); (case kB => exact fun _ hq => nomatch hq); (case c2 => exact rfl); (case c3 => exact rfl); (case c4 => exact rfl); k_whole; intro L' h' tk' F' B' X' T'; (have N' : News s.heap L' h' [] := News.nil); (try dsimp only))
  k_steps
  refine ld_free F' hcl hy ?_
  k_steps
  exact leave_onO B' F' rfl R9 U9 fun h2 R2 U2 => hret _ _ _ R2 U2

theorem lamDiv_tells (f : Addr) (qual : Str) (p1 p2 p3 p4 : Pos) (cl : List (Str × Addr)) (pm : Value) (cx cy : Addr) (x : Int) (t u : Tok) (hclx : cl.lookup (Str.ofString "x") = some cx) (hcl : cl.lookup (Str.ofString "y") = some cy) :
    TellsX w p loose mean mg mb 6 f [] [] (fun base h₀ L m news s Q E fr => LamIn qual noPar (divBody p1 p2 p3 p4) divScope cl pm f [(cx, .int x u), (cy, .int 0 t)] s.heap ∧ RetX base h₀ L m news s Q E fr) := by
  intro dp un gd cn cs a ccd cl₀ outer A₀ base h₀ L m s Q E B F X N T hk hd hu hret
  obtain ⟨⟨⟨c', ctv, hf, hcode⟩, hcells⟩, hret⟩ := hret
  have hx := hcells _ (.head _)
  have hy := hcells _ (.tail _ (.head _))
  refine wpAny_call ?_
  k_dflt (refine' enterL B F X T ?kA ?kF ?kK hf hcode ?k8 ?k9 ?kB ?_ ?c2 ?c3 ?c4 ?c5; (case kA => exact rfl); (case kF => exact rfl); (case kK => assumption); (case k8 => ktr_room); (case k9 => exact rfl); (case c5 => decide); (case kB => exact fun _ hq => nomatch hq); (case c2 => exact rfl); (case c3 => exact rfl); (case c4 => exact rfl); k_whole; intro L' h' tk' F' B' X' T'; (have N' : News s.heap L' h' [] := News.nil); (try dsimp only))
  k_steps
  refine ld_free F' hclx hx ?_
  k_steps
  refine ld_free F' hcl hy ?_
  k_steps
  exact leave_onO B' F' rfl R9 U9 fun h2 R2 U2 => hret _ _ _ R2 U2
end
end
section
open PySem.Calls
section
variable {w : World} {mean : ExcName → Option Value} {mg mb : Str → Option Value} {p : Program} {loose : List Str}
theorem fmod3000 (x : Int) : 0 ≤ x.fmod 3000 ∧ x.fmod 3000 < 4096 := by rw [Int.fmod_eq_emod_of_nonneg _ (by decide)]; omega
noncomputable abbrev elQ : Str := ((Str.ofString "_law_elements_right") ++ (".<locals>." : Str)) ++ ("<lambda>" : Str)
noncomputable abbrev elLams : List (Pos × Str) := [(⟨105, 0, 105, 18⟩, elQ), (⟨106, 0, 106, 21⟩, elQ)]
theorem codeHd159 {P : Params} {h : Heap} (X : (hd.heap_1 P).In h) : CodeHd h 159 155 := by
  have e := X 159 _ (by k_is)
  exact ⟨_, _, _, _, _, _, _, _, _, e, rfl, rfl, rfl, rfl, rfl, rfl, rfl, rfl, by decide⟩
theorem turn_news {A₀ : Around} {base h₀ h g g' : Heap} {outer : List Env} {L : Addr} {m : Str → Option Value} {news : List (Addr × Obj)} {env : Env} {q : Addr × Obj} (B : Below A₀ base outer h₀) (F : Fr h₀ L h m) (N : News h₀ L h news) (T : KtsTurn ((env :: outer).filterMap (·.frame)) g g') (hg : g.get? q.1 = some q.2) (hq : q ∈ news) (hf : env.frame = some L := by rfl) : g'.get? q.1 = some q.2 := by
  refine T.other _ _ hg fun hm => ?_
  rcases mem_fr hf hm with z | z
  · exact (N q hq).2.1 z
  · obtain ⟨_, o, ho, _⟩ := B.frames.mem z
    rw [(N q hq).2.2] at ho; cases ho
theorem elements_tells (l : Addr) (vs : List Value) (ns : List Int) (i : Int) (t : Tok) (hI : IntsAre vs ns) (hl : ns.length ≤ 63) (hi : 0 ≤ i ∧ i < 60) :
    TellsP w p loose mean mg mb 9 160 155 elLams [.ref l, .int i t] (fun h => h.IsList l vs.toArray) := by
  intro dp un gd cn cs a ccd cl outer A₀ base h₀ L m news s Q E B F X N T hk hd hu XB TB D hTab hL hret
  obtain ⟨ps, hP, htr, hlams⟩ := hTab.open
  refine wpAny_call ?_
  k_dflt (refine' enterP B F X N T hP XB TB D ?kA ?kF ?kK ?k6 ?k7 ?k8 ?k9 ?kB ?kD ?_ ?c2 ?c3 ?c4; (case kA => exact rfl); (case kF => exact rfl); (case kK => assumption); (case k6 => k_is); (case k7 => k_is); (case k8 => ktr_room); (case k9 => exact BindsTo.of_eq rfl); (case kB => exact rfl); (case kD => decide +kernel); (case c2 => exact rfl); (case c3 => exact rfl); (case c4 => exact rfl); k_whole; intro g L' h' tk' cells' hg F' N' Y' B' X' T' D' hlt; k_cells Y'; (simp only [List.cons_append, List.nil_append] at N'); (have l9 : ∀ q ∈ [((155 : Addr), tabObj ps)], q.1 < L' := fun q hq => by rw [List.mem_singleton.mp hq]; exact hlt); (k_lt l9); (try simp only [List.map_cons, List.map_nil, List.zip_cons_cons, List.zip_nil_right, List.zip_nil_left] at F'); (try dsimp only); (try k_fold))
  have hLg : g.IsList l vs.toArray := by
    obtain ⟨o, ho, hc, n, hd'⟩ := hL
    refine ⟨o, hg ▸ hideAll_get _ ho fun hm => ?_, hc, n, hd'⟩
    rw [List.mem_singleton.mp hm] at ho
    rw [(N _ hP).1] at ho
    cases ho; cases hd'
  have hL' := Fr.lst F' hLg
  have hi0 := hi.1
  have hi1 := hi.2
  clear hL
  have hfm := fmod3000 (digI ns (i + 2))
  have hox := oct_elemI (digI ns i)
  have hoy := oct_elemI (digI ns (i + 1))
  have hdbl := dbl_mul hox
  k_steps
  · have CH := codeHd159 X'
    generalize elemI (digI ns i) = x at *
    generalize elemI (digI ns (i + 1)) = y at *
    have hy0 : y = 0 := by assumption
    subst hy0
    refine lam_make (ps := ps) (mem := (· ∈ news)) (lams := elLams) (by k_asm) (by k_asm) (by k_asm) CH rfl (by k_updF) htr hlams (fun q hq hne => .inl (hg ▸ hideAll_get _ (N q hq).1 fun hm => hne (List.mem_singleton.mp hm))) (.head _) (fun q hq => ?_) rfl rfl fun f1 c1 ctv1 ps1 pre1 h1 tk1 F1 N1 hf1 hrec1 hpre1 htr1 hok1 => ?_
    · simp only [List.mem_cons, List.not_mem_nil, or_false] at hq
      rcases hq with rfl | rfl
      · exact .inl rfl
      · exact .inr (by decide)
    have hcy1 : h1.IsCell (L' + 1 + 1) (some (Value.int 0 _)) := ⟨_, (N1 (L' + 1 + 1, _) (List.mem_append_right _ (by k_mem))).1, by assumption⟩
    have hL1 : LamIn _ noPar (invBody _ _ _) invScope _ _ f1 [(L' + 1 + 1, Value.int 0 _)] h1 := ⟨⟨c1, ctv1, (N1 _ (List.mem_append_left _ hf1)).1, hrec1⟩, fun q hq => by rw [List.mem_singleton.mp hq]; exact hcy1⟩
    k_steps
    refine tellT (misused_tells _ f1 5 _ (lamInv_tells f1 _ _ _ _ _ _ _ _ rfl) (fun _ _ hh kk => hh.keeps kk) (fun _ hh => hh.fn)) B' (by k_asm) X' (by k_asm) T' rfl (by ktr_room) (by ktr_units) XB TB D' hL1 fun g2 h2 tk2 T2 F2 N2 B2 X2 P2 D2 => ?_
    k_steps
    refine lam_make (ps := ps1) (mem := fun q => q ∈ news ∨ q ∈ pre1) (lams := elLams) (by k_asm) N2 (by k_asm) (codeHd159 X2) rfl (updF_pre (by k_updF) hpre1) htr1 hok1 (fun q hq hne => ?_) (.tail _ (.head _)) (fun q hq => ?_) rfl rfl fun f3 c3 ctv3 ps3 pre3 h3 tk3 F3 N3 hf3 hrec3 hpre3 htr3 hok3 => ?_
    · rcases hq with hq | hq
      · exact .inl (turn_news B F N T2 (hg ▸ hideAll_get _ (N q hq).1 fun hm => hne (List.mem_singleton.mp hm)) hq)
      · exact .inr (List.mem_append_left _ hq)
    · simp only [List.mem_cons, List.not_mem_nil, or_false] at hq
      rcases hq with rfl | rfl
      · exact .inr (by decide)
      · exact .inl rfl
    have hcy3 : h3.IsCell (L' + 1 + 1) (some (Value.int 0 _)) := ⟨_, (N3 (L' + 1 + 1, _) (List.mem_append_right _ (List.mem_append_right _ (by k_mem)))).1, by assumption⟩
    have hcx3 : h3.IsCell (L' + 1) (some (Value.int x _)) := ⟨_, (N3 (L' + 1, _) (List.mem_append_right _ (List.mem_append_right _ (by k_mem)))).1, by assumption⟩
    have hL3 : LamIn _ noPar (divBody _ _ _ _) divScope _ _ f3 [(L' + 1, Value.int x _), (L' + 1 + 1, Value.int 0 _)] h3 := ⟨⟨c3, ctv3, (N3 _ (List.mem_append_left _ hf3)).1, hrec3⟩, fun q hq => by
      simp only [List.mem_cons, List.not_mem_nil, or_false] at hq
      rcases hq with rfl | rfl
      · exact hcx3
      · exact hcy3⟩
    k_steps
    refine tellT (misused_tells _ f3 6 _ (lamDiv_tells f3 _ _ _ _ _ _ _ _ _ _ _ _ rfl rfl) (fun _ _ hh kk => hh.keeps kk) (fun _ hh => hh.fn)) B2 (by k_asm) X2 N3 P2 rfl (by ktr_room) (by ktr_units) XB TB D2 hL3 fun g4 h4 tk4 T4 F4 N4 B4 X4 P4 D4 => ?_
    k_steps
    refine ⟨g4, L', _, _, T2.trans T4, F4, N4, fun h0' q1 q2 q3 q4 q5 q6 q7 => ?_⟩
    exact hret h0' _ _ _ q1 q2 q3 (tabOn_back (List.mem_append_right _ (List.mem_append_right _ (by k_mem))) htr3 (hok3.mono fun q _ hq => by
      rcases hq with (hq | hq) | hq
      · exact .inl hq
      · exact .inr (List.mem_append_right _ (List.mem_append_left _ hq))
      · exact .inr (List.mem_append_left _ hq))) (fun q hq hne => List.mem_append_right _ (mem_offP.mpr ⟨hq, hne⟩)) q4 q5 q6 q7
  all_goals first
    | exact absurd (inv_mul hoy (by assumption)) (by assumption)
    | exact absurd (inv_pos hoy (by assumption)).1 (by assumption)
    | exact absurd (inv_pos hoy (by assumption)).2 (by assumption)
    | (exfalso; have hne := (by assumption : ¬ _ = [mulI (elemI (digI ns i)) 2, _, _]); exact hne (by rw [hdbl]))
    | (rw [div_mul hox hoy (by assumption), beq_self_eq_true]
       refine ⟨g, L', _, _, KtsTurn.refl, by k_asm, by k_asm, fun h0' q1 q2 q3 q4 q5 q6 q7 => ?_⟩
       exact hret h0' _ _ _ q1 q2 q3 (tabOn_back (by k_mem) htr (hlams.mono fun q _ hq => .inl hq)) (fun q hq hne => List.mem_append_right _ (mem_offP.mpr ⟨hq, hne⟩)) q4 q5 q6 q7)
    | fail "open"
end
end
section
open PySem.Calls
section
variable {w : World} {mean : ExcName → Option Value} {mg mb : Str → Option Value} {p : Program} {loose : List Str}
theorem GRows.keeps {h h' : Heap} {a : Addr} {M : List (List Int)} (G : GRows h a M) (k : ∀ b o, h.get? b = some o → h'.get? b = some o) : GRows h' a M := by
  obtain ⟨vs, h1, h2, h3⟩ := G
  refine ⟨vs, h1.at fun o e => k _ o e, h2, fun i hi => ?_⟩
  obtain ⟨b, its, q1, q2, q3⟩ := h3 i hi
  exact ⟨b, its, q1, q2.at fun o e => k _ o e, q3⟩
noncomputable abbrev turnBody (p1 p2 p3 : Pos) : Expr := .Call (.Name (Str.ofString "turned") p1) [.Name (Str.ofString "rows") p2] [] p3
noncomputable abbrev turnScope : Scope := { kind := .function, names := [(Str.ofString "rows", .free), (Str.ofString "turned", .globalImplicit)], isGenerator := false, isCoroutine := false, more := [] }
theorem lamTurn_tells (f : Addr) (qual : Str) (p1 p2 p3 : Pos) (cl : List (Str × Addr)) (pm : Value) (cr l : Addr) (n : Nat) (M : List (List Int)) (hM : Mat n M) (hn : n ≤ 63) (hnone : turnedI n M = none) (hcl : cl.lookup (Str.ofString "rows") = some cr) :
    TellsX w p loose mean mg mb 7 f [] [] (fun base h₀ L m news s Q E fr => (LamIn qual noPar (turnBody p1 p2 p3) turnScope cl pm f [(cr, .ref l)] s.heap ∧ GRows s.heap l M) ∧ RetX base h₀ L m news s Q E fr) := by
  intro dp un gd cn cs a ccd cl₀ outer A₀ base h₀ L m s Q E B F X N T hk hd hu hret
  obtain ⟨⟨⟨⟨c', ctv, hf, hcode⟩, hcells⟩, hG⟩, hret⟩ := hret
  have hy := hcells _ (.head _)
  refine wpAny_call ?_
  k_dflt (refine' enterL B F X T ?kA ?kF ?kK hf hcode ?k8 ?k9 ?kB ?_ ?c2 ?c3 ?c4 ?c5; (case kA => exact rfl); (case kF => exact rfl); (case kK => assumption); (case k8 => ktr_room); (case k9 => exact rfl); (case c5 => decide); (case kB => exact fun _ hq => nomatch hq); (case c2 => exact rfl); (case c3 => exact rfl); (case c4 => exact rfl); k_whole; intro L' h' tk' F' B' X' T'; (have N' : News s.heap L' h' [] := News.nil); (try dsimp only))
  k_steps
  refine ld_free F' hcl hy ?_
  k_steps
  k_dflt (refine' tellX (turned_tells _ _ n M hM hn) (by k_asm) (by k_asm) (by k_asm) (by k_asm) (by k_asm) (by first | exact rfl | assumption) (by k_extra "kwd_rel") (by k_extra "kwd_less") ⟨hG.keeps F'.keep, fun R hR => ?_, fun _ => ?_⟩)
  · rw [hnone] at hR; cases hR
  · intro e9 h9 tk9 R9 U9
    dsimp only
    k_steps
    exact leave_onO B' F' rfl R9 U9 fun h2 R2 U2 => hret _ _ _ R2 U2
end
end
section
/-- a sum in the field -/
noncomputable def sx (f : Nat → BitVec 8) : Nat → BitVec 8
  | 0 => 0
  | p+1 => sx f p ^^^ f p
theorem sx_congr {f g : Nat → BitVec 8} : ∀ {n : Nat}, (∀ s, s < n → f s = g s) → sx f n = sx g n
  | 0, _ => rfl
  | n+1, h => by
    show sx f n ^^^ f n = sx g n ^^^ g n
    rw [sx_congr fun s hs => h s (Nat.lt_succ_of_lt hs), h n (Nat.lt_succ_self n)]
theorem sx_xor (f g : Nat → BitVec 8) : ∀ n, sx (fun s => f s ^^^ g s) n = sx f n ^^^ sx g n
  | 0 => by simp [sx]
  | n+1 => by
    show sx _ n ^^^ (f n ^^^ g n) = (sx f n ^^^ f n) ^^^ (sx g n ^^^ g n)
    rw [sx_xor f g n, xor4]
theorem sx_mul (c : BitVec 8) (f : Nat → BitVec 8) : ∀ n, sx (fun s => gmul c (f s)) n = gmul c (sx f n)
  | 0 => (gmul_zr c).symm
  | n+1 => by
    show sx _ n ^^^ gmul c (f n) = gmul c (sx f n ^^^ f n)
    rw [sx_mul c f n, gmul_xr]
theorem sx_zero : ∀ n, sx (fun _ => 0) n = 0
  | 0 => rfl
  | n+1 => by
    show sx _ n ^^^ 0 = 0
    rw [sx_zero n]; rfl
theorem sx_one {f : Nat → BitVec 8} {j : Nat} : ∀ {n : Nat}, j < n → (∀ s, s < n → s ≠ j → f s = 0) → sx f n = f j
  | 0, h, _ => absurd h (Nat.not_lt_zero _)
  | n+1, h, hz => by
    show sx f n ^^^ f n = f j
    by_cases e : j = n
    · subst e
      rw [sx_congr (g := fun _ => 0) fun s hs => hz s (Nat.lt_succ_of_lt hs) (Nat.ne_of_lt hs), sx_zero]; simp
    · rw [sx_one (by omega) fun s hs hne => hz s (Nat.lt_succ_of_lt hs) hne, hz n (Nat.lt_succ_self n) (Ne.symm e)]; simp
/-- a row upon a vector -/
noncomputable def rd (n : Nat) (r : List Int) (x : Nat → BitVec 8) : BitVec 8 := sx (fun s => gmul (toF (r.getD s 0)) (x s)) n
theorem getD_mapP {α β : Type} {f : α → β} {l : List α} {s : Nat} {d : α} {d' : β} (h : s < l.length) : (l.map f).getD s d' = f (l.getD s d) := by
  simp [List.getD_eq_getElem?_getD, h]
theorem rd_mul {n : Nat} {r : List Int} (f : Int) (x : Nat → BitVec 8) (h : r.length = n) : rd n (mulRow r f) x = gmul (toF f) (rd n r x) := by
  unfold rd
  rw [← sx_mul]
  refine sx_congr fun s hs => ?_
  unfold mulRow
  rw [getD_mapP (d := 0) (by omega), toF_mulI, gmul_comm _ (toF f), gmul_assoc]
theorem octs_getD {r : List Int} (h : ∀ x ∈ r, Oct x) (s : Nat) : Oct (r.getD s 0) := by
  rw [List.getD_eq_getElem?_getD]
  cases e : r[s]? with
  | none => exact oct_zero
  | some y => exact h y (List.mem_of_getElem? e)
theorem getD_zipX {r q : List Int} {s : Nat} (h1 : s < r.length) (h2 : s < q.length) : (addRow r q).getD s 0 = Builtin.bitXor (r.getD s 0) (q.getD s 0) := by
  unfold addRow
  simp [List.getD_eq_getElem?_getD, List.getElem?_zipWith, h1, h2]
theorem rd_add {n : Nat} {r q : List Int} (x : Nat → BitVec 8) (h1 : r.length = n) (h2 : q.length = n) (o1 : ∀ x ∈ r, Oct x) (o2 : ∀ x ∈ q, Oct x) : rd n (addRow r q) x = rd n r x ^^^ rd n q x := by
  unfold rd
  rw [← sx_xor]
  refine sx_congr fun s hs => ?_
  rw [getD_zipX (by omega) (by omega), toF_xor (octs_getD o1 s).1 (octs_getD o2 s).1, gmul_xl]
noncomputable def ef (M : List (List Int)) (i j : Nat) : BitVec 8 := toF (ent M i j)
noncomputable def dm (n : Nat) (M : List (List Int)) (i : Nat) (x : Nat → BitVec 8) : BitVec 8 := rd n (M.getD i []) x
/-- the pair of squares as a system -/
noncomputable def Sys (n : Nat) (P : List (List Int) × List (List Int)) (x y : Nat → BitVec 8) : Prop := ∀ i, i < n → dm n P.1 i x = dm n P.2 i y
theorem getD_swapR {M : List (List Int)} {i j q : Nat} (hi : i < M.length) (hj : j < M.length) : (swapR M i j).getD q [] = M.getD (if q = j then i else if q = i then j else q) [] := by
  unfold swapR
  by_cases h1 : q = j
  · subst h1; rw [getD_set_eq (by rw [List.length_set]; exact hj), if_pos rfl]
  · rw [getD_set_ne (Ne.symm h1), if_neg h1]
    by_cases h2 : q = i
    · subst h2; rw [getD_set_eq hi, if_pos rfl]
    · rw [getD_set_ne (Ne.symm h2), if_neg h2]
theorem sys_swap {n : Nat} {P : List (List Int) × List (List Int)} {a f : Nat} {x y : Nat → BitVec 8} (h1 : P.1.length = n) (h2 : P.2.length = n) (ha : a < n) (hf : f < n) : Sys n (swapR P.1 a f, swapR P.2 a f) x y ↔ Sys n P x y := by
  unfold Sys dm
  dsimp only
  constructor
  · intro h i hi
    have h := h (if i = f then a else if i = a then f else i) (by split; exact ha; split; exact hf; exact hi)
    rw [getD_swapR (by omega) (by omega), getD_swapR (by omega) (by omega)] at h
    have e : (if (if i = f then a else if i = a then f else i) = f then a else if (if i = f then a else if i = a then f else i) = a then f else (if i = f then a else if i = a then f else i)) = i := by
      by_cases e1 : i = f
      · subst e1
        by_cases e2 : a = i
        · subst e2; simp
        · simp [e2]
      · by_cases e2 : i = a
        · subst e2; simp [e1]
        · simp [e1, e2]
    rw [e] at h
    exact h
  · intro h i hi
    rw [getD_swapR (by omega) (by omega), getD_swapR (by omega) (by omega)]
    exact h _ (by split; exact ha; split; exact hf; exact hi)
theorem gmul_cancel {c a b : BitVec 8} (hc : c ≠ 0) (h : gmul c a = gmul c b) : a = b := by
  have := congrArg (gmul (ginv c)) h
  rwa [← gmul_assoc, ← gmul_assoc, ginv_mul c hc, gmul_one', gmul_one'] at this
theorem sys_scale {n : Nat} {P : List (List Int) × List (List Int)} {a : Nat} {c : Int} {x y : Nat → BitVec 8} (h1 : Mat n P.1) (h2 : Mat n P.2) (ha : a < n) (hc : toF c ≠ 0) :
    Sys n (P.1.set a (mulRow (P.1.getD a []) c), P.2.set a (mulRow (P.2.getD a []) c)) x y ↔ Sys n P x y := by
  unfold Sys dm
  dsimp only
  have hi : ∀ i, i < n → ((rd n ((P.1.set a (mulRow (P.1.getD a []) c)).getD i []) x = rd n ((P.2.set a (mulRow (P.2.getD a []) c)).getD i []) y) ↔ rd n (P.1.getD i []) x = rd n (P.2.getD i []) y) := by
    intro i hi
    by_cases e : i = a
    · subst e
      rw [getD_set_eq (by rw [h1.1]; exact ha), getD_set_eq (by rw [h2.1]; exact ha), rd_mul _ _ (mat_getD h1 ha).1, rd_mul _ _ (mat_getD h2 ha).1]
      exact ⟨gmul_cancel hc, fun z => by rw [z]⟩
    · rw [getD_set_ne (Ne.symm e), getD_set_ne (Ne.symm e)]
  exact ⟨fun h i q => (hi i q).mp (h i q), fun h i q => (hi i q).mpr (h i q)⟩
theorem elims_rows {n a : Nat} (ha : a < n) : ∀ p, p ≤ n → ∀ {P : List (List Int) × List (List Int)}, P.1.length = n → P.2.length = n → (elims a p P).1.length = n ∧ (elims a p P).2.length = n ∧ ∀ q, q < n →
    (elims a p P).1.getD q [] = (if q < p ∧ q ≠ a then addRow (P.1.getD q []) (mulRow (P.1.getD a []) (ent P.1 q a)) else P.1.getD q []) ∧
    (elims a p P).2.getD q [] = (if q < p ∧ q ≠ a then addRow (P.2.getD q []) (mulRow (P.2.getD a []) (ent P.1 q a)) else P.2.getD q []) := by
  intro p
  induction p with
  | zero =>
    intro _ P h1 h2
    refine ⟨h1, h2, fun q hq => ?_⟩
    rw [if_neg (by omega), if_neg (by omega)]
    exact ⟨rfl, rfl⟩
  | succ p ih =>
    intro hp P h1 h2
    obtain ⟨i1, i2, i3⟩ := ih (by omega) h1 h2
    by_cases e : p = a
    · subst e
      rw [elims_eq]
      refine ⟨i1, i2, fun q hq => ?_⟩
      have := i3 q hq
      by_cases c : q < p ∧ q ≠ p
      · rw [if_pos c, if_pos c] at this
        rw [if_pos (by omega), if_pos (by omega)]; exact this
      · rw [if_neg c, if_neg c] at this
        rw [if_neg (by omega), if_neg (by omega)]; exact this
    · rw [elims_ne e]
      unfold elim1
      dsimp only
      refine ⟨by rw [List.length_set]; exact i1, by rw [List.length_set]; exact i2, fun q hq => ?_⟩
      have ja := i3 a ha
      rw [if_neg (by omega), if_neg (by omega)] at ja
      have jp := i3 p (by omega)
      rw [if_neg (by omega), if_neg (by omega)] at jp
      have je : ent (elims a p P).1 p a = ent P.1 p a := by unfold ent; rw [jp.1]
      by_cases c : q = p
      · subst c
        rw [getD_set_eq (by omega), getD_set_eq (by omega), if_pos (by omega), if_pos (by omega), ja.1, ja.2, jp.1, jp.2, je]
        exact ⟨rfl, rfl⟩
      · rw [getD_set_ne (Ne.symm c), getD_set_ne (Ne.symm c)]
        have := i3 q hq
        by_cases c2 : q < p ∧ q ≠ a
        · rw [if_pos c2, if_pos c2] at this
          rw [if_pos (by omega), if_pos (by omega)]; exact this
        · rw [if_neg c2, if_neg c2] at this
          rw [if_neg (by omega), if_neg (by omega)]; exact this
theorem sys_elims {n a : Nat} {P : List (List Int) × List (List Int)} {x y : Nat → BitVec 8} (h1 : Mat n P.1) (h2 : Mat n P.2) (ha : a < n) : Sys n (elims a n P) x y ↔ Sys n P x y := by
  obtain ⟨_, _, hr⟩ := elims_rows ha n (Nat.le_refl n) h1.1 h2.1
  have d1 : ∀ q, q < n → q ≠ a → dm n (elims a n P).1 q x = dm n P.1 q x ^^^ gmul (toF (ent P.1 q a)) (dm n P.1 a x) := fun q hq hne => by
    unfold dm
    rw [(hr q hq).1, if_pos ⟨hq, hne⟩, rd_add _ (mat_getD h1 hq).1 (by unfold mulRow; rw [List.length_map]; exact (mat_getD h1 ha).1) (mat_getD h1 hq).2 (octs_mulRow _ _), rd_mul _ _ (mat_getD h1 ha).1]
  have d2 : ∀ q, q < n → q ≠ a → dm n (elims a n P).2 q y = dm n P.2 q y ^^^ gmul (toF (ent P.1 q a)) (dm n P.2 a y) := fun q hq hne => by
    unfold dm
    rw [(hr q hq).2, if_pos ⟨hq, hne⟩, rd_add _ (mat_getD h2 hq).1 (by unfold mulRow; rw [List.length_map]; exact (mat_getD h2 ha).1) (mat_getD h2 hq).2 (octs_mulRow _ _), rd_mul _ _ (mat_getD h2 ha).1]
  have a1 : dm n (elims a n P).1 a x = dm n P.1 a x := by unfold dm; rw [(hr a ha).1, if_neg (by omega)]
  have a2 : dm n (elims a n P).2 a y = dm n P.2 a y := by unfold dm; rw [(hr a ha).2, if_neg (by omega)]
  constructor
  · intro h i hi
    by_cases e : i = a
    · subst e; rw [← a1, ← a2]; exact h i hi
    · have z := h i hi
      have za := h a ha
      rw [a1, a2] at za
      rw [d1 i hi e, d2 i hi e, za] at z
      exact (BitVec.xor_left_inj _).mp z
  · intro h i hi
    by_cases e : i = a
    · subst e; rw [a1, a2]; exact h i hi
    · rw [d1 i hi e, d2 i hi e, h i hi, h a ha]
/-- the columns below k are those of the unit square -/
noncomputable def UnitC (n k : Nat) (M : List (List Int)) : Prop := ∀ i j, i < n → j < k → ent M i j = if i = j then 1 else 0
theorem mulI_zr (x : Int) : mulI x 0 = 0 := by rw [mulI_comm, mulI_zl]
theorem ent_mul {n : Nat} {M : List (List Int)} (h : Mat n M) {a : Nat} (ha : a < n) {c : Int} {i j : Nat} (hj : j < n) : ent (M.set a (mulRow (M.getD a []) c)) i j = if i = a then mulI (ent M a j) c else ent M i j := by
  unfold ent
  by_cases e : i = a
  · subst e
    rw [getD_set_eq (by rw [h.1]; exact ha), if_pos rfl]
    unfold mulRow
    rw [getD_mapP (d := 0) (by rw [(mat_getD h ha).1]; exact hj)]
  · rw [getD_set_ne (Ne.symm e), if_neg e]
theorem bx_self {x : Int} (h : 0 ≤ x) : Builtin.bitXor x x = 0 := by
  obtain ⟨n, rfl⟩ := Int.eq_ofNat_of_zero_le h
  rw [bx_nat, Nat.xor_self]; rfl
theorem ent_elims {n a : Nat} {P : List (List Int) × List (List Int)} (h1 : Mat n P.1) (h2 : Mat n P.2) (ha : a < n) {i j : Nat} (hi : i < n) (hj : j < n) :
    ent (elims a n P).1 i j = if i ≠ a then Builtin.bitXor (ent P.1 i j) (mulI (ent P.1 a j) (ent P.1 i a)) else ent P.1 i j := by
  obtain ⟨_, _, hr⟩ := elims_rows ha n (Nat.le_refl n) h1.1 h2.1
  conv => lhs; unfold ent; rw [(hr i hi).1]
  by_cases e : i ≠ a
  · have c1 : j < (mulRow (P.1.getD a []) (ent P.1 i a)).length := by unfold mulRow; rw [List.length_map, (mat_getD h1 ha).1]; exact hj
    rw [if_pos ⟨hi, e⟩, if_pos e, getD_zipX (by rw [(mat_getD h1 hi).1]; exact hj) c1]
    unfold mulRow
    rw [getD_mapP (d := 0) (by rw [(mat_getD h1 ha).1]; exact hj)]
    rfl
  · rw [if_neg (by omega), if_neg e]; rfl
theorem ent_swapR {n : Nat} {M : List (List Int)} (h : M.length = n) {a f : Nat} (ha : a < n) (hf : f < n) (i j : Nat) : ent (swapR M a f) i j = ent M (if i = f then a else if i = a then f else i) j := by
  unfold ent; rw [getD_swapR (by omega) (by omega)]
theorem unit_step {n a f : Nat} {P : List (List Int) × List (List Int)} (h1 : Mat n P.1) (h2 : Mat n P.2) (ha : a < n) (haf : a ≤ f) (hf : f < n) (hU : UnitC n a P.1) (hne : ent P.1 f a ≠ 0) : UnitC n (a + 1) (elims a n (pivot a f P)).1 ∧ ∀ x y, Sys n (elims a n (pivot a f P)) x y ↔ Sys n P x y := by
  obtain ⟨m1, m2⟩ := mat_pivot h1 h2 ha hf
  have s1 := mat_swap h1 ha hf
  have s2 := mat_swap h2 ha hf
  have hoct := oct_ent h1 hf ha
  have eaa : ent (swapR P.1 a f) a a = ent P.1 f a := by
    rw [ent_swapR h1.1 ha hf]
    by_cases e : a = f
    · rw [if_pos e, ← e]
    · rw [if_neg e, if_pos rfl]
  have hsw : ∀ i j, i < n → j < a → ent (swapR P.1 a f) i j = if i = j then 1 else 0 := by
    intro i j hi hj
    rw [ent_swapR h1.1 ha hf]
    by_cases e1 : i = f
    · rw [if_pos e1, hU a j ha hj, if_neg (by omega), if_neg (by omega)]
    · rw [if_neg e1]
      by_cases e2 : i = a
      · rw [if_pos e2, hU f j hf hj, if_neg (by omega), if_neg (by omega)]
      · rw [if_neg e2, hU i j hi hj]
  have hpv : ∀ i j, i < n → j < n → ent (pivot a f P).1 i j = if i = a then mulI (ent (swapR P.1 a f) a j) (powI (ent P.1 f a) 254) else ent (swapR P.1 a f) i j := by
    intro i j hi hj
    show ent ((swapR P.1 a f).set a (mulRow ((swapR P.1 a f).getD a []) (powI (ent (swapR P.1 a f) a a) 254))) i j = _
    rw [ent_mul s1 ha hj, eaa]
  have pa : ∀ j, j < a → ent (pivot a f P).1 a j = 0 := fun j hj => by
    rw [hpv a j ha (by omega), if_pos rfl, hsw a j ha hj, if_neg (by omega), mulI_zl]
  have paa : ent (pivot a f P).1 a a = 1 := by
    rw [hpv a a ha ha, if_pos rfl, eaa, mulI_comm, inv_mul hoct hne]
  constructor
  · intro i j hi hj
    rw [ent_elims m1 m2 ha hi (by omega)]
    by_cases e : i = a
    · rw [if_neg (by simpa using e)]
      subst e
      by_cases ej : j = i
      · subst ej; rw [paa, if_pos rfl]
      · rw [pa j (by omega), if_neg (Ne.symm ej)]
    · rw [if_pos e]
      by_cases ej : j = a
      · subst ej
        have ho := oct_ent m1 hi ha
        rw [paa, mulI_comm, mulI_one ho, bx_self ho.1, if_neg e]
      · rw [pa j (by omega), mulI_zl, bx_zero (oct_ent m1 hi (by omega)), hpv i j hi (by omega), if_neg e, hsw i j hi (by omega)]
  · intro x y
    rw [sys_elims m1 m2 ha]
    show Sys n ((swapR P.1 a f).set a (mulRow ((swapR P.1 a f).getD a []) (powI (ent (swapR P.1 a f) a a) 254)), (swapR P.2 a f).set a (mulRow ((swapR P.2 a f).getD a []) (powI (ent (swapR P.1 a f) a a) 254))) x y ↔ _
    rw [eaa]
    have hc : toF (powI (ent P.1 f a) 254) ≠ 0 := fun e => by
      have h := inv_pos hoct hne
      have := congrArg ofF e
      rw [ofF_toF (oct_powI _ _)] at this
      rw [this] at h
      exact absurd h.1 (by decide)
    exact (sys_scale (P := (swapR P.1 a f, swapR P.2 a f)) s1 s2 ha hc).trans (sys_swap h1.1 h2.1 ha hf)
theorem turnIter_inv {n : Nat} {M : List (List Int)} (h : Mat n M) : ∀ k, k ≤ n → ∀ P, turnIter n M k = some P → UnitC n k P.1 ∧ ∀ x y, Sys n P x y ↔ Sys n (M, ident n) x y := by
  intro k
  induction k with
  | zero => intro _ P e; cases e; exact ⟨fun i j _ hj => absurd hj (Nat.not_lt_zero _), fun _ _ => Iff.rfl⟩
  | succ k ih =>
    intro hk P e
    cases ht : turnIter n M k with
    | none => rw [turnIter, ht] at e; cases e
    | some P0 =>
      obtain ⟨i1, i2⟩ := ih (by omega) P0 ht
      obtain ⟨m1, m2⟩ := mat_turnIter h k (by omega) P0 ht
      cases hp : picks n k P0.1 with
      | nil => rw [turnIter, ht] at e; dsimp only at e; rw [hp] at e; cases e
      | cons f r =>
        rw [turnIter, ht] at e; dsimp only at e; rw [hp] at e
        obtain ⟨j, rfl, hkj, hj, hne⟩ := mem_picks (hp ▸ List.mem_cons_self : f ∈ picks n k P0.1)
        cases e
        obtain ⟨u1, u2⟩ := unit_step m1 m2 (show k < n by omega) hkj hj i1 hne
        exact ⟨u1, fun x y => (u2 x y).trans (i2 x y)⟩
theorem toF_sumT {f : Nat → Int} (hf : ∀ p, Oct (f p)) : ∀ n, toF (sumT f n) = sx (fun s => toF (f s)) n
  | 0 => rfl
  | n+1 => by
    show toF (Builtin.bitXor (sumT f n) (f n)) = sx _ n ^^^ _
    rw [toF_xor (oct_sumT hf n).1 (hf n).1, toF_sumT hf n]
theorem ent_ident {n i j : Nat} (hi : i < n) (hj : j < n) : ent (ident n) i j = if j = i then 1 else 0 := by
  unfold ent ident
  simp [List.getD_eq_getElem?_getD, hi, hj]
theorem dm_unit {n : Nat} {M : List (List Int)} (hU : UnitC n n M) {i : Nat} (hi : i < n) (x : Nat → BitVec 8) : dm n M i x = x i := by
  unfold dm rd
  rw [sx_one hi fun s hs hne => ?_]
  · have : toF (ent M i i) = 1 := by rw [hU i i hi hi, if_pos rfl]; rfl
    show gmul (toF (ent M i i)) _ = _
    rw [this, gmul_one']
  · have : toF (ent M i s) = 0 := by rw [hU i s hi hs, if_neg (Ne.symm hne)]; rfl
    show gmul (toF (ent M i s)) _ = _
    rw [this, gmul_zl]
theorem dm_ident {n : Nat} {i : Nat} (hi : i < n) (x : Nat → BitVec 8) : dm n (ident n) i x = x i := by
  refine dm_unit (fun i j hi hj => ?_) hi x
  rw [ent_ident hi hj]
  by_cases e : i = j
  · rw [if_pos e, if_pos e.symm]
  · rw [if_neg e, if_neg (Ne.symm e)]
theorem dm_zero {n : Nat} {M : List (List Int)} {i : Nat} : dm n M i (fun _ => 0) = 0 := by
  unfold dm rd
  rw [sx_congr (g := fun _ => 0) fun s _ => gmul_zr _, sx_zero]
/-- all that a turned square says -/
theorem turned_solves {n : Nat} {M R : List (List Int)} (h : Mat n M) (e : turnedI n M = some R) (x y : Nat → BitVec 8) : (∀ i, i < n → x i = dm n R i y) ↔ ∀ i, i < n → dm n M i x = y i := by
  unfold turnedI at e
  cases ht : turnIter n M n with
  | none => rw [ht] at e; cases e
  | some P =>
    rw [ht] at e; cases e
    obtain ⟨u1, u2⟩ := turnIter_inv h n (Nat.le_refl n) P ht
    have := u2 x y
    unfold Sys at this
    constructor
    · intro z i hi
      rw [← dm_ident hi y]
      exact this.mp (fun i hi => by rw [dm_unit u1 hi]; exact z i hi) i hi
    · intro z i hi
      have := this.mpr (fun i hi => by show dm n M i x = dm n (ident n) i y; rw [dm_ident hi]; exact z i hi) i hi
      rw [dm_unit u1 hi] at this
      exact this
theorem mat_turned {n : Nat} {M R : List (List Int)} (h : Mat n M) (e : turnedI n M = some R) : Mat n R := by
  unfold turnedI at e
  cases ht : turnIter n M n with
  | none => rw [ht] at e; cases e
  | some P => rw [ht] at e; cases e; exact (mat_turnIter h n (Nat.le_refl n) P ht).2
theorem turned_right {n : Nat} {M R : List (List Int)} (h : Mat n M) (e : turnedI n M = some R) {i k : Nat} (hi : i < n) (hk : k < n) : sumT (fun s => mulI (ent M i s) (ent R s k)) n = if i = k then 1 else 0 := by
  have z := (turned_solves h e (fun s => dm n R s fun j => if j = k then 1 else 0) (fun j => if j = k then 1 else 0)).mp (fun _ _ => rfl) i hi
  have hd : ∀ s, s < n → dm n R s (fun j => if j = k then 1 else 0) = toF (ent R s k) := fun s _ => by
    unfold dm rd
    rw [sx_one hk fun j hj hne => by dsimp only; rw [if_neg hne, gmul_zr]]
    dsimp only
    rw [if_pos rfl, gmul_one]; rfl
  have o : Oct (sumT (fun s => mulI (ent M i s) (ent R s k)) n) := oct_sumT (fun _ => oct_mulI _ _) n
  rw [← ofF_toF o, toF_sumT (fun _ => oct_mulI _ _)]
  have : sx (fun s => toF (mulI (ent M i s) (ent R s k))) n = dm n M i (fun s => dm n R s fun j => if j = k then 1 else 0) := by
    unfold dm rd
    refine sx_congr fun s hs => ?_
    rw [toF_mulI]
    have := hd s hs
    unfold dm rd at this
    dsimp only
    rw [this]; rfl
  rw [this, z]
  by_cases c : i = k
  · rw [if_pos c, if_pos c]; rfl
  · rw [if_neg c, if_neg c]; rfl
theorem picks_nil {n a : Nat} {M : List (List Int)} (h : picks n a M = []) {q : Nat} (h1 : a ≤ q) (h2 : q < n) : ent M q a = 0 := by
  unfold picks at h
  rw [List.map_eq_nil_iff, List.filter_eq_nil_iff] at h
  have := h (q - a) (List.mem_range.mpr (by omega))
  rw [show a + (q - a) = q by omega] at this
  simpa using this
/-- a square that is not turned kills a vector -/
theorem turned_none {n : Nat} {M : List (List Int)} (h : Mat n M) : ∀ k, k ≤ n → turnIter n M k = none → ∃ x : Nat → BitVec 8, (∃ j, j < n ∧ x j = 1) ∧ ∀ i, i < n → dm n M i x = 0 := by
  intro k
  induction k with
  | zero => intro _ e; cases e
  | succ k ih =>
    intro hk e
    cases ht : turnIter n M k with
    | none => exact ih (by omega) ht
    | some P =>
      obtain ⟨i1, i2⟩ := turnIter_inv h k (by omega) P ht
      obtain ⟨m1, _⟩ := mat_turnIter h k (by omega) P ht
      cases hp : picks n k P.1 with
      | cons f r => rw [turnIter, ht] at e; dsimp only at e; rw [hp] at e; cases e
      | nil =>
        refine ⟨fun s => if s = k then 1 else if s < k then toF (ent P.1 s k) else 0, ⟨k, by omega, if_pos rfl⟩, ?_⟩
        have hs : Sys n P (fun s => if s = k then 1 else if s < k then toF (ent P.1 s k) else 0) (fun _ => 0) := by
          intro i hi
          rw [dm_zero]
          unfold dm rd
          by_cases c : i < k
          · rw [sx_congr (g := fun s => (if s = i then toF (ent P.1 i k) else 0) ^^^ (if s = k then toF (ent P.1 i k) else 0)) fun s hs => ?_]
            · rw [sx_xor, sx_one hi fun s _ hne => if_neg hne, sx_one (j := k) (by omega) fun s _ hne => if_neg hne, if_pos rfl, if_pos rfl]; simp
            · show gmul (toF (ent P.1 i s)) _ = _
              dsimp only
              by_cases c1 : s = k
              · subst c1
                rw [if_pos rfl, if_neg (by omega), if_pos rfl, gmul_one]; simp
              · rw [if_neg c1, if_neg c1]
                by_cases c2 : s < k
                · rw [if_pos c2, i1 i s hi c2]
                  by_cases c3 : i = s
                  · subst c3; rw [if_pos rfl, if_pos rfl]
                    show gmul 1 _ = _
                    rw [gmul_one']; simp
                  · rw [if_neg c3, if_neg (Ne.symm c3)]
                    show gmul 0 _ = _
                    rw [gmul_zl]; simp
                · rw [if_neg c2, if_neg (by omega), gmul_zr]; simp
          · rw [sx_congr (g := fun _ => 0) fun s hs => ?_, sx_zero]
            show gmul (toF (ent P.1 i s)) _ = _
            dsimp only
            by_cases c1 : s = k
            · subst c1
              rw [picks_nil hp (by omega) hi]
              show gmul 0 _ = _
              rw [gmul_zl]
            · rw [if_neg c1]
              by_cases c2 : s < k
              · rw [i1 i s hi c2, if_neg (by omega)]
                show gmul 0 _ = _
                rw [gmul_zl]
              · rw [if_neg c2, gmul_zr]
        intro i hi
        have := (i2 _ _).mp hs i hi
        rw [this, dm_zero]
end
section
set_option linter.unusedVariables false
set_option linter.unusedSimpArgs false
theorem gx_left (a b : BitVec 8) : a ^^^ (a ^^^ b) = b := by rw [← BitVec.xor_assoc]; simp
theorem gx_lcomm (a b c : BitVec 8) : a ^^^ (b ^^^ c) = b ^^^ (a ^^^ c) := by rw [← BitVec.xor_assoc, BitVec.xor_comm a b, BitVec.xor_assoc]
theorem gm_lcomm (a b c : BitVec 8) : gmul a (gmul b c) = gmul b (gmul a c) := by rw [← gmul_assoc, gmul_comm a b, gmul_assoc]
theorem gx_zero (a : BitVec 8) : a ^^^ 0 = a := by simp
theorem gx_zero' (a : BitVec 8) : 0 ^^^ a = a := by simp
theorem gx_self (a : BitVec 8) : a ^^^ a = 0 := by simp
theorem p2_0 (a b c d x y : BitVec 8) : gmul (gmul a d ^^^ gmul b c) x = gmul d (gmul a x ^^^ gmul b y) ^^^ gmul b (gmul c x ^^^ gmul d y) := by
  simp only [gmul_xl, gmul_xr, gmul_assoc, gmul_comm, gm_lcomm, BitVec.xor_assoc, BitVec.xor_comm, gx_lcomm, gx_left, gx_self, gx_zero, gx_zero']
theorem p2_1 (a b c d x y : BitVec 8) : gmul (gmul a d ^^^ gmul b c) y = gmul c (gmul a x ^^^ gmul b y) ^^^ gmul a (gmul c x ^^^ gmul d y) := by
  simp only [gmul_xl, gmul_xr, gmul_assoc, gmul_comm, gm_lcomm, BitVec.xor_assoc, BitVec.xor_comm, gx_lcomm, gx_left, gx_self, gx_zero, gx_zero']
noncomputable def d2 (a b c d : BitVec 8) : BitVec 8 := gmul a d ^^^ gmul b c
noncomputable def d3 (a b c d e f g h i : BitVec 8) : BitVec 8 := (gmul a (d2 e f h i) ^^^ gmul b (d2 d f g i)) ^^^ gmul c (d2 d e g h)
theorem p3_0 (a b c d e f g h i x y z : BitVec 8) : gmul (d3 a b c d e f g h i) x = (gmul (d2 e f h i) (gmul a x ^^^ gmul b y ^^^ gmul c z) ^^^ gmul (d2 b c h i) (gmul d x ^^^ gmul e y ^^^ gmul f z)) ^^^ gmul (d2 b c e f) (gmul g x ^^^ gmul h y ^^^ gmul i z) := by
  unfold d3 d2
  simp only [gmul_xl, gmul_xr, gmul_assoc, gmul_comm, gm_lcomm, BitVec.xor_assoc, BitVec.xor_comm, gx_lcomm, gx_left, gx_self, gx_zero, gx_zero']
theorem p3_1 (a b c d e f g h i x y z : BitVec 8) : gmul (d3 a b c d e f g h i) y = (gmul (d2 d f g i) (gmul a x ^^^ gmul b y ^^^ gmul c z) ^^^ gmul (d2 a c g i) (gmul d x ^^^ gmul e y ^^^ gmul f z)) ^^^ gmul (d2 a c d f) (gmul g x ^^^ gmul h y ^^^ gmul i z) := by
  unfold d3 d2
  simp only [gmul_xl, gmul_xr, gmul_assoc, gmul_comm, gm_lcomm, BitVec.xor_assoc, BitVec.xor_comm, gx_lcomm, gx_left, gx_self, gx_zero, gx_zero']
theorem p3_2 (a b c d e f g h i x y z : BitVec 8) : gmul (d3 a b c d e f g h i) z = (gmul (d2 d e g h) (gmul a x ^^^ gmul b y ^^^ gmul c z) ^^^ gmul (d2 a b g h) (gmul d x ^^^ gmul e y ^^^ gmul f z)) ^^^ gmul (d2 a b d e) (gmul g x ^^^ gmul h y ^^^ gmul i z) := by
  unfold d3 d2
  simp only [gmul_xl, gmul_xr, gmul_assoc, gmul_comm, gm_lcomm, BitVec.xor_assoc, BitVec.xor_comm, gx_lcomm, gx_left, gx_self, gx_zero, gx_zero']
theorem ck_00 (a b c d e f g h i : BitVec 8) : (gmul a (d2 e f h i) ^^^ gmul b (d2 d f g i)) ^^^ gmul c (d2 d e g h) = d3 a b c d e f g h i := by
  unfold d3 d2
  simp only [gmul_xl, gmul_xr, gmul_assoc, gmul_comm, gm_lcomm, BitVec.xor_assoc, BitVec.xor_comm, gx_lcomm, gx_left, gx_self, gx_zero, gx_zero']
theorem ck_01 (a b c d e f g h i : BitVec 8) : (gmul d (d2 e f h i) ^^^ gmul e (d2 d f g i)) ^^^ gmul f (d2 d e g h) = 0 := by
  unfold d2
  simp only [gmul_xl, gmul_xr, gmul_assoc, gmul_comm, gm_lcomm, BitVec.xor_assoc, BitVec.xor_comm, gx_lcomm, gx_left, gx_self, gx_zero, gx_zero']
theorem ck_02 (a b c d e f g h i : BitVec 8) : (gmul g (d2 e f h i) ^^^ gmul h (d2 d f g i)) ^^^ gmul i (d2 d e g h) = 0 := by
  unfold d2
  simp only [gmul_xl, gmul_xr, gmul_assoc, gmul_comm, gm_lcomm, BitVec.xor_assoc, BitVec.xor_comm, gx_lcomm, gx_left, gx_self, gx_zero, gx_zero']
theorem ck_10 (a b c d e f g h i : BitVec 8) : (gmul a (d2 b c h i) ^^^ gmul b (d2 a c g i)) ^^^ gmul c (d2 a b g h) = 0 := by
  unfold d2
  simp only [gmul_xl, gmul_xr, gmul_assoc, gmul_comm, gm_lcomm, BitVec.xor_assoc, BitVec.xor_comm, gx_lcomm, gx_left, gx_self, gx_zero, gx_zero']
theorem ck_11 (a b c d e f g h i : BitVec 8) : (gmul d (d2 b c h i) ^^^ gmul e (d2 a c g i)) ^^^ gmul f (d2 a b g h) = d3 a b c d e f g h i := by
  unfold d3 d2
  simp only [gmul_xl, gmul_xr, gmul_assoc, gmul_comm, gm_lcomm, BitVec.xor_assoc, BitVec.xor_comm, gx_lcomm, gx_left, gx_self, gx_zero, gx_zero']
theorem ck_12 (a b c d e f g h i : BitVec 8) : (gmul g (d2 b c h i) ^^^ gmul h (d2 a c g i)) ^^^ gmul i (d2 a b g h) = 0 := by
  unfold d2
  simp only [gmul_xl, gmul_xr, gmul_assoc, gmul_comm, gm_lcomm, BitVec.xor_assoc, BitVec.xor_comm, gx_lcomm, gx_left, gx_self, gx_zero, gx_zero']
theorem ck_20 (a b c d e f g h i : BitVec 8) : (gmul a (d2 b c e f) ^^^ gmul b (d2 a c d f)) ^^^ gmul c (d2 a b d e) = 0 := by
  unfold d2
  simp only [gmul_xl, gmul_xr, gmul_assoc, gmul_comm, gm_lcomm, BitVec.xor_assoc, BitVec.xor_comm, gx_lcomm, gx_left, gx_self, gx_zero, gx_zero']
theorem ck_21 (a b c d e f g h i : BitVec 8) : (gmul d (d2 b c e f) ^^^ gmul e (d2 a c d f)) ^^^ gmul f (d2 a b d e) = 0 := by
  unfold d2
  simp only [gmul_xl, gmul_xr, gmul_assoc, gmul_comm, gm_lcomm, BitVec.xor_assoc, BitVec.xor_comm, gx_lcomm, gx_left, gx_self, gx_zero, gx_zero']
theorem ck_22 (a b c d e f g h i : BitVec 8) : (gmul g (d2 b c e f) ^^^ gmul h (d2 a c d f)) ^^^ gmul i (d2 a b d e) = d3 a b c d e f g h i := by
  unfold d3 d2
  simp only [gmul_xl, gmul_xr, gmul_assoc, gmul_comm, gm_lcomm, BitVec.xor_assoc, BitVec.xor_comm, gx_lcomm, gx_left, gx_self, gx_zero, gx_zero']

theorem len1 {α : Type} {l : List α} (h : l.length = 1) : ∃ a, l = [a] := by
  match l, h with
  | [a], _ => exact ⟨a, rfl⟩
theorem len2 {α : Type} {l : List α} (h : l.length = 2) : ∃ a b, l = [a, b] := by
  match l, h with
  | [a, b], _ => exact ⟨a, b, rfl⟩
theorem len3 {α : Type} {l : List α} (h : l.length = 3) : ∃ a b c, l = [a, b, c] := by
  match l, h with
  | [a, b, c], _ => exact ⟨a, b, c, rfl⟩
theorem toF_sumI (n : Nat) (M : List (List Int)) : toF (sumI (n + 1) M) = sx (fun p => gmul (toF ((M.getD 0 []).getD p 0)) (toF (sumI n (minorI p (M.drop 1))))) (M.getD 0 []).length := by
  show toF (sumT _ _) = _
  rw [toF_sumT fun _ => oct_mulI _ _]
  exact sx_congr fun s _ => toF_mulI _ _
theorem sum1 (a : Int) : toF (sumI 1 [[a]]) = toF a := by
  rw [toF_sumI]
  show 0 ^^^ gmul (toF a) 1 = _
  rw [gmul_one, gx_zero']
theorem sum2 (a b c d : Int) : toF (sumI 2 [[a, b], [c, d]]) = d2 (toF a) (toF b) (toF c) (toF d) := by
  rw [toF_sumI]
  show (0 ^^^ gmul (toF a) (toF (sumI 1 [[d]]))) ^^^ gmul (toF b) (toF (sumI 1 [[c]])) = _
  rw [sum1, sum1, gx_zero']; rfl
theorem sum3 (a b c d e f g h i : Int) : toF (sumI 3 [[a, b, c], [d, e, f], [g, h, i]]) = d3 (toF a) (toF b) (toF c) (toF d) (toF e) (toF f) (toF g) (toF h) (toF i) := by
  rw [toF_sumI]
  show ((0 ^^^ gmul (toF a) (toF (sumI 2 [[e, f], [h, i]]))) ^^^ gmul (toF b) (toF (sumI 2 [[d, f], [g, i]]))) ^^^ gmul (toF c) (toF (sumI 2 [[d, e], [g, h]])) = _
  rw [sum2, sum2, sum2, gx_zero']; rfl
theorem zero_of_toF {x : Int} (h : Oct x) (e : toF x = 0) : x = 0 := by
  rw [← ofF_toF h, e]; rfl
theorem toF_zero {x : Int} (e : x = 0) : toF x = 0 := by rw [e]; rfl
theorem dm1 (a : Int) (x : Nat → BitVec 8) : dm 1 [[a]] 0 x = gmul (toF a) (x 0) := gx_zero' _
theorem dm2 (M : List (List Int)) (i : Nat) (a b : Int) (hr : M.getD i [] = [a, b]) (x : Nat → BitVec 8) : dm 2 M i x = gmul (toF a) (x 0) ^^^ gmul (toF b) (x 1) := by
  unfold dm; rw [hr]
  show (0 ^^^ gmul (toF a) (x 0)) ^^^ gmul (toF b) (x 1) = _
  rw [gx_zero']
theorem dm3 (M : List (List Int)) (i : Nat) (a b c : Int) (hr : M.getD i [] = [a, b, c]) (x : Nat → BitVec 8) : dm 3 M i x = gmul (toF a) (x 0) ^^^ gmul (toF b) (x 1) ^^^ gmul (toF c) (x 2) := by
  unfold dm; rw [hr]
  show ((0 ^^^ gmul (toF a) (x 0)) ^^^ gmul (toF b) (x 1)) ^^^ gmul (toF c) (x 2) = _
  rw [gx_zero']
noncomputable def v3 (u v w : BitVec 8) : Nat → BitVec 8
  | 0 => u
  | 1 => v
  | _ => w
theorem turned_inj {n : Nat} {M R : List (List Int)} (h : Mat n M) (e : turnedI n M = some R) (x : Nat → BitVec 8) (hx : ∀ i, i < n → dm n M i x = 0) : ∀ i, i < n → x i = 0 := fun i hi => by
  rw [(turned_solves h e x (fun _ => 0)).mpr hx i hi, dm_zero]
theorem turned_row {n : Nat} {M R : List (List Int)} (h : Mat n M) (e : turnedI n M = some R) {i : Nat} (hi : i < n) (hz : ∀ x, dm n M i x = 0) : False := by
  have z := (turned_solves h e (fun s => dm n R s fun j => if j = i then 1 else 0) (fun j => if j = i then 1 else 0)).mp (fun _ _ => rfl) i hi
  rw [hz] at z
  rw [if_pos rfl] at z
  exact absurd z (by decide)
theorem sum_zero {n : Nat} {M : List (List Int)} (h : Mat n M) (h1 : 1 ≤ n) (h3 : n ≤ 3) : sumI n M = 0 ↔ turnedI n M = none := by
  have hn : n = 1 ∨ n = 2 ∨ n = 3 := by omega
  constructor
  · intro hs
    cases e : turnedI n M with
    | none => rfl
    | some R =>
      exfalso
      rcases hn with rfl | rfl | rfl
      · obtain ⟨r, rfl⟩ := len1 h.1
        obtain ⟨a, rfl⟩ := len1 (h.2 r (.head _)).1
        have ha := toF_zero hs
        rw [sum1] at ha
        refine turned_row h e (i := 0) (by decide) fun x => ?_
        rw [dm1, ha, gmul_zl]
      · obtain ⟨r, q, rfl⟩ := len2 h.1
        obtain ⟨a, b, rfl⟩ := len2 (h.2 r (.head _)).1
        obtain ⟨c, d, rfl⟩ := len2 (h.2 q (.tail _ (.head _))).1
        have hd := toF_zero hs
        rw [sum2] at hd
        have k := turned_inj h e (v3 (toF d) (toF c) 0) fun i hi => by
          have : i = 0 ∨ i = 1 := by omega
          rcases this with rfl | rfl
          · rw [dm2 _ _ a b rfl]; exact hd
          · rw [dm2 _ _ c d rfl]
            show gmul (toF c) (toF d) ^^^ gmul (toF d) (toF c) = 0
            rw [gmul_comm, gx_self]
        have k0 : toF d = 0 := k 0 (by decide)
        have k1 : toF c = 0 := k 1 (by decide)
        refine turned_row h e (i := 1) (by decide) fun x => ?_
        rw [dm2 _ _ c d rfl, k0, k1, gmul_zl, gmul_zl]; rfl
      · obtain ⟨r, q, t, rfl⟩ := len3 h.1
        obtain ⟨a, b, c, rfl⟩ := len3 (h.2 r (.head _)).1
        obtain ⟨d, e', f, rfl⟩ := len3 (h.2 q (.tail _ (.head _))).1
        obtain ⟨g, h', i', rfl⟩ := len3 (h.2 t (.tail _ (.tail _ (.head _)))).1
        have hd := toF_zero hs
        rw [sum3] at hd
        have k : ∀ u v w, gmul (toF a) u ^^^ gmul (toF b) v ^^^ gmul (toF c) w = 0 → gmul (toF d) u ^^^ gmul (toF e') v ^^^ gmul (toF f) w = 0 → gmul (toF g) u ^^^ gmul (toF h') v ^^^ gmul (toF i') w = 0 → u = 0 ∧ v = 0 ∧ w = 0 := by
          intro u v w q0 q1 q2
          have z := turned_inj h e (v3 u v w) fun i hi => by
            have : i = 0 ∨ i = 1 ∨ i = 2 := by omega
            rcases this with rfl | rfl | rfl
            · rw [dm3 _ _ a b c rfl]; exact q0
            · rw [dm3 _ _ d e' f rfl]; exact q1
            · rw [dm3 _ _ g h' i' rfl]; exact q2
          exact ⟨z 0 (by decide), z 1 (by decide), z 2 (by decide)⟩
        obtain ⟨_, _, _⟩ := k _ _ _ ((ck_00 (toF a) (toF b) (toF c) (toF d) (toF e') (toF f) (toF g) (toF h') (toF i')).trans hd) (ck_01 (toF a) (toF b) (toF c) (toF d) (toF e') (toF f) (toF g) (toF h') (toF i')) (ck_02 (toF a) (toF b) (toF c) (toF d) (toF e') (toF f) (toF g) (toF h') (toF i'))
        obtain ⟨_, m11, m12⟩ := k _ _ _ (ck_10 (toF a) (toF b) (toF c) (toF d) (toF e') (toF f) (toF g) (toF h') (toF i')) ((ck_11 (toF a) (toF b) (toF c) (toF d) (toF e') (toF f) (toF g) (toF h') (toF i')).trans hd) (ck_12 (toF a) (toF b) (toF c) (toF d) (toF e') (toF f) (toF g) (toF h') (toF i'))
        obtain ⟨_, m21, m22⟩ := k _ _ _ (ck_20 (toF a) (toF b) (toF c) (toF d) (toF e') (toF f) (toF g) (toF h') (toF i')) (ck_21 (toF a) (toF b) (toF c) (toF d) (toF e') (toF f) (toF g) (toF h') (toF i')) ((ck_22 (toF a) (toF b) (toF c) (toF d) (toF e') (toF f) (toF g) (toF h') (toF i')).trans hd)
        unfold d2 at m11 m12 m21 m22
        obtain ⟨kb, ka, _⟩ := k (toF b) (toF a) 0 (by rw [gmul_zr, gx_zero, gmul_comm, gx_self]) (by rw [gmul_zr, gx_zero, gmul_comm, BitVec.xor_comm, gmul_comm (toF e')]; exact m22) (by rw [gmul_zr, gx_zero, gmul_comm, BitVec.xor_comm, gmul_comm (toF h')]; exact m12)
        obtain ⟨kc, _, _⟩ := k (toF c) 0 (toF a) (by rw [gmul_zr, gx_zero, gmul_comm, gx_self]) (by rw [gmul_zr, gx_zero, gmul_comm, BitVec.xor_comm, gmul_comm (toF f)]; exact m21) (by rw [gmul_zr, gx_zero, gmul_comm, BitVec.xor_comm, gmul_comm (toF i')]; exact m11)
        refine turned_row h e (i := 0) (by decide) fun x => ?_
        rw [dm3 _ _ a b c rfl, ka, kb, kc, gmul_zl, gmul_zl, gmul_zl]; rfl
  · intro hs
    have ht : turnIter n M n = none := by
      unfold turnedI at hs
      cases ht : turnIter n M n with
      | none => rfl
      | some P => rw [ht] at hs; cases hs
    obtain ⟨x, ⟨j, hj, xj⟩, hz⟩ := turned_none h n (Nat.le_refl n) ht
    refine zero_of_toF (oct_sumI _ _) ?_
    rcases hn with rfl | rfl | rfl
    · obtain ⟨r, rfl⟩ := len1 h.1
      obtain ⟨a, rfl⟩ := len1 (h.2 r (.head _)).1
      have z0 := hz 0 (by decide)
      obtain rfl : j = 0 := by omega
      rw [dm1, xj, gmul_one] at z0
      rw [sum1]; exact z0
    · obtain ⟨r, q, rfl⟩ := len2 h.1
      obtain ⟨a, b, rfl⟩ := len2 (h.2 r (.head _)).1
      obtain ⟨c, d, rfl⟩ := len2 (h.2 q (.tail _ (.head _))).1
      have z0 := hz 0 (by decide)
      have z1 := hz 1 (by decide)
      rw [dm2 _ _ a b rfl] at z0
      rw [dm2 _ _ c d rfl] at z1
      rw [sum2]
      unfold d2
      have : j = 0 ∨ j = 1 := by omega
      rcases this with rfl | rfl
      · have := p2_0 (toF a) (toF b) (toF c) (toF d) (x 0) (x 1)
        rw [z0, z1, gmul_zr, gmul_zr, gx_zero, xj, gmul_one] at this; exact this
      · have := p2_1 (toF a) (toF b) (toF c) (toF d) (x 0) (x 1)
        rw [z0, z1, gmul_zr, gmul_zr, gx_zero, xj, gmul_one] at this; exact this
    · obtain ⟨r, q, t, rfl⟩ := len3 h.1
      obtain ⟨a, b, c, rfl⟩ := len3 (h.2 r (.head _)).1
      obtain ⟨d, e', f, rfl⟩ := len3 (h.2 q (.tail _ (.head _))).1
      obtain ⟨g, h', i', rfl⟩ := len3 (h.2 t (.tail _ (.tail _ (.head _)))).1
      have z0 := hz 0 (by decide)
      have z1 := hz 1 (by decide)
      have z2 := hz 2 (by decide)
      rw [dm3 _ _ a b c rfl] at z0
      rw [dm3 _ _ d e' f rfl] at z1
      rw [dm3 _ _ g h' i' rfl] at z2
      rw [sum3]
      have : j = 0 ∨ j = 1 ∨ j = 2 := by omega
      rcases this with rfl | rfl | rfl
      · have := p3_0 (toF a) (toF b) (toF c) (toF d) (toF e') (toF f) (toF g) (toF h') (toF i') (x 0) (x 1) (x 2)
        rw [z0, z1, z2, gmul_zr, gmul_zr, gmul_zr, gx_zero, gx_zero, xj, gmul_one] at this; exact this
      · have := p3_1 (toF a) (toF b) (toF c) (toF d) (toF e') (toF f) (toF g) (toF h') (toF i') (x 0) (x 1) (x 2)
        rw [z0, z1, z2, gmul_zr, gmul_zr, gmul_zr, gx_zero, gx_zero, xj, gmul_one] at this; exact this
      · have := p3_2 (toF a) (toF b) (toF c) (toF d) (toF e') (toF f) (toF g) (toF h') (toF i') (x 0) (x 1) (x 2)
        rw [z0, z1, z2, gmul_zr, gmul_zr, gmul_zr, gx_zero, gx_zero, xj, gmul_one] at this; exact this
end
section
open PySem.Calls PyProof.Rows.LCg PySem.W.KBw
section
variable {prog : Program} {w : World} {A : Around} {E : Value → Shared → Prop} {s : Shared} {env : Env} {h₀ : Heap} {body : List Stmt} {Q : Flow → Shared → Prop}
/-- the end of a turn over a tuple: its iterator I, the tuple T -/
noncomputable def REndT (h₀ : Heap) (L : Addr) (I T : Addr) (oI oT : Obj) (J : (Str → Option Value) → List (Addr × Obj) → Prop) (s₁ : Shared) (Q : Flow → Shared → Prop) (f : Flow) (s₂ : Shared) : Prop :=
  match f with
  | .ret v => Q (.ret v) s₂
  | .brk => Q .next s₂
  | _ => ∃ h' tk m' led', s₂ = { s₁ with heap := h', toks := tk } ∧ Fr h₀ L h' m' ∧ News h₀ L h' ((I, oI) :: (T, oT) :: led') ∧ Off led' I ∧ J m' led'
theorem REndT.next {L I T : Addr} {oI oT : Obj} {J : (Str → Option Value) → List (Addr × Obj) → Prop} {s₁ : Shared} {h' : Heap} {tk : Nat} {m' : Str → Option Value} {led' : List (Addr × Obj)} (F : Fr h₀ L h' m') (N : News h₀ L h' ((I, oI) :: (T, oT) :: led')) (k1 : Off led' I) (hj : J m' led') :
    REndT h₀ L I T oI oT J s₁ Q .next { s₁ with heap := h', toks := tk } := ⟨h', tk, m', led', rfl, F, N, k1, hj⟩
theorem tup_turns {x : Str} {px : Pos} {T : Addr} {oT : Obj} {items : Array Value} {m : Str → Option Value} {led₀ : List (Addr × Obj)} (hh : A.handled = none) (F : Fr h₀ env.locals s.heap m) (N : News h₀ env.locals s.heap led₀) (hTm : (T, oT) ∈ led₀) (hT : s.heap.IsTuple T items)
    (J : Nat → (Str → Option Value) → List (Addr × Obj) → Prop) (h0 : J 0 m led₀)
    (step : ∀ i v m₁ led h tk I oI oT, items[i]? = some v → J i m₁ led → Off led I → I ≠ T → (∀ vs u t, oI.data = .fields vs → vs[1]? ≠ some (.str u t)) → Fr h₀ env.locals h m₁ → News h₀ env.locals h ((I, oI) :: (T, oT) :: led) →
      wpAny (model prog w) A (assign (.Name x px) env v) (fun _ s₃ => wpAny (model prog w) A (execs body env) (REndT h₀ env.locals I T oI oT (J (i + 1)) { s with heap := h, toks := tk } Q) E s₃) E { s with heap := h, toks := tk })
    (done : ∀ h' tk m' led', Fr h₀ env.locals h' m' → News h₀ env.locals h' led' → J items.size m' led' → Q .next { s with heap := h', toks := tk }) :
    wpAny (model prog w) A (pyIter (.ref T)) (fun it s₂ => TurnsAt prog w A h₀ env (.Name x px) body Q E it s₂) E s := by
  obtain ⟨nT1, nT2, nT3⟩ := N _ hTm
  have hlt : T < s.heap.objs.size := Heap.lt_size nT1
  have up : ∀ b o, s.heap.get? b = some o → (s.heap.push { cls := .type "tuple_iterator", data := .fields #[.ref T, .int 0 0] }).get? b = some o := fun b o e => Heap.get?_push_of_some _ e
  refine wpAny_pyIter_tuple hT ?_
  have W := Walks.tuple (prog := prog) (w := w) hh s.heap.objs.size T (Nat.ne_of_lt hlt) items
  refine ⟨s.heap.objs.size, [s.heap.objs.size, T], [s.heap.objs.size], items.size, _, _, _, m, led₀, J, rfl, KTurns.ofWalks W (fun i v s Q E _ hQ => wpAny_pure hQ), fun hm => ?_, fun b hb => ?_, fun p hp hm => ?_, ⟨⟨_, Heap.get?_push_size _ rfl, rfl, rfl⟩, hT.at fun o e => up _ o e⟩,
    F.keeps up, N.grown up, h0, ?_, fun h' tk m' led' F' N' _ hJ => done h' tk m' led' F' N' hJ⟩
  · simp only [List.mem_cons, List.not_mem_nil, or_false] at hm
    rcases hm with e | e
    · exact absurd F.ns.lt (e ▸ Nat.lt_irrefl _)
    · exact nT2 e.symm
  · rw [List.mem_singleton.mp hb]; exact next_is_new F
  · exact absurd (Heap.lt_size (N p hp).1) (List.mem_singleton.mp hm ▸ Nat.lt_irrefl _)
  · rintro i v m₁ led h₁ tk₁ own hi hP hJ hoff hsub hget hall st F₁ N₁
    obtain ⟨hit, htu⟩ := st
    obtain ⟨oI, hI, _, hId⟩ := hit
    obtain ⟨oT', hT', _⟩ := htu
    have m1 := hall _ (.head _) (next_is_new F) oI hI
    have m2 := hall _ (.tail _ (.head _)) nT3 oT' hT'
    have offI : Off led s.heap.objs.size := fun p hp e => hoff p hp (e ▸ List.mem_singleton.mpr rfl)
    have ownI : ∀ p ∈ own, p = (s.heap.objs.size, oI) ∨ p = (T, oT') := fun p hp => by
      have e1 := hsub p hp
      have e2 := hget p hp
      obtain ⟨p1, p2⟩ := p
      simp only [List.mem_cons, List.not_mem_nil, or_false] at e1 e2
      rcases e1 with e1 | e1
      · rw [e1, hI] at e2; left; rw [e1, Option.some.inj e2]
      · rw [e1, hT'] at e2; right; rw [e1, Option.some.inj e2]
    have N₂ : News h₀ env.locals h₁ ((s.heap.objs.size, oI) :: (T, oT') :: led) := fun p hp => by
      rcases List.mem_cons.mp hp with rfl | hp
      · exact N₁ _ (List.mem_append_left _ m1)
      rcases List.mem_cons.mp hp with rfl | hp
      · exact N₁ _ (List.mem_append_left _ m2)
      · exact N₁ _ (List.mem_append_right _ hp)
    refine wpAny_mono (step i v m₁ led h₁ tk₁ _ oI oT' hP hJ offI (Ne.symm (Nat.ne_of_lt hlt)) (fun vs u t e1 e2 => by rw [hId] at e1; cases e1; simp at e2) F₁ N₂) (fun _ s₃ h₃ => wpAny_mono h₃ (fun f s₄ h₄ => ?_) fun _ _ e => e) fun _ _ e => e
    have fin : (∃ h' tk m' led', s₄ = { s with heap := h', toks := tk } ∧ Fr h₀ env.locals h' m' ∧ News h₀ env.locals h' ((s.heap.objs.size, oI) :: (T, oT') :: led') ∧ Off led' s.heap.objs.size ∧ J (i + 1) m' led') →
        LoopStepU h₀ env.locals [s.heap.objs.size] own (J (i + 1)) { s with heap := h₁, toks := tk₁ } .next s₄ := by
      rintro ⟨h', tk, m', led', rfl, F', N', ho, hj⟩
      refine ⟨rfl, h', tk, m', led', rfl, F', fun p hp => ?_, fun p hp hm => ho p hp (List.mem_singleton.mp hm), hj⟩
      rcases List.mem_append.mp hp with hp | hp
      · rcases ownI p hp with rfl | rfl
        · exact N' _ (.head _)
        · exact N' _ (.tail _ (.head _))
      · exact N' _ (.tail _ (.tail _ hp))
    cases f with
    | ret v => exact h₄
    | brk => exact h₄
    | next => exact fin h₄
    | cont => exact fin h₄
end
section
variable {w : World} {p : Program} {loose : List Str} {mean : ExcName → Option Value} {mg mb : Str → Option Value} {d : Nat} {f P : Addr} {lams : List (Pos × Str)} {news : CbLed} {vs : List Value} {C : Heap → Prop}
  {dp un : Nat} {gd : Option (List Code)} {cn : Str} {cs : Scope} {a : Addr} {ccd : Value} {cl : List (Str × Addr)} {h₀ : Heap} {L : Addr} {m : Str → Option Value} {s : Shared} {Q E : Value → Shared → Prop}
theorem turnFr {g h : Heap} (T : KtsTurn [] h₀ g) (F : Fr g L h m) : Fr h₀ L h m := ⟨F.ns, fun b o e => F.keep b o (T.other b o e (by simp)), by rw [← T.size]; exact F.above⟩
theorem turnNews {g h : Heap} (T : KtsTurn [] h₀ g) (N : News g L h news) : News h₀ L h news := fun q hq => ⟨(N q hq).1, (N q hq).2.1, by
  cases z : h₀.get? q.1 with
  | none => rfl
  | some o => have := T.other _ _ z (by simp); rw [(N q hq).2.2] at this; cases this⟩
/-- such a call from the law's own frame -/
theorem tellP0 (H : TellsP w p loose mean mg mb d f P lams vs C) (F : Fr h₀ L s.heap m) (X : (hd.heap_1 w.params).In h₀) (N : News h₀ L s.heap news) (T : Top p loose mean mg mb h₀) (hk : cs.kind = .function) (hd : dp + d < recursionLimit) (hu : un + 8 * d < cLine) (hTab : TabOn P lams news) (hC : C s.heap)
    (ret : ∀ h' tk' news', Fr h₀ L h' m → News h₀ L h' news' → TabOn P lams news' → (∀ q ∈ news, q.1 ≠ P → q ∈ news') → Q (.bool true) { s with heap := h', toks := tk' }) :
    wpAny (model lawProg w) (ktrTop dp un gd cn cs L a ccd cl []) (call (.ref f) vs) Q E s :=
  H _ _ _ _ _ _ _ _ _ _ _ _ _ _ _ _ _ _ (below_caller h₀) F X N T hk hd hu X T ktsDicts_nil hTab hC fun _ h' tk' news' T' F' N' hT' hs _ _ _ _ => ret h' tk' news' (turnFr T' F') (turnNews T' N') hT' hs
theorem tab_start (h : (P, tabObj #[]) ∈ news) : TabOn P lams news := ⟨#[], h, trivial, fun _ _ => .inl rfl⟩
theorem TabOn.sub {news' : CbLed} (h : TabOn P lams news) (k : ∀ q ∈ news, q ∈ news') : TabOn P lams news' := by
  obtain ⟨ps, h1, h2, h3⟩ := h
  exact ⟨ps, k _ h1, h2, LamsOk.mono h3 fun q _ hq => k q hq⟩
theorem TabOn.strip {I : Addr} {oI : Obj} {h : Heap} (H : TabOn P lams news) (N : News h₀ L h news) (hI : (I, oI) ∈ news) (hP : P ≠ I) (hn : ∀ vs u t, oI.data = .fields vs → vs[1]? ≠ some (.str u t)) : TabOn P lams (offP I news) := by
  obtain ⟨ps, h1, h2, h3⟩ := H
  refine ⟨ps, mem_offP.mpr ⟨h1, hP⟩, h2, fun q hq => ?_⟩
  rcases h3 q hq with e | ⟨c', oc, vs, t, e1, e2, e3, e4, e5⟩
  · exact .inl e
  · refine .inr ⟨c', oc, vs, t, e1, mem_offP.mpr ⟨e2, fun e => ?_⟩, e3, e4, e5⟩
    have z1 := (N _ e2).1
    have z2 := (N _ hI).1
    dsimp only at z1 z2 e
    rw [e, z2] at z1
    rw [← Option.some.inj z1] at e3
    exact hn _ _ _ e3 e4
end
end
section
open PySem.Calls PyProof.Rows.LCg PySem.W.KBw
section
variable {w : World} {mean : ExcName → Option Value} {mg mb : Str → Option Value} {p : Program} {loose : List Str}
local macro_rules | `(tactic| k_mem) => `(tactic| k_extra "kfm_cat1@Sq1")

noncomputable abbrev sqQ : Str := ((Str.ofString "_law_square_right") ++ (".<locals>." : Str)) ++ ("<lambda>" : Str)
noncomputable abbrev sqPos : Pos := ⟨135, 28, 135, 48⟩
theorem codeHd174 {P : Params} {h : Heap} (X : (hd.heap_1 P).In h) : CodeHd h 174 172 := by
  have e := X 174 _ (by k_is)
  exact ⟨_, _, _, _, _, _, _, _, _, e, rfl, rfl, rfl, rfl, rfl, rfl, rfl, rfl, by decide⟩
theorem misTurn_tells (news : CbLed) (f : Addr) (qual : Str) (p1 p2 p3 : Pos) (cl : List (Str × Addr)) (pm : Value) (cr l : Addr) (n : Nat) (M : List (List Int)) (hM : Mat n M) (hn : n ≤ 63) (hnone : turnedI n M = none) (hcl : cl.lookup (Str.ofString "rows") = some cr) :
    TellsT w p loose mean mg mb 8 153 news [.ref f] (fun h => LamIn qual noPar (turnBody p1 p2 p3) turnScope cl pm f [(cr, .ref l)] h ∧ GRows h l M) :=
  misused_tells news f 7 (fun h => LamIn qual noPar (turnBody p1 p2 p3) turnScope cl pm f [(cr, .ref l)] h ∧ GRows h l M) (lamTurn_tells f qual p1 p2 p3 cl pm cr l n M hM hn hnone hcl) (fun _ _ hh kk => ⟨hh.1.keeps kk, hh.2.keeps kk⟩) (fun _ hh => hh.1.fn)
theorem Rows.offCell {h₀ h : Heap} {L c : Addr} {off : List Addr} {vs : List Value} {M : List (List Int)} {led : List (Addr × Obj)} {o : Obj} {v : Option Value} (R : Rows off vs M led) (N : News h₀ L h led) (hc : (c, o) ∈ led) (hd : o.data = .cell v) : Rows (c :: off) vs M led :=
  ⟨R.1, fun i hi => by
    obtain ⟨b, its, k, h1, h2, h3, h4⟩ := R.2 i hi
    refine ⟨b, its, k, h1, h2, h3, fun hm => ?_⟩
    rcases List.mem_cons.mp hm with e | hm
    · have z1 := (N _ h2).1
      have z2 := (N _ hc).1
      dsimp only at z1 z2
      rw [e, z2] at z1
      rw [Option.some.inj z1] at hd
      cases hd
    · exact h4 hm⟩
theorem newsTab {h₀ h : Heap} {L P : Addr} {o : Obj} {led : List (Addr × Obj)} (N : News h₀ L h led) (hP : (P, o) ∈ led) : News h₀ L h ((P, o) :: offP P led) := fun q hq => by
  rcases List.mem_cons.mp hq with rfl | hq
  · exact N _ hP
  · exact N _ (mem_offP.mp hq).1
set_option maxHeartbeats 4000000 in
theorem square_tells (l : Addr) (vs : List Value) (ns : List Int) (i : Int) (t : Tok) (hI : IntsAre vs ns) (hl : ns.length ≤ 63) (hi : 0 ≤ i ∧ i < 60) :
    TellsP w p loose mean mg mb 20 175 172 [(sqPos, sqQ)] [.ref l, .int i t] (fun h => h.IsList l vs.toArray) := by
  intro dp un gd cn cs a ccd cl outer A₀ base h₀ L m news s Q E B F X N T hk hd hu XB TB D hTab hL hret
  obtain ⟨ps, hP, htr, hlams⟩ := hTab.open
  refine wpAny_call ?_
  k_dflt (refine' enterP B F X N T hP XB TB D ?kA ?kF ?kK ?k6 ?k7 ?k8 ?k9 ?kB ?kD ?_ ?c2 ?c3 ?c4; (case kA => exact rfl); (case kF => exact rfl); (case kK => assumption); (case k6 => k_is); (case k7 => k_is); (case k8 => ktr_room); (case k9 => exact BindsTo.of_eq rfl); (case kB => exact rfl); (case kD => decide +kernel); (case c2 => exact rfl); (case c3 => exact rfl); (case c4 => exact rfl); k_whole; intro g L' h' tk' cells' hg F' N' Y' B' X' T' D' hlt; k_cells Y'; (simp only [List.cons_append, List.nil_append] at N'); (have l9 : ∀ q ∈ [((172 : Addr), tabObj ps)], q.1 < L' := fun q hq => by rw [List.mem_singleton.mp hq]; exact hlt); (k_lt l9); (try simp only [List.map_cons, List.map_nil, List.zip_cons_cons, List.zip_nil_right, List.zip_nil_left] at F'); (try dsimp only); (try k_fold))
  have hLg : g.IsList l vs.toArray := by
    obtain ⟨o, ho, hc, n, hd'⟩ := hL
    refine ⟨o, hg ▸ hideAll_get _ ho fun hm => ?_, hc, n, hd'⟩
    rw [List.mem_singleton.mp hm] at ho
    rw [(N _ hP).1] at ho
    cases ho; cases hd'
  have hL' := Fr.lst F' hLg
  have hi0 := hi.1
  have hi1 := hi.2
  clear hL
  rename_i f1 f2 f3 f4 f5
  have e1 : _ = Data.cell none := f1
  have e2 : _ = Data.cell none := f2
  have e3 : _ = Data.cell none := f3
  have e4 : _ = Data.cell (some (.int i t)) := f4
  have e5 : _ = Data.cell (some (.ref l)) := f5
  clear f1 f2 f3 f4 f5
  k_extra "kwk_ne@Sq1"
  obtain ⟨n, hn1, hn3, hne⟩ : ∃ n : Nat, 1 ≤ n ∧ n ≤ 3 ∧ 1 + (digI ns i).fmod 3 = (n : Int) := by
    refine ⟨(1 + (digI ns i).fmod 3).toNat, ?_, ?_, ?_⟩ <;> rw [Int.fmod_eq_emod_of_nonneg _ (by decide)] <;> omega
  rename (Obj.data _ = Data.cell (some (.int (1 + (digI ns i).fmod 3) _))) => dN
  rename (Obj.data _ = Data.cell (some (.ref _))) => dR
  rw [hne] at dN
  rename Fr g L' _ _ => lF
  rename News g L' _ _ => lN
  have X0 := SF.start lN (n := n) (b := L') (P := 172) (by k_mem) (by k_mem) (by k_mem) (by k_mem) (by k_mem) (by k_mem) (.head _) e5 e4 dN e2 dR hlt (by omega)
  (with_unfolding_all refine' For_turns lF ?_)
  k_extra "kwk_ne@Sq1"
  refine rng_turns (n := n) rfl (by assumption) (by assumption) (by assumption) (small_one (by omega) (by omega) (by omega) (by omega)) (by rw [rangeSize_nat, Int.sub_zero, Int.toNat_natCast])
    (fun p _ led => ∃ lR vP kR vR M, M.length = p ∧ (∀ r ∈ M, r.length = n ∧ ∀ x ∈ r, Oct x) ∧ SF n i t l L' 172 ps vP lR kR vR M led) ⟨_, _, _, _, _, rfl, fun r hr => absurd hr (List.not_mem_nil), X0⟩ ?step ?done
  case step =>
    clear X0
    rintro q t₂ m₁ led h₁ tk₁ I oI hq ⟨lR, vP, kR, vR, M, hMl, hMr, X₁⟩ hoI F₁ N₁
    obtain ⟨oP, hP1, dP1⟩ := X₁.cP
    refine wpAny_assign_Name (store_cell (c := L' + 1 + 1 + 1 + 1) F₁ N₁ (.tail _ hP1) dP1 rfl rfl rfl ?_)
    intro h₂ o₂ d₂ F₂ N₂
    rw [Int.zero_add] at d₂
    rw [updL_cons (Ne.symm (hoI _ hP1))] at N₂
    have X₂ := X₁.setP d₂
    have hoI₂ : Off _ I := off_upd (o := o₂) hoI hP1
    clear X₁ hoI hP1 dP1
    generalize updL (L' + 1 + 1 + 1 + 1) o₂ led = led₂ at *
    change Fr g L' h₂ m₁ at F₂
    change News g L' h₂ _ at N₂
    obtain ⟨oS, hS, dS⟩ := X₂.cS
    obtain ⟨oA, hA, dA⟩ := X₂.cA
    obtain ⟨oN, tN, hN, dN2⟩ := X₂.cN
    obtain ⟨oP2, hP2, dP2⟩ := X₂.cP
    obtain ⟨oR, hR, dR2⟩ := X₂.cR
    have wR2 := X₂.mR
    (try dsimp only)
    k_extra "kwk_ne@Sq1"
    refine comp_ints (n := n) (Bd := fun j m₂ => ∃ v, m₂ (Str.ofString "k") = some v ∧ ∃ t, v = .int (0 + (j : Int)) t) (g := fun j => elemI ((digI ns (i + 1)).fdiv (11 ^ ((n : Int) * (q : Int) + (j : Int)).toNat) + 5 * (j : Int))) (by assumption) (by assumption) (by rfl) (by decide) (by rfl) (by decide) (by rw [sizeLine_eq]; omega) ?elem ?src
    case elem =>
      intro s₁ j C oC m₂ rest E₁ hj hoC hBd F₃ N₃ hsub
      obtain ⟨v, hv, tj, rfl⟩ := hBd
      rw [Int.zero_add] at hv
      have hpw := pw11 (k := n * q + j) (by have : n * q ≤ 3 * 2 := Nat.mul_le_mul hn3 (by omega); omega)
      rw [show (((n * q + j : Nat) : Int)) = (n : Int) * (q : Int) + (j : Int) by rw [Int.natCast_add, Int.natCast_mul]] at hpw
      have hnq : n * q + j ≤ 8 := by have : n * q ≤ 3 * 2 := Nat.mul_le_mul hn3 (by omega); omega
      have hp0 : 0 ≤ (n : Int) * (q : Int) + (j : Int) := by rw [← Int.natCast_mul, ← Int.natCast_add]; exact Int.natCast_nonneg _
      have hp1 : (n : Int) * (q : Int) + (j : Int) ≤ 1000000 := by rw [← Int.natCast_mul, ← Int.natCast_add]; omega
      have hS3 := hsub _ (.tail _ hS)
      have hA3 := hsub _ (.tail _ hA)
      have hN3 := hsub _ (.tail _ hN)
      have hP3 := hsub _ (.tail _ hP2)
      k_extra "kwk_ne@Sq1"
    case src =>
      k_extra "kwk_ne@Sq1"
      refine src_range (n := n) rfl rfl rfl (by assumption) (by assumption) (by assumption) (small_one (by omega) (by omega) (by omega) (by omega)) (by rw [rangeSize_nat, Int.sub_zero, Int.toNat_natCast]) fun h₂ => ?_
      intro D vs₂ kk h₃ tk₃ F₃ N₃ lt₃ I₃
      dsimp only
      k_extra "kwk_ne@Sq1"
      have hDo : ∀ q ∈ (I, oI) :: led₂, q.1 ≠ D := fun q hq => Nat.ne_of_lt (lt₃ q hq)
      refine (X₂.grow (led' := (D, listOf vs₂.toArray kk) :: led₂) (fun q hq => .tail _ hq)).append (by k_asm) (by k_asm) (hoI₂.cons (q := (D, _)) (Ne.symm (hDo (I, oI) (.head _)))) sub_perm2 (.head _) I₃ (X₂.off fun q hq => hDo q (.tail _ hq)) (by rw [X₂.rR.1, hMl, sizeLine_eq]; omega) ?_
      intro h₄ led₄ F₄ N₄ hoI₄ X₄
      dsimp only
      k_extra "kwk_ne@Sq1"
      refine REnd.next F₄ N₄ hoI₄ ⟨_, _, _, _, _, ?_, ?_, X₄⟩
      · rw [List.length_append, hMl]; rfl
      · intro r hr
        rcases List.mem_append.mp hr with hr | hr
        · exact hMr r hr
        · rw [List.mem_singleton.mp hr]
          refine ⟨by rw [List.length_map, List.length_range], fun x hx => ?_⟩
          obtain ⟨j, _, rfl⟩ := List.mem_map.mp hx
          exact oct_elemI _
  case done =>
    rintro h₁ tk₁ m₁ led F₁ N₁ ⟨lR, vP, kR, vR, M, hMl, hMr, X₁⟩
    change Fr g L' h₁ m₁ at F₁
    change News g L' h₁ led at N₁
    clear X0 dN dR e1 e2 e3 e4 e5
    have hM : Mat n M := ⟨hMl, hMr⟩
    clear hMl hMr
    obtain ⟨oS, hS, dS⟩ := X₁.cS
    obtain ⟨oA, hA, dA⟩ := X₁.cA
    obtain ⟨oN, tN, hN, dN⟩ := X₁.cN
    obtain ⟨oP, hP1, dP⟩ := X₁.cP
    obtain ⟨oR, hR, dR⟩ := X₁.cR
    have wR := X₁.mR
    have hRl := X₁.rR.1
    (try dsimp only)
    k_extra "kwk_ne@Sq1"
    refine wpAny_mono (Q := fun f s' => f = .next ∧ ∃ h₂ tk₂ led₂ kR₂ vR₂ M₂, s' = { s with heap := h₂, toks := tk₂ } ∧ Fr g L' h₂ m₁ ∧ News g L' h₂ led₂ ∧ Mat n M₂ ∧ SF n i t l L' 172 ps vP lR kR₂ vR₂ M₂ led₂) ?iff (fun f s' hf => ?rest) (fun _ _ e => e)
    case iff =>
      k_extra "kd_p"
      k_extra "kwk_ne@Sq1"
      obtain ⟨b0, its0, k0, r1, r2, r3, r4⟩ := X₁.rR.2 0 (by rw [hM.1]; omega)
      rename Fr g L' _ _ => F₂
      rename News g L' _ _ => N₂
      refine sub_row (v := .ref b0) ⟨_, (N₂ _ wR).1, rfl, _, rfl⟩ r1 (by decide) (by decide) ?_
      k_extra "kwk_ne@Sq1"
      refine list_copyK F₂ N₂ ⟨_, (N₂ _ r2).1, rfl, _, rfl⟩ (fun D1 c1 h4 F4 N4 lt4 => ?_) (by rw [List.size_toArray, r3.length, (mat_getD hM (show 0 < n by omega)).1, sizeLine_eq]; omega)
      dsimp only
      k_extra "kwk_ne@Sq1"
      refine (X₁.grow (led' := (D1, listOf its0.toArray c1) :: led) (fun q hq => .tail _ hq)).storeLast (by k_asm) (by k_asm) subSelf (.head _) r3 (X₁.off fun q hq => Nat.ne_of_lt (lt4 q hq)) (by rw [hM.1]; omega) ?_
      intro h5 led5 F5 N5 X5
      dsimp only
      have hM5 : Mat n (M.set (M.length - 1) (M.getD 0 [])) := mat_set hM _ (mat_getD hM (by omega)).1 (mat_getD hM (by omega)).2
      clear X₁ hM
      k_extra "kwk_ne@Sq1"
    case rest =>
      obtain ⟨rfl, h₂, tk₂, led₂, kR₂, vR₂, M₂, rfl, F₂, N₂, hM₂, X₂⟩ := hf
      clear X₁ hS dS hA dA hN dN hP1 dP hR dR wR hRl F₁ N₁ hM
      obtain ⟨oS, hS, dS⟩ := X₂.cS
      obtain ⟨oA, hA, dA⟩ := X₂.cA
      obtain ⟨oN, tN, hN, dN⟩ := X₂.cN
      obtain ⟨oP, hP1, dP⟩ := X₂.cP
      obtain ⟨oR, hR, dR⟩ := X₂.cR
      have wR := X₂.mR
      have hRl := X₂.rR.1
      have hrow : ∀ j, j < n → (M₂.getD j []).length = n := fun j hj => (mat_getD hM₂ hj).1
      (try dsimp only)
      k_extra "kwk_ne@Sq1"
      refine comp_rows_s (n := n) (y := Str.ofString "kept") (Bd := fun j m₂ => ∃ v, m₂ (Str.ofString "row") = some v ∧ vR₂.toArray[j]? = some v) (g := fun j => M₂.getD j []) [172, lR, L' + 1, L' + 1 + 1, L' + 1 + 1 + 1, L' + 1 + 1 + 1 + 1, L' + 1 + 1 + 1 + 1 + 1] F₂ N₂ (fun a ha => by simp only [List.mem_cons, List.not_mem_nil, or_false] at ha; rcases ha with rfl | rfl | rfl | rfl | rfl | rfl | rfl <;> exact ⟨_, by first | exact X₂.tab | k_mem⟩) (by with_unfolding_all rfl) rfl rfl rfl (by rfl) (by decide) (by rfl) (by decide) (by rw [sizeLine_eq]; omega) ?elem ?src
      case elem =>
        intro s₁ j C oC m₂ rest E₁ hj hoC hBd F₅ N₅ hsub
        obtain ⟨v₂, hv₂, hit⟩ := hBd
        obtain ⟨b1, its1, k1, y1, y2, y3, y4⟩ := X₂.rR.2 j (by rw [hM₂.1]; omega)
        have hv1 : v₂ = .ref b1 := by
          rw [List.getElem?_toArray, y1] at hit
          exact (Option.some.inj hit).symm
        subst hv1
        have y5 := (N₅ _ (.tail _ (hsub _ y2))).1
        k_extra "kwk_ne@Sq1"
        refine list_copyK F₅ N₅ ⟨_, y5, rfl, _, rfl⟩ (fun D c h' Fh Nh l1 => ⟨D, its1, c, h', _, rfl, rfl, Fh, Nh, fun q hq => Nat.ne_of_lt (l1 q hq), y3⟩) (by rw [List.size_toArray, y3.length, hrow j hj, sizeLine_eq]; omega)
      case src =>
        k_extra "kwk_ne@Sq1"
        refine src_list rfl rfl rfl F₂ N₂ ⟨_, (N₂ _ wR).1, rfl, _, rfl⟩ (N₂ _ wR).2.1 (by rw [List.size_toArray, hRl, hM₂.1]) fun h₃ => ?_
        intro aK vK kK led₃ h₃ tk₃ F₃ N₃ oK lt₃ sub₃ R₃
        rw [show (List.range n).map (fun j => M₂.getD j []) = M₂ from rows_range hM₂.1] at R₃
        have X₃ := X₂.grow (led' := (aK, listOf vK.toArray kK) :: led₃) (fun q hq => .tail _ (sub₃ q hq))
        have hoffK := X₂.off (a := aK) fun q hq => Nat.ne_of_lt (lt₃ q hq)
        clear X₂ hS dS hA dA hN dN hP1 dP hR dR wR hRl F₂ N₂ sub₃ lt₃
        obtain ⟨oS, hS, dS⟩ := X₃.cS
        obtain ⟨oA, hA, dA⟩ := X₃.cA
        obtain ⟨oN, tN, hN, dN⟩ := X₃.cN
        obtain ⟨oP, hP1, dP⟩ := X₃.cP
        obtain ⟨oR, hR, dR⟩ := X₃.cR
        have wR := X₃.mR
        (try dsimp only)
        k_extra "kwk_ne@Sq1"
        k_extra "kd_p"
        k_extra "kwk_ne@Sq1"
        k_dflt (refine' tell (lsum_tells n _ lR n M₂ hM₂ (by omega) (by omega)) (by k_asm) (by k_asm) (by k_asm) (by k_asm) (by k_asm) (by first | exact rfl | assumption) (by k_extra "kwd_rel") (by k_extra "kwd_less") ⟨X₃.rR.g N₃ X₃.mR, ?_⟩)
        intro t₅ h₅ tk₅ F₅ N₅
        dsimp only
        k_extra "kwk_ne@Sq1"
        · have hs0 : sumI n M₂ = 0 := by assumption
          have hnone := (sum_zero hM₂ hn1 hn3).mp hs0
          have N₅' := newsTab N₅ X₃.tab
          have rR3 := X₃.rR
          refine lam_make (ps := ps) (mem := (· ∈ news)) (lams := [(sqPos, sqQ)]) F₅ N₅' T' (codeHd174 X') rfl (.head fun q hq => (mem_offP.mp hq).2) htr hlams (fun q hq hne => .inl (hg ▸ hideAll_get _ (N q hq).1 fun hm => hne (List.mem_singleton.mp hm))) (.head _) (fun q hq => .inl (List.mem_singleton.mp hq)) rfl rfl fun f1 c1 ctv1 ps1 pre1 h6 tk6 F6 N6 hf1 hrec1 hpre1 htr1 hok1 => ?_
          have in6 : ∀ q ∈ (aK, listOf vK.toArray kK) :: led₃, q.1 ≠ 172 → q ∈ pre1 ++ (172, tabObj ps1) :: offP 172 ((aK, listOf vK.toArray kK) :: led₃) := fun q hq hne => List.mem_append_right _ (.tail _ (mem_offP.mpr ⟨hq, hne⟩))
          have tab6 : (172, tabObj ps1) ∈ pre1 ++ (172, tabObj ps1) :: offP 172 ((aK, listOf vK.toArray kK) :: led₃) := List.mem_append_right _ (.head _)
          have pre6 : ∀ q ∈ pre1, q ∈ pre1 ++ (172, tabObj ps1) :: offP 172 ((aK, listOf vK.toArray kK) :: led₃) := fun q hq => List.mem_append_left _ hq
          have hR6 := in6 _ hR (by show @Ne Nat _ _; omega)
          have wR6 := in6 _ wR (fun e => Nat.lt_irrefl _ (Nat.lt_trans hlt (Nat.lt_trans (show @LT.lt Nat _ L' (L' + 1 + 1 + 1 + 1 + 1) by omega) (e ▸ X₃.nR))))
          have wK6 := in6 _ (.head _) (fun e => hoffK (by rw [show aK = 172 from e]; simp))
          have RR6 := X₃.rR.mono (led' := pre1 ++ (172, tabObj ps1) :: offP 172 ((aK, listOf vK.toArray kK) :: led₃)) fun q hq hn => in6 q hq fun e => hn (by rw [e]; simp)
          have RK6 := R₃.cons.mono (led' := pre1 ++ (172, tabObj ps1) :: offP 172 ((aK, listOf vK.toArray kK) :: led₃)) fun q hq hn => in6 q hq fun e => hn (by rw [e]; simp)
          generalize pre1 ++ (172, tabObj ps1) :: offP 172 ((aK, listOf vK.toArray kK) :: led₃) = led₆ at *
          clear X₃ in6 hS dS hA dA hN dN hP1 dP hR wR R₃ F₅ N₅ N₅'
          have hrows6 : h6.IsCell (L' + 1 + 1 + 1 + 1 + 1) (some (Value.ref lR)) := ⟨_, (N6 _ hR6).1, dR⟩
          have hL6 : LamIn _ noPar (turnBody _ _ _) turnScope _ _ f1 [(L' + 1 + 1 + 1 + 1 + 1, Value.ref lR)] h6 := ⟨⟨c1, ctv1, (N6 _ (pre6 _ hf1)).1, hrec1⟩, fun q hq => by rw [List.mem_singleton.mp hq]; exact hrows6⟩
          dsimp only
          k_extra "kwk_ne@Sq1"
          refine tellT (misTurn_tells _ f1 _ _ _ _ _ _ _ lR n M₂ hM₂ (by omega) hnone rfl) B' (by k_asm) X' N6 T' rfl (by ktr_room) (by ktr_units) XB TB D' ⟨hL6, RR6.g N6 wR6⟩ fun g7 h7 tk7 T7 F7 N7 B7 X7 P7 D7 => ?_
          dsimp only
          k_extra "kwk_ne@Sq1"
          refine eq_rows (RR6.g N7 wR6) (RK6.g N7 wK6) (by ke_room) ?_
          refine ⟨g7, L', _, _, T7, by k_asm, N7, fun h0' q1 q2 q3 q4 q5 q6 q7 => ?_⟩
          exact hret h0' _ _ _ q1 q2 q3 (tabOn_back tab6 htr1 (hok1.mono fun q _ hq => by
            rcases hq with hq | hq
            · exact .inl hq
            · exact .inr (pre6 _ hq))) (fun q hq hne => List.mem_append_right _ (mem_offP.mpr ⟨hq, hne⟩)) q4 q5 q6 q7
        · have hs0 : sumI n M₂ ≠ 0 := by assumption
          k_dflt (refine' tellX (turned_tells _ lR n M₂ hM₂ (by omega)) (by k_asm) (by k_asm) (by k_asm) (by k_asm) (by k_asm) (by first | exact rfl | assumption) (by k_extra "kwd_rel") (by k_extra "kwd_less") ⟨X₃.rR.g N₅ X₃.mR, fun R hTR => ?_, fun hnone => absurd ((sum_zero hM₂ hn1 hn3).mpr hnone) hs0⟩)
          intro aD vD kD led₆ h₆ tk₆ F₆ N₆ oD RD sub₆
          have X₆ := X₃.grow (led' := (aD, listOf vD.toArray kD) :: led₆) (fun q hq => .tail _ (sub₆ q hq))
          have wK6 : (aK, listOf vK.toArray kK) ∈ (aD, listOf vD.toArray kD) :: led₆ := .tail _ (sub₆ _ (.head _))
          have RK6 := R₃.cons.mono (led' := (aD, listOf vD.toArray kD) :: led₆) fun q hq _ => .tail _ (sub₆ q (by first | exact hq | exact .tail _ hq))
          have wD6 : (aD, listOf vD.toArray kD) ∈ (aD, listOf vD.toArray kD) :: led₆ := .head _
          have hoffD := X₃.off (a := aD) fun q hq => oD q (sub₆ q hq)
          clear X₃ hS dS hA dA hN dN hP1 dP hR dR wR F₅ N₅ sub₆ R₃
          obtain ⟨oN, tN, hN, dN⟩ := X₆.cN
          obtain ⟨oP, hP1, dP⟩ := X₆.cP
          have RD6 : Rows [L' + 1 + 1 + 1 + 1] vD R ((aD, listOf vD.toArray kD) :: led₆) := (RD.cons.offCell N₆ hP1 dP).narrow (by simp)
          have hRm := mat_turned hM₂ hTR
          clear RD hP1 dP oP
          dsimp only
          k_extra "kwk_ne@Sq1"
          rename Fr g L' _ _ => F₇
          (with_unfolding_all refine' For_turns F₇ ?_)
          k_extra "kwk_ne@Sq1"
          refine rng_turns (n := n) rfl (by assumption) (by assumption) (by assumption) (small_one (by omega) (by omega) (by omega) (by omega)) (by rw [rangeSize_nat, Int.sub_zero, Int.toNat_natCast])
            (fun _ m' led => m' (Str.ofString "kept") = some (.ref aK) ∧ m' (Str.ofString "other") = some (.ref aD) ∧ ∃ vP, SF n i t l L' 172 ps vP lR kR₂ vR₂ M₂ led ∧ (aK, listOf vK.toArray kK) ∈ led ∧ Rows [aK, 172, lR, L' + 1, L' + 1 + 1, L' + 1 + 1 + 1, L' + 1 + 1 + 1 + 1, L' + 1 + 1 + 1 + 1 + 1] vK M₂ led ∧ (aD, listOf vD.toArray kD) ∈ led ∧ Rows [L' + 1 + 1 + 1 + 1] vD R led)
            ⟨by (try dsimp only); rw [if_neg (by decide), if_pos rfl], by (try dsimp only); rw [if_pos rfl], _, X₆, wK6, RK6, wD6, RD6⟩ ?step3 ?done3
          case step3 =>
            clear X₆ wK6 RK6 wD6 RD6 hN dN
            rintro pp t₂ m₂ led₂ h₈ tk₈ I oI hp ⟨hmK, hmD, vP₂, X₈, wK₈, RK₈, wD₈, RD₈⟩ hoI F₈ N₈
            obtain ⟨oP, hP1, dP1⟩ := X₈.cP
            refine wpAny_assign_Name (store_cell (c := L' + 1 + 1 + 1 + 1) F₈ N₈ (.tail _ hP1) dP1 rfl rfl rfl ?_)
            intro h₉ o₉ d₉ F₉ N₉
            rw [Int.zero_add] at d₉
            rw [updL_cons (Ne.symm (hoI _ hP1))] at N₉
            have X₉ := X₈.setP d₉
            have hoI₉ : Off _ I := off_upd (o := o₉) hoI hP1
            have wK₉ := mem_upd_ne (a := L' + 1 + 1 + 1 + 1) (o := o₉) wK₈ (fun e => hoffK (by rw [show aK = L' + 1 + 1 + 1 + 1 from e]; simp))
            have RK₉ := RK₈.upd (a := L' + 1 + 1 + 1 + 1) (o := o₉) (by simp)
            have wD₉ := mem_upd_ne (a := L' + 1 + 1 + 1 + 1) (o := o₉) wD₈ (fun e => hoffD (by rw [show aD = L' + 1 + 1 + 1 + 1 from e]; simp))
            have RD₉ := RD₈.upd (a := L' + 1 + 1 + 1 + 1) (o := o₉) (by simp)
            clear X₈ wK₈ RK₈ wD₈ RD₈ hoI hP1 dP1 F₈ N₈
            generalize updL (L' + 1 + 1 + 1 + 1) o₉ led₂ = led₉ at *
            change Fr g L' h₉ m₂ at F₉
            change News g L' h₉ _ at N₉
            obtain ⟨oN, tN, hN, dN⟩ := X₉.cN
            obtain ⟨oP, hP1, dP⟩ := X₉.cP
            obtain ⟨oR, hR, dR⟩ := X₉.cR
            have wR := X₉.mR
            have F₉' := Fr.ovr (Fr.ovr F₉ (x := Str.ofString "kept") hmK) (x := Str.ofString "other") (v := .ref aD) (by rw [if_neg (by decide)]; exact hmD)
            clear F₉
            dsimp only
            k_extra "kwk_ne@Sq1"
            (with_unfolding_all refine' For_turns F₉' ?_)
            k_extra "kwk_ne@Sq1"
            refine rng_turns (n := n) rfl (by assumption) (by assumption) (by assumption) (small_one (by omega) (by omega) (by omega) (by omega)) (by rw [rangeSize_nat, Int.sub_zero, Int.toNat_natCast])
              (fun _ m' led' => m' (Str.ofString "kept") = some (.ref aK) ∧ m' (Str.ofString "other") = some (.ref aD) ∧ led' = (I, oI) :: led₉)
              ⟨by (try dsimp only); rw [if_neg (by decide), if_pos rfl], by (try dsimp only); rw [if_pos rfl], rfl⟩ ?step4 ?done4
            case step4 =>
              rintro q t₃ m₃ _ h₁₀ tk₁₀ I2 oI2 hq ⟨hmK, hmD, rfl⟩ hoI2 F₁₀ N₁₀
              change Fr g L' h₁₀ m₃ at F₁₀
              change News g L' h₁₀ _ at N₁₀
              have F₁₀' := Fr.ovr (Fr.ovr F₁₀ (x := Str.ofString "kept") hmK) (x := Str.ofString "other") (v := .ref aD) (by rw [if_neg (by decide)]; exact hmD)
              clear F₁₀
              dsimp only
              k_extra "kwk_ne@Sq1"
              rename Fr g L' _ _ => F₁₁
              (with_unfolding_all refine' For_turns F₁₁ ?_)
              k_extra "kwk_ne@Sq1"
              refine rng_turns (n := n) rfl (by assumption) (by assumption) (by assumption) (small_one (by omega) (by omega) (by omega) (by omega)) (by rw [rangeSize_nat, Int.sub_zero, Int.toNat_natCast])
                (fun r m' led' => m' (Str.ofString "kept") = some (.ref aK) ∧ m' (Str.ofString "other") = some (.ref aD) ∧ (∃ t, m' (Str.ofString "k") = some (.int (q : Int) t)) ∧ (∃ t, m' (Str.ofString "found") = some (.int (sumT (fun s => mulI (ent M₂ pp s) (ent R s q)) r) t)) ∧ led' = (I2, oI2) :: (I, oI) :: led₉)
                ?start5 ?step5 ?done5
              case start5 =>
                (try dsimp only)
                refine ⟨?_, ?_, ⟨t₃, ?_⟩, ⟨_, if_pos rfl⟩, rfl⟩
                · rw [if_neg (by decide), if_neg (by decide), if_neg (by decide), if_pos rfl]
                · rw [if_neg (by decide), if_neg (by decide), if_pos rfl]
                · rw [if_neg (by decide), if_pos rfl, Int.zero_add]
              case step5 =>
                rintro r t₄ m₄ _ h₁₂ tk₁₂ I3 oI3 hr ⟨hmK, hmD, ⟨tk4, hmk⟩, ⟨tf, hmf⟩, rfl⟩ hoI3 F₁₂ N₁₂
                change Fr g L' h₁₂ m₄ at F₁₂
                change News g L' h₁₂ _ at N₁₂
                have F₁₂' := Fr.ovr (Fr.ovr (Fr.ovr (Fr.ovr F₁₂ (x := Str.ofString "kept") hmK) (x := Str.ofString "other") (v := .ref aD) (by rw [if_neg (by decide)]; exact hmD)) (x := Str.ofString "k") (v := .int (q : Int) tk4) (by rw [if_neg (by decide), if_neg (by decide)]; exact hmk)) (x := Str.ofString "found") (v := .int _ tf) (by rw [if_neg (by decide), if_neg (by decide), if_neg (by decide)]; exact hmf)
                clear F₁₂ hmK hmD hmk hmf
                obtain ⟨b1, its1, k1, y1, y2, y3, y4⟩ := X₉.rR.2 pp (by rw [hM₂.1]; exact hp)
                obtain ⟨b2, its2, k2, z1, z2, z3, z4⟩ := RD₉.2 r (by rw [hRm.1]; exact hr)
                have O1 : Oct ((M₂.getD pp []).getD r 0) := oct_ent hM₂ hp hr
                have O2 : Oct ((R.getD r []).getD q 0) := oct_ent hRm hr hq
                have O3 : Oct (sumT (fun s => mulI (ent M₂ pp s) (ent R s q)) r) := oct_sumT (fun _ => oct_mulI _ _) r
                have hl1 := (mat_getD hM₂ hp).1
                have hl2 := (mat_getD hRm hr).1
                dsimp only
                k_extra "kwk_ne@Sq1"
                rename News g L' _ _ => N₁₃
                refine sub_row (v := .ref b1) ⟨_, (N₁₃ _ (.tail _ (.tail _ (.tail _ wR)))).1, rfl, _, rfl⟩ (by rw [Int.toNat_natCast]; exact y1) (by omega) (by omega) ?_
                k_extra "kwk_ne@Sq1"
                refine read_ent N₁₃ (.tail _ (.tail _ (.tail _ y2))) y3 (by omega) (by omega) (by omega) ?_
                intro t₅
                rw [show (0 + (r : Int)).toNat = r by omega]
                k_extra "kwk_ne@Sq1"
                refine sub_row (v := .ref b2) ⟨_, (N₁₃ _ (.tail _ (.tail _ (.tail _ wD₉)))).1, rfl, _, rfl⟩ (by rw [show (0 + (r : Int)).toNat = r by omega]; exact z1) (by omega) (by omega) ?_
                k_extra "kwk_ne@Sq1"
                refine read_ent N₁₃ (.tail _ (.tail _ (.tail _ z2))) z3 (by omega) (by omega) (by omega) ?_
                intro t₆
                rw [Int.toNat_natCast]
                k_extra "kwk_ne@Sq1"
                refine REnd.next (by k_asm) (by k_asm) hoI3 ⟨?_, ?_, ⟨tk4, ?_⟩, ⟨_, if_pos rfl⟩, rfl⟩
                all_goals (try dsimp only)
                all_goals (repeat (first | rw [if_pos rfl] | rw [if_neg (by decide)]))
              case done5 =>
                rintro h₁₂ tk₁₂ m₄ _ F₁₂ N₁₂ ⟨hmK, hmD, ⟨tk4, hmk⟩, ⟨tf, hmf⟩, rfl⟩
                change Fr g L' h₁₂ m₄ at F₁₂
                change News g L' h₁₂ _ at N₁₂
                rw [turned_right hM₂ hTR hp hq] at hmf
                have F₁₂' := Fr.ovr (Fr.ovr (Fr.ovr (Fr.ovr F₁₂ (x := Str.ofString "kept") hmK) (x := Str.ofString "other") (v := .ref aD) (by rw [if_neg (by decide)]; exact hmD)) (x := Str.ofString "k") (v := .int (q : Int) tk4) (by rw [if_neg (by decide), if_neg (by decide)]; exact hmk)) (x := Str.ofString "found") (v := .int _ tf) (by rw [if_neg (by decide), if_neg (by decide), if_neg (by decide)]; exact hmf)
                clear F₁₂ hmK hmD hmk hmf
                have hval : (if pp = q then (1 : Int) else 0) = if ((pp : Int) == (q : Int)) = true then 1 else 0 := by
                  by_cases hpq : pp = q
                  · subst hpq; simp
                  · rw [if_neg hpq, if_neg]
                    simp only [beq_iff_eq]; omega
                dsimp only
                k_extra "kwk_ne@Sq1"
                k_extra "kd_p"
                k_extra "kwk_ne@Sq1"
                refine REnd.next (by k_asm) (by k_asm) hoI2 ⟨?_, ?_, rfl⟩
                all_goals (try dsimp only)
                all_goals (repeat (first | rw [if_pos rfl] | rw [if_neg (by decide)]))
            case done4 =>
              rintro h₁₂ tk₁₂ m₄ _ F₁₂ N₁₂ ⟨hmK, hmD, rfl⟩
              change Fr g L' h₁₂ m₄ at F₁₂
              change News g L' h₁₂ _ at N₁₂
              dsimp only
              k_extra "kwk_ne@Sq1"
              exact REnd.next F₁₂ N₁₂ hoI₉ ⟨hmK, hmD, _, X₉, wK₉, RK₉, wD₉, RD₉⟩
          case done3 =>
            rintro h₁₂ tk₁₂ m₄ led₁₂ F₁₂ N₁₂ ⟨hmK, hmD, vP₁₂, X₁₂, wK₁₂, RK₁₂, wD₁₂, RD₁₂⟩
            change Fr g L' h₁₂ m₄ at F₁₂
            change News g L' h₁₂ _ at N₁₂
            have F₁₂' := Fr.ovr F₁₂ (x := Str.ofString "kept") hmK
            clear F₁₂
            obtain ⟨oR, hR, dR⟩ := X₁₂.cR
            dsimp only
            k_extra "kwk_ne@Sq1"
            refine eq_rows (X₁₂.rR.g N₁₂ X₁₂.mR) (RK₁₂.g N₁₂ wK₁₂) (by ke_room) ?_
            refine ⟨g, L', _, _, KtsTurn.refl, F₁₂', N₁₂, fun h0' q1 q2 q3 q4 q5 q6 q7 => ?_⟩
            exact hret h0' _ _ _ q1 q2 q3 (tabOn_back X₁₂.tab htr (hlams.mono fun q _ hq => .inl hq)) (fun q hq hne => List.mem_append_right _ (mem_offP.mpr ⟨hq, hne⟩)) q4 q5 q6 q7
end
end
section
open PySem.Calls PyProof.Rows.LCg PySem.W.KBw

set_option maxHeartbeats 2000000 in
theorem law_walked : PySem.Challenge.rw_np0173_01.Holds := hd (by
  k_go0
  (all_goals try k_fold)
  k_extra "kso_list@Law1"
  rename Fr _ _ _ _ => F₁
  (with_unfolding_all refine' For_turns F₁ ?_)
  k_extra "kso_list@Law1"
  refine tup_turns (oT := _) rfl (by assumption) (by assumption) (.head _) ⟨_, ((by assumption : News _ _ _ _) _ (.head _)).1, rfl, _, rfl⟩
    (fun _ m' led => ∃ D ws ns, m' (Str.ofString "script") = some (.ref D) ∧ (D, listOf ws.toArray 0) ∈ led ∧ @LT.lt Nat _ 172 D ∧ IntsAre ws ns ∧ ns.length ≤ 63 ∧ (172, tabObj #[]) ∈ led ∧ TabOn 155 elLams led)
    ⟨_, _, _, if_pos rfl, .tail _ (.head _), by omega, by assumption, by rw [List.length_take]; omega, .tail _ (.tail _ (.head _)), tab_start (.tail _ (.tail _ (.tail _ (.head _))))⟩ ?step ?done
  case step =>
    rintro i v m₁ led h₁ tk₁ I oI oT hv ⟨D, ws, ns, hmD, wD, hDlt, hI2, hn63, w172, hT155⟩ hoI hIT hnI F₂ N₂
    (try dsimp only at F₂ N₂)
    obtain ⟨k, t, rfl, hk0, hk1⟩ : ∃ k t, v = .int k t ∧ 0 ≤ k ∧ k < 60 := by
      rcases i with _ | _ | _ | i
      · simp at hv; exact ⟨_, _, hv.symm, by decide, by decide⟩
      · simp at hv; exact ⟨_, _, hv.symm, by decide, by decide⟩
      · simp at hv; exact ⟨_, _, hv.symm, by decide, by decide⟩
      · simp at hv
    have F₃ := Fr.ovr F₂ hmD
    clear F₂ hv
    dsimp only
    k_extra "kso_list@Law1"
    have hI155 : @Ne Nat I 155 := fun e => by
      obtain ⟨ps, h, _⟩ := hT155
      exact hoI _ h e.symm
    rename News _ _ _ _ => N₃
    rename Fr _ _ _ _ => F₄
    k_dflt (refine' tellP0 (elements_tells D ws ns k t hI2 hn63 ⟨hk0, hk1⟩) F₄ (by k_asm) N₃ (by k_asm) rfl (by first | decide | ktr_room) (by first | decide | ktr_units) (hT155.sub fun q hq => .tail _ (.tail _ hq)) ⟨_, (N₃ _ (.tail _ (.tail _ wD))).1, rfl, _, rfl⟩ ?_)
    intro h₅ tk₅ news₅ F₅ N₅ hT₅ sub₅
    dsimp only
    k_extra "kso_list@Law1"
    refine REndT.next (led' := offP I news₅) (by k_asm) (fun q hq => ?_) (fun q hq => (mem_offP.mp hq).2) ⟨D, ws, ns, ?_, mem_offP.mpr ⟨sub₅ _ (.tail _ (.tail _ wD)) ?_, hoI _ wD⟩, hDlt, hI2, hn63, mem_offP.mpr ⟨sub₅ _ (.tail _ (.tail _ w172)) (by decide), hoI _ w172⟩, hT₅.strip N₅ (sub₅ _ (.head _) hI155) (Ne.symm hI155) hnI⟩
    · rcases List.mem_cons.mp hq with rfl | hq
      · exact N₅ _ (sub₅ _ (.head _) hI155)
      rcases List.mem_cons.mp hq with rfl | hq
      · exact N₅ _ (sub₅ _ (.tail _ (.head _)) (by show @Ne Nat _ _; omega))
      · exact N₅ _ (mem_offP.mp hq).1
    · (try dsimp only)
      rw [if_neg (by decide), if_pos rfl]
    · show @Ne Nat _ _; omega
  case done =>
    rintro h₁ tk₁ m₁ led F₂ N₂ ⟨D, ws, ns, hmD, wD, hDlt, hI2, hn63, w172, hT155⟩
    (try dsimp only [envOf] at F₂ N₂)
    have F₃ := Fr.ovr F₂ hmD
    clear F₂
    dsimp only
    k_extra "kso_list@Law1"
    k_dflt (refine' tell (lrows_tells _ D ws ns 9 _ hI2 hn63 ⟨by decide, by decide⟩) (by k_asm) F₃ (by k_asm) N₂ (by k_asm) (by first | exact rfl | assumption) (by first | decide | k_extra "kwd_rel") (by first | decide | k_extra "kwd_less") ⟨⟨_, (N₂ _ wD).1, rfl, _, rfl⟩, ?_⟩)
    intro h₄ tk₄ F₄ N₄
    dsimp only
    k_extra "kso_list@Law1"
    k_dflt (refine' tell (lrows_tells _ D ws ns 14 _ hI2 hn63 ⟨by decide, by decide⟩) (by k_asm) F₄ (by k_asm) N₄ (by k_asm) (by first | exact rfl | assumption) (by first | decide | k_extra "kwd_rel") (by first | decide | k_extra "kwd_less") ⟨⟨_, (N₄ _ wD).1, rfl, _, rfl⟩, ?_⟩)
    intro h₅ tk₅ F₅ N₅
    dsimp only
    k_extra "kso_list@Law1"
    k_dflt (refine' tellP0 (square_tells D ws ns 19 _ hI2 hn63 ⟨by decide, by decide⟩) F₅ (by k_asm) N₅ (by k_asm) rfl (by first | decide | ktr_room) (by first | decide | ktr_units) (tab_start w172) ⟨_, (N₅ _ wD).1, rfl, _, rfl⟩ ?_)
    intro h₆ tk₆ news₆ F₆ N₆ hT₆ sub₆
    have w155 : ∃ ps, (155, tabObj ps) ∈ news₆ := by
      obtain ⟨ps, h, _⟩ := hT155
      exact ⟨ps, sub₆ _ h (by show (155 : Nat) ≠ 172; decide)⟩
    have wD₆ := sub₆ _ wD (by show @Ne Nat _ _; omega)
    dsimp only
    k_extra "kso_list@Law1"
    k_dflt (refine' tellP0 (square_tells D ws ns 21 _ hI2 hn63 ⟨by decide, by decide⟩) F₆ (by k_asm) N₆ (by k_asm) rfl (by first | decide | ktr_room) (by first | decide | ktr_units) hT₆ ⟨_, (N₆ _ wD₆).1, rfl, _, rfl⟩ ?_)
    intro h₇ tk₇ news₇ F₇ N₇ hT₇ sub₇
    obtain ⟨ps172, w172', _⟩ := hT₇
    obtain ⟨ps155, w155'⟩ := w155
    have w155'' := sub₇ _ w155' (by show (155 : Nat) ≠ 172; decide)
    dsimp only
    k_extra "kso_list@Law1")
end
end Mine
theorem PySem.Challenge.cw_np0173_01_holds : PySem.Challenge.rw_np0173_01.Holds := by
  exact Mine.law_walked
