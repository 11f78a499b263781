/- The deterministic evaluator D and what is proved with it, part Law of the claim on YtpopgcbejolepaaGreatDoor. -/
import Derived.Test.YtpopgcbejolepaaGreatDoorMach
set_option maxRecDepth 1000000
set_option Elab.async false
noncomputable section
namespace Ds.Text
open Go (IntKind Value World Addr Program)
def mP : List Nat := [59,32,105,43,43,32,123,10,115,32,43,61,32,115,10,125,10,102,111,114,32,105,32,58,61,32,48,59,32,105,32,60,32]
def eP : List Nat := [59,32,105,43,43,32,123,10,112,114,105,110,116,40,115,41,10,125,10,125,10]
def tlQ : List (SI × List Nat) := [(.var 1, eP)]
def valP (d r : Int) (O : List UInt8) : Val where
  i n := match n with | 0 => d | 1 => r | _ => 0
  s n := match n with | 407 => O.take 1000000 | _ => []
  ok n := by
    split
    · rw [List.length_take]; omega
    · simp
theorem valP_rng {d r : Int} {O : List UInt8} (ha : -9223372036854775808 ≤ d ∧ d ≤ 9223372036854775807) (hb : -9223372036854775808 ≤ r ∧ r ≤ 9223372036854775807) : Rng (valP d r O) := by
  intro i
  match i with
  | 0 => exact ha
  | 1 => exact hb
  | n + 2 => show _ ≤ (0 : Int) ∧ (0 : Int) ≤ _; omega
def vNt : AV := .tup [vN, .bool true]
def vOt : AV := .tup [vO, .bool true]
theorem told_N' : okIs' (callF (mkE (knT (mkSrc hP tlP) []) (funsM (mkSrc hP tlP) (runG asP nx_P l_P vN nx_P made0))) 300 16 [.str (.var 1), .nils] emptyH) vNt = true := told_N
theorem told_O' : okIs' (callF (mkE (knT (mkSrc hP tlP) []) (funsM (mkSrc hP tlP) (runG asP nx_P l_P vO nx_P made0))) 300 16 [.str (.var 1), .nils] emptyH) vOt = true := told_O
theorem mach_ok {σ : Val} {fx : Nat → Option Go.Obj} (hr : Rng σ) (hfx : FixTab fx) (z6 : σ.s 406 = []) {d : Nat} (hd1 : σ.i 0 = d) (hd2 : d ≤ 13) {v1 : AV}
    (k : ∀ (t5 : List UInt8) (F p : Int), t5.length + 1 = 2 ^ (d + 1) → F ≥ 49990100 → F ≤ 50000000 → 0 ≤ p → p ≤ 50 → dblS d = 97 :: t5 → Rch prog nm0 fx 1296 runBody (RunR fx σ capsP nx_P v1 nx_P made0) (pv σ 0 F p t5 (σ.s 406)) (fOf fr_S2a) (Hp.of nx_S2a l_S2a)) (E' : Env) :
    FunOk prog (X0 σ fx) E' methNames 24 (.mem (runG asP nx_P l_P v1 nx_P made0)) := by
  have hK : KnOk σ fx (knM [] []) := knM_ok hr (fun y hy => by cases hy) f_nil
  refine run_told2 hK hr hfx (by decide) (caps := capsP) rfl pre_P ?_
  refine seg_rch hK hr hfx seg_A (lkI rfl rfl rfl (fun m c0 c2 c3 => (pv_io c0 c2 c3).symm)) (lkT1 (τ := pv σ 0 49999995 1 [98] (σ.s 406)) ?_ (fun n hn => ?_)) (dbl hr hfx z6 hd1 hd2 k d 0 [98] 49999995 1 (by omega) rfl rfl (by omega) (by omega) (by omega) (by omega))
  · rw [pv_s5 (by decide)]; rfl
  · by_cases c : n = 406
    · subst c; rw [pv_s6 (by rw [z6]; decide)]
    · rw [pv_so hn c]
theorem src_eq {σ : Val} {n : Int} {hd : List Nat} (h0 : σ.i 0 = n) (hb : -9223372036854775808 ≤ n ∧ n ≤ 9223372036854775807) (he : hP ++ (itoL n ++ mP) = hd) : (srcS (.lit hP) tlP).ev σ = (srcS (.lit hd) tlQ).ev σ := by
  show (((b8 hP ++ Go.Lib.itoa (IntKind.wrap .i64 (σ.i 0))) ++ b8 mP) ++ Go.Lib.itoa (IntKind.wrap .i64 (σ.i 1))) ++ b8 eP = (b8 hd ++ Go.Lib.itoa (IntKind.wrap .i64 (σ.i 1))) ++ b8 eP
  rw [h0, ← he, wrap_id hb, itoa_itoL]
  simp only [b8, List.map_append, List.append_assoc]
theorem toldLit {σ : Val} {fx : Nat → Option Go.Obj} {n : Int} {hd : List Nat} {v : AV} (h : Told1 prog (X0 σ fx) 16 [.str (srcS (.lit hP) tlP), .nils] v) (h0 : σ.i 0 = n) (hb : -9223372036854775808 ≤ n ∧ n ≤ 9223372036854775807) (he : hP ++ (itoL n ++ mP) = hd) : Told1 prog (X0 σ fx) 16 [.str (srcS (.lit hd) tlQ), .nils] v := by
  refine Told1.as h (fun ρ vs hv => ?_) (fun _ _ hx => hx)
  cases hv with
  | cons _ _ _ _ a b => exact .cons _ _ _ _ (VR.strTo (Y := X0 σ fx) a (SS.base_wf _ (by decide +kernel)) (src_eq h0 hb he)) b
theorem numsP {d r : Int} {O : List UInt8} (hd : 0 ≤ d ∧ d < 1000000000000000000) (hr : 0 ≤ r ∧ r < 1000000000000000000) : NumsOk (valP d r O) tlP := n_cons hd (n_cons hr n_nil)
theorem extP_i {d r : Int} {O : List UInt8} {n : Nat} (h : n ≤ 99 ∨ 400 ≤ n) : (extV (valP d r O) (mkSrc hP tlP)).i n = (valP d r O).i n := by
  show (if n ≤ 99 then _ else if 400 ≤ n then _ else _) = _
  by_cases c : n ≤ 99
  · rw [if_pos c]
  · rw [if_neg c, if_pos (by omega)]
theorem extP_s {d r : Int} {O : List UInt8} {n : Nat} (h : 400 ≤ n) : (extV (valP d r O) (mkSrc hP tlP)).s n = (valP d r O).s n := by
  show (if 400 ≤ n then _ else _) = _
  rw [if_pos h]
theorem toldN {d r : Nat} {fx : Nat → Option Go.Obj} (hfx : FixTab fx) (hd : d ≤ 13) (hr : r ≤ 300) (hfit : r * 2 ^ (d + 1) ≤ 65536) : Told1 prog (X0 (valP d r (rep (dblS d) r)) fx) 16 [.str (srcS (.lit hP) tlP), .nils] vNt := by
  have hlen : (rep (dblS d) r).length = r * 2 ^ (d + 1) := by rw [rep_len, dblS_len]
  have hle : 2 ^ (d + 1) ≤ 2 ^ 14 := Nat.pow_le_pow_right (by decide) (by omega)
  refine told_srcM (h := hP) (tl := tlP) (fl := []) hfx (valP_rng (by omega) (by omega)) f_nil rfl (by decide +kernel) (by decide +kernel) (numsP (by omega) (by omega)) (g := runG asP nx_P l_P vN nx_P made0) (fun hR E' => ?_) (by decide +kernel) (by decide +kernel) told_N'
  refine mach_ok hR hfx ((extP_s (by decide)).trans rfl) (d := d) ((extP_i (by decide)).trans rfl) hd (fun t5 F p hl h1 h2 h3 h4 hS => ?_) E'
  refine partN hR hfx ((extP_i (by decide)).trans rfl) ((extP_i (by decide)).trans rfl) ((extP_i (by decide)).trans rfl) ((extP_s (by decide)).trans rfl) ((extP_s (by decide)).trans rfl) (r := r) ((extP_i (by decide)).trans rfl) hr hl hle hfit ?_ F p h1 h2 h3 h4
  rw [extP_s (by decide), ← hS]
  exact List.take_of_length_le (by omega)
theorem toldO {d r K : Nat} {fx : Nat → Option Go.Obj} (hfx : FixTab fx) (hd : d ≤ 13) (hr : r ≤ 300) (hK : K < r) (hK0 : 1 ≤ K) (hK1 : K * 2 ^ (d + 1) ≤ 65536) (hK2 : 65536 < (K + 1) * 2 ^ (d + 1)) : Told1 prog (X0 (valP d r (rep (dblS d) K)) fx) 16 [.str (srcS (.lit hP) tlP), .nils] vOt := by
  have hlen : (rep (dblS d) K).length = K * 2 ^ (d + 1) := by rw [rep_len, dblS_len]
  have hle : 2 ^ (d + 1) ≤ 2 ^ 14 := Nat.pow_le_pow_right (by decide) (by omega)
  refine told_srcM (h := hP) (tl := tlP) (fl := []) hfx (valP_rng (by omega) (by omega)) f_nil rfl (by decide +kernel) (by decide +kernel) (numsP (by omega) (by omega)) (g := runG asP nx_P l_P vO nx_P made0) (fun hR E' => ?_) (by decide +kernel) (by decide +kernel) told_O'
  refine mach_ok hR hfx ((extP_s (by decide)).trans rfl) (d := d) ((extP_i (by decide)).trans rfl) hd (fun t5 F p hl h1 h2 h3 h4 hS => ?_) E'
  refine partO hR hfx ((extP_i (by decide)).trans rfl) ((extP_i (by decide)).trans rfl) ((extP_i (by decide)).trans rfl) ((extP_s (by decide)).trans rfl) ((extP_s (by decide)).trans rfl) (r := r) ((extP_i (by decide)).trans rfl) hr hl hle hK hK0 hK1 hK2 ?_ F p h1 h2 h3 h4
  rw [extP_s (by decide), ← hS]
  exact List.take_of_length_le (by omega)
def flX0 : List (Cond × Bool) := [(.lti (.var 0) (.lit (.ofNat 0)), true)]
def flX1 : List (Cond × Bool) := [(.lti (.var 0) (.lit (.ofNat 0)), false), (.lti (.lit (.ofNat 13)) (.var 0), true)]
def flX2 : List (Cond × Bool) := [(.lti (.var 0) (.lit (.ofNat 0)), false), (.lti (.lit (.ofNat 13)) (.var 0), false), (.lti (.var 1) (.lit (.ofNat 0)), true)]
def flX3 : List (Cond × Bool) := [(.lti (.var 0) (.lit (.ofNat 0)), false), (.lti (.lit (.ofNat 13)) (.var 0), false), (.lti (.var 1) (.lit (.ofNat 0)), false), (.lti (.lit (.ofNat 300)) (.var 1), true)]
theorem law_X0 : okIs' (callF (mkE (knL flX0) (funsL [] manc)) 300 7 [.int .i64 (.var 0), .int .i64 (.var 1)] emptyH) (.bool true) = true := by decide +kernel
theorem law_X1 : okIs' (callF (mkE (knL flX1) (funsL [] manc)) 300 7 [.int .i64 (.var 0), .int .i64 (.var 1)] emptyH) (.bool true) = true := by decide +kernel
theorem law_X2 : okIs' (callF (mkE (knL flX2) (funsL [] manc)) 300 7 [.int .i64 (.var 0), .int .i64 (.var 1)] emptyH) (.bool true) = true := by decide +kernel
theorem law_X3 : okIs' (callF (mkE (knL flX3) (funsL [] manc)) 300 7 [.int .i64 (.var 0), .int .i64 (.var 1)] emptyH) (.bool true) = true := by decide +kernel
def flN (n : Nat) : List (Cond × Bool) := [(.lti (.var 1) (.lit (.ofNat 0)), false), (.lti (.lit (.ofNat 300)) (.var 1), false), (.lti (.lit (.ofNat 65536)) (.bin .mul .i64 (.lit (.ofNat n)) (.var 1)), false), (.eqi (.slen (.var 407)) (.bin .mul .i64 (.lit (.ofNat n)) (.var 1)), true)]
def flO (n m : Nat) : List (Cond × Bool) := [(.lti (.var 1) (.lit (.ofNat 0)), false), (.lti (.lit (.ofNat 300)) (.var 1), false), (.lti (.lit (.ofNat 65536)) (.bin .mul .i64 (.lit (.ofNat n)) (.var 1)), true), (.eqi (.slen (.var 407)) (.lit (.ofNat m)), true)]
def hd_0 : List Nat := [102,117,110,99,32,109,97,105,110,40,41,32,123,10,115,32,58,61,32,34,97,98,34,10,102,111,114,32,105,32,58,61,32,48,59,32,105,32,60,32,48,59,32,105,43,43,32,123,10,115,32,43,61,32,115,10,125,10,102,111,114,32,105,32,58,61,32,48,59,32,105,32,60,32]
theorem law_N0 : okIs' (callF (mkE (knL (flN 2)) (funsL [([.str (srcS (.lit hd_0) tlQ), .nils], vNt)] manc)) 300 7 [.int .i64 (.lit (.ofNat 0)), .int .i64 (.var 1)] emptyH) (.bool true) = true := by decide +kernel
theorem law_O0 : okIs' (callF (mkE (knL (flO 2 65536)) (funsL [([.str (srcS (.lit hd_0) tlQ), .nils], vOt)] manc)) 300 7 [.int .i64 (.lit (.ofNat 0)), .int .i64 (.var 1)] emptyH) (.bool true) = true := by decide +kernel
def hd_1 : List Nat := [102,117,110,99,32,109,97,105,110,40,41,32,123,10,115,32,58,61,32,34,97,98,34,10,102,111,114,32,105,32,58,61,32,48,59,32,105,32,60,32,49,59,32,105,43,43,32,123,10,115,32,43,61,32,115,10,125,10,102,111,114,32,105,32,58,61,32,48,59,32,105,32,60,32]
theorem law_N1 : okIs' (callF (mkE (knL (flN 4)) (funsL [([.str (srcS (.lit hd_1) tlQ), .nils], vNt)] manc)) 300 7 [.int .i64 (.lit (.ofNat 1)), .int .i64 (.var 1)] emptyH) (.bool true) = true := by decide +kernel
theorem law_O1 : okIs' (callF (mkE (knL (flO 4 65536)) (funsL [([.str (srcS (.lit hd_1) tlQ), .nils], vOt)] manc)) 300 7 [.int .i64 (.lit (.ofNat 1)), .int .i64 (.var 1)] emptyH) (.bool true) = true := by decide +kernel
def hd_2 : List Nat := [102,117,110,99,32,109,97,105,110,40,41,32,123,10,115,32,58,61,32,34,97,98,34,10,102,111,114,32,105,32,58,61,32,48,59,32,105,32,60,32,50,59,32,105,43,43,32,123,10,115,32,43,61,32,115,10,125,10,102,111,114,32,105,32,58,61,32,48,59,32,105,32,60,32]
theorem law_N2 : okIs' (callF (mkE (knL (flN 8)) (funsL [([.str (srcS (.lit hd_2) tlQ), .nils], vNt)] manc)) 300 7 [.int .i64 (.lit (.ofNat 2)), .int .i64 (.var 1)] emptyH) (.bool true) = true := by decide +kernel
theorem law_O2 : okIs' (callF (mkE (knL (flO 8 65536)) (funsL [([.str (srcS (.lit hd_2) tlQ), .nils], vOt)] manc)) 300 7 [.int .i64 (.lit (.ofNat 2)), .int .i64 (.var 1)] emptyH) (.bool true) = true := by decide +kernel
def hd_3 : List Nat := [102,117,110,99,32,109,97,105,110,40,41,32,123,10,115,32,58,61,32,34,97,98,34,10,102,111,114,32,105,32,58,61,32,48,59,32,105,32,60,32,51,59,32,105,43,43,32,123,10,115,32,43,61,32,115,10,125,10,102,111,114,32,105,32,58,61,32,48,59,32,105,32,60,32]
theorem law_N3 : okIs' (callF (mkE (knL (flN 16)) (funsL [([.str (srcS (.lit hd_3) tlQ), .nils], vNt)] manc)) 300 7 [.int .i64 (.lit (.ofNat 3)), .int .i64 (.var 1)] emptyH) (.bool true) = true := by decide +kernel
theorem law_O3 : okIs' (callF (mkE (knL (flO 16 65536)) (funsL [([.str (srcS (.lit hd_3) tlQ), .nils], vOt)] manc)) 300 7 [.int .i64 (.lit (.ofNat 3)), .int .i64 (.var 1)] emptyH) (.bool true) = true := by decide +kernel
def hd_4 : List Nat := [102,117,110,99,32,109,97,105,110,40,41,32,123,10,115,32,58,61,32,34,97,98,34,10,102,111,114,32,105,32,58,61,32,48,59,32,105,32,60,32,52,59,32,105,43,43,32,123,10,115,32,43,61,32,115,10,125,10,102,111,114,32,105,32,58,61,32,48,59,32,105,32,60,32]
theorem law_N4 : okIs' (callF (mkE (knL (flN 32)) (funsL [([.str (srcS (.lit hd_4) tlQ), .nils], vNt)] manc)) 300 7 [.int .i64 (.lit (.ofNat 4)), .int .i64 (.var 1)] emptyH) (.bool true) = true := by decide +kernel
theorem law_O4 : okIs' (callF (mkE (knL (flO 32 65536)) (funsL [([.str (srcS (.lit hd_4) tlQ), .nils], vOt)] manc)) 300 7 [.int .i64 (.lit (.ofNat 4)), .int .i64 (.var 1)] emptyH) (.bool true) = true := by decide +kernel
def hd_5 : List Nat := [102,117,110,99,32,109,97,105,110,40,41,32,123,10,115,32,58,61,32,34,97,98,34,10,102,111,114,32,105,32,58,61,32,48,59,32,105,32,60,32,53,59,32,105,43,43,32,123,10,115,32,43,61,32,115,10,125,10,102,111,114,32,105,32,58,61,32,48,59,32,105,32,60,32]
theorem law_N5 : okIs' (callF (mkE (knL (flN 64)) (funsL [([.str (srcS (.lit hd_5) tlQ), .nils], vNt)] manc)) 300 7 [.int .i64 (.lit (.ofNat 5)), .int .i64 (.var 1)] emptyH) (.bool true) = true := by decide +kernel
theorem law_O5 : okIs' (callF (mkE (knL (flO 64 65536)) (funsL [([.str (srcS (.lit hd_5) tlQ), .nils], vOt)] manc)) 300 7 [.int .i64 (.lit (.ofNat 5)), .int .i64 (.var 1)] emptyH) (.bool true) = true := by decide +kernel
def hd_6 : List Nat := [102,117,110,99,32,109,97,105,110,40,41,32,123,10,115,32,58,61,32,34,97,98,34,10,102,111,114,32,105,32,58,61,32,48,59,32,105,32,60,32,54,59,32,105,43,43,32,123,10,115,32,43,61,32,115,10,125,10,102,111,114,32,105,32,58,61,32,48,59,32,105,32,60,32]
theorem law_N6 : okIs' (callF (mkE (knL (flN 128)) (funsL [([.str (srcS (.lit hd_6) tlQ), .nils], vNt)] manc)) 300 7 [.int .i64 (.lit (.ofNat 6)), .int .i64 (.var 1)] emptyH) (.bool true) = true := by decide +kernel
theorem law_O6 : okIs' (callF (mkE (knL (flO 128 65536)) (funsL [([.str (srcS (.lit hd_6) tlQ), .nils], vOt)] manc)) 300 7 [.int .i64 (.lit (.ofNat 6)), .int .i64 (.var 1)] emptyH) (.bool true) = true := by decide +kernel
def hd_7 : List Nat := [102,117,110,99,32,109,97,105,110,40,41,32,123,10,115,32,58,61,32,34,97,98,34,10,102,111,114,32,105,32,58,61,32,48,59,32,105,32,60,32,55,59,32,105,43,43,32,123,10,115,32,43,61,32,115,10,125,10,102,111,114,32,105,32,58,61,32,48,59,32,105,32,60,32]
theorem law_N7 : okIs' (callF (mkE (knL (flN 256)) (funsL [([.str (srcS (.lit hd_7) tlQ), .nils], vNt)] manc)) 300 7 [.int .i64 (.lit (.ofNat 7)), .int .i64 (.var 1)] emptyH) (.bool true) = true := by decide +kernel
theorem law_O7 : okIs' (callF (mkE (knL (flO 256 65536)) (funsL [([.str (srcS (.lit hd_7) tlQ), .nils], vOt)] manc)) 300 7 [.int .i64 (.lit (.ofNat 7)), .int .i64 (.var 1)] emptyH) (.bool true) = true := by decide +kernel
def hd_8 : List Nat := [102,117,110,99,32,109,97,105,110,40,41,32,123,10,115,32,58,61,32,34,97,98,34,10,102,111,114,32,105,32,58,61,32,48,59,32,105,32,60,32,56,59,32,105,43,43,32,123,10,115,32,43,61,32,115,10,125,10,102,111,114,32,105,32,58,61,32,48,59,32,105,32,60,32]
theorem law_N8 : okIs' (callF (mkE (knL (flN 512)) (funsL [([.str (srcS (.lit hd_8) tlQ), .nils], vNt)] manc)) 300 7 [.int .i64 (.lit (.ofNat 8)), .int .i64 (.var 1)] emptyH) (.bool true) = true := by decide +kernel
theorem law_O8 : okIs' (callF (mkE (knL (flO 512 65536)) (funsL [([.str (srcS (.lit hd_8) tlQ), .nils], vOt)] manc)) 300 7 [.int .i64 (.lit (.ofNat 8)), .int .i64 (.var 1)] emptyH) (.bool true) = true := by decide +kernel
def hd_9 : List Nat := [102,117,110,99,32,109,97,105,110,40,41,32,123,10,115,32,58,61,32,34,97,98,34,10,102,111,114,32,105,32,58,61,32,48,59,32,105,32,60,32,57,59,32,105,43,43,32,123,10,115,32,43,61,32,115,10,125,10,102,111,114,32,105,32,58,61,32,48,59,32,105,32,60,32]
theorem law_N9 : okIs' (callF (mkE (knL (flN 1024)) (funsL [([.str (srcS (.lit hd_9) tlQ), .nils], vNt)] manc)) 300 7 [.int .i64 (.lit (.ofNat 9)), .int .i64 (.var 1)] emptyH) (.bool true) = true := by decide +kernel
theorem law_O9 : okIs' (callF (mkE (knL (flO 1024 65536)) (funsL [([.str (srcS (.lit hd_9) tlQ), .nils], vOt)] manc)) 300 7 [.int .i64 (.lit (.ofNat 9)), .int .i64 (.var 1)] emptyH) (.bool true) = true := by decide +kernel
def hd_10 : List Nat := [102,117,110,99,32,109,97,105,110,40,41,32,123,10,115,32,58,61,32,34,97,98,34,10,102,111,114,32,105,32,58,61,32,48,59,32,105,32,60,32,49,48,59,32,105,43,43,32,123,10,115,32,43,61,32,115,10,125,10,102,111,114,32,105,32,58,61,32,48,59,32,105,32,60,32]
theorem law_N10 : okIs' (callF (mkE (knL (flN 2048)) (funsL [([.str (srcS (.lit hd_10) tlQ), .nils], vNt)] manc)) 300 7 [.int .i64 (.lit (.ofNat 10)), .int .i64 (.var 1)] emptyH) (.bool true) = true := by decide +kernel
theorem law_O10 : okIs' (callF (mkE (knL (flO 2048 65536)) (funsL [([.str (srcS (.lit hd_10) tlQ), .nils], vOt)] manc)) 300 7 [.int .i64 (.lit (.ofNat 10)), .int .i64 (.var 1)] emptyH) (.bool true) = true := by decide +kernel
def hd_11 : List Nat := [102,117,110,99,32,109,97,105,110,40,41,32,123,10,115,32,58,61,32,34,97,98,34,10,102,111,114,32,105,32,58,61,32,48,59,32,105,32,60,32,49,49,59,32,105,43,43,32,123,10,115,32,43,61,32,115,10,125,10,102,111,114,32,105,32,58,61,32,48,59,32,105,32,60,32]
theorem law_N11 : okIs' (callF (mkE (knL (flN 4096)) (funsL [([.str (srcS (.lit hd_11) tlQ), .nils], vNt)] manc)) 300 7 [.int .i64 (.lit (.ofNat 11)), .int .i64 (.var 1)] emptyH) (.bool true) = true := by decide +kernel
theorem law_O11 : okIs' (callF (mkE (knL (flO 4096 65536)) (funsL [([.str (srcS (.lit hd_11) tlQ), .nils], vOt)] manc)) 300 7 [.int .i64 (.lit (.ofNat 11)), .int .i64 (.var 1)] emptyH) (.bool true) = true := by decide +kernel
def hd_12 : List Nat := [102,117,110,99,32,109,97,105,110,40,41,32,123,10,115,32,58,61,32,34,97,98,34,10,102,111,114,32,105,32,58,61,32,48,59,32,105,32,60,32,49,50,59,32,105,43,43,32,123,10,115,32,43,61,32,115,10,125,10,102,111,114,32,105,32,58,61,32,48,59,32,105,32,60,32]
theorem law_N12 : okIs' (callF (mkE (knL (flN 8192)) (funsL [([.str (srcS (.lit hd_12) tlQ), .nils], vNt)] manc)) 300 7 [.int .i64 (.lit (.ofNat 12)), .int .i64 (.var 1)] emptyH) (.bool true) = true := by decide +kernel
theorem law_O12 : okIs' (callF (mkE (knL (flO 8192 65536)) (funsL [([.str (srcS (.lit hd_12) tlQ), .nils], vOt)] manc)) 300 7 [.int .i64 (.lit (.ofNat 12)), .int .i64 (.var 1)] emptyH) (.bool true) = true := by decide +kernel
def hd_13 : List Nat := [102,117,110,99,32,109,97,105,110,40,41,32,123,10,115,32,58,61,32,34,97,98,34,10,102,111,114,32,105,32,58,61,32,48,59,32,105,32,60,32,49,51,59,32,105,43,43,32,123,10,115,32,43,61,32,115,10,125,10,102,111,114,32,105,32,58,61,32,48,59,32,105,32,60,32]
theorem law_N13 : okIs' (callF (mkE (knL (flN 16384)) (funsL [([.str (srcS (.lit hd_13) tlQ), .nils], vNt)] manc)) 300 7 [.int .i64 (.lit (.ofNat 13)), .int .i64 (.var 1)] emptyH) (.bool true) = true := by decide +kernel
theorem law_O13 : okIs' (callF (mkE (knL (flO 16384 65536)) (funsL [([.str (srcS (.lit hd_13) tlQ), .nils], vOt)] manc)) 300 7 [.int .i64 (.lit (.ofNat 13)), .int .i64 (.var 1)] emptyH) (.bool true) = true := by decide +kernel
end Ds.Text
end
set_option maxRecDepth 1000000
noncomputable section
namespace Ds.Text
open Go (IntKind Value World Addr Program)
theorem caseP (d n K : Nat) (hd : d ≤ 13) (hn : n = 2 ^ (d + 1)) (hK : K * n = 65536) (hK3 : 1 ≤ K) (_hK4 : K ≤ 32768) {hh : List Nat} (he : hP ++ (itoL d ++ mP) = hh)
    (lN : okIs' (callF (mkE (knL (flN n)) (funsL [([.str (srcS (.lit hh) tlQ), .nils], vNt)] manc)) 300 7 [.int .i64 (.lit (.ofNat d)), .int .i64 (.var 1)] emptyH) (.bool true) = true)
    (lO : okIs' (callF (mkE (knL (flO n 65536)) (funsL [([.str (srcS (.lit hh) tlQ), .nils], vOt)] manc)) 300 7 [.int .i64 (.lit (.ofNat d)), .int .i64 (.var 1)] emptyH) (.bool true) = true)
    (r : Nat) (hr : r ≤ 300) {w : World} {fx : Nat → Option Go.Obj} (hfx : FixTab fx) (hfw : ∀ b o, fx b = some o → w.heap[b]? = some o) (hw : 4 ≤ w.heap.size) :
    Go.Calls prog 7 #[.int .i64 d, .int .i64 r] w (fun e w' => e = .returned (.bool true) ∧ ∀ may, Go.World.keptBut w w' may) := by
  have hle : 2 ^ (d + 1) ≤ 2 ^ 14 := Nat.pow_le_pow_right (by decide) (by omega)
  have hnr : n * r ≤ 16384 * 300 := Nat.mul_le_mul (by omega) hr
  have hmul : IntKind.wrap .i64 ((n : Int) * (r : Int)) = ((n * r : Nat) : Int) := by
    rw [← Int.natCast_mul, wrap_id (by omega)]
  have hcm : n * r = r * n := Nat.mul_comm n r
  have hb : -9223372036854775808 ≤ (d : Int) ∧ (d : Int) ≤ 9223372036854775807 := by omega
  by_cases c : r * n ≤ 65536
  · have hlen : ((rep (dblS d) r).take 1000000).length = r * n := by rw [List.length_take, rep_len, dblS_len, ← hn]; omega
    refine leaf hfx hfw hw (valP_rng (O := rep (dblS d) r) hb (by omega)) (fl := flN n) ?_ (t_cons (toldLit (toldN hfx hd hr (by rw [← hn]; exact c)) rfl hb he) t_nil) lN (fun ρ => (.cons _ _ _ _ (.int .i64 (.lit (.ofNat d)) d trivial rfl) (.cons _ _ _ _ (.int .i64 (.var 1) r trivial rfl) .nil)))
    refine f_cons (decide_eq_false (show ¬ ((r : Int) < 0) by omega)) (f_cons (decide_eq_false (show ¬ ((300 : Int) < (r : Int)) by omega)) (f_cons (decide_eq_false (show ¬ ((65536 : Int) < IntKind.wrap .i64 ((n : Int) * (r : Int))) by rw [hmul]; omega)) (f_cons (decide_eq_true (show ((((rep (dblS d) r).take 1000000).length : Int) = IntKind.wrap .i64 ((n : Int) * (r : Int))) by rw [hmul, hlen]; omega)) f_nil)))
  · have hKr : K < r := by
      rcases Nat.lt_or_ge K r with h | h
      · exact h
      · exact absurd (Nat.le_trans (Nat.mul_le_mul_right n h) (Nat.le_of_eq hK)) c
    have hlen : ((rep (dblS d) K).take 1000000).length = 65536 := by rw [List.length_take, rep_len, dblS_len, ← hn]; omega
    have hs : (K + 1) * n = K * n + n := Nat.succ_mul K n
    have hn0 : 0 < n := by rw [hn]; exact Nat.two_pow_pos _
    refine leaf hfx hfw hw (valP_rng (O := rep (dblS d) K) hb (by omega)) (fl := flO n 65536) ?_ (t_cons (toldLit (toldO hfx hd hr hKr hK3 (by rw [← hn]; omega) (by rw [← hn]; omega)) rfl hb he) t_nil) lO (fun ρ => (.cons _ _ _ _ (.int .i64 (.lit (.ofNat d)) d trivial rfl) (.cons _ _ _ _ (.int .i64 (.var 1) r trivial rfl) .nil)))
    refine f_cons (decide_eq_false (show ¬ ((r : Int) < 0) by omega)) (f_cons (decide_eq_false (show ¬ ((300 : Int) < (r : Int)) by omega)) (f_cons (decide_eq_true (show ((65536 : Int) < IntKind.wrap .i64 ((n : Int) * (r : Int))) by rw [hmul]; omega)) (f_cons (decide_eq_true (show ((((rep (dblS d) K).take 1000000).length : Int) = 65536) by rw [hlen]; omega)) f_nil)))
theorem law_walk (a b : Int) (ha : -9223372036854775808 ≤ a ∧ a ≤ 9223372036854775807) (hb : -9223372036854775808 ≤ b ∧ b ≤ 9223372036854775807) (w : Go.World) (hw : 4 ≤ w.heap.size) (ht : Go.Lib.TabIs prog w "internal/strconv.uint64pow10" .u64 Go.Lib.pow10Tab) : Go.Calls prog 7 #[.int .i64 a, .int .i64 b] w (fun e w' => e = .returned (.bool true) ∧ ∀ may, Go.World.keptBut w w' may) := by
  obtain ⟨fx, hfx, hfw⟩ := fix_of_tab ht
  have hr := vals2_rng ha hb
  by_cases c0 : a < 0
  · exact leaf hfx hfw hw hr (fl := flX0) (memo := []) (f_cons (decide_eq_true (show (a < 0) by omega)) f_nil) t_nil law_X0 (fun ρ => (.cons _ _ _ _ (.int .i64 (.var 0) a trivial rfl) (.cons _ _ _ _ (.int .i64 (.var 1) b trivial rfl) .nil)))
  by_cases c1 : (13 : Int) < a
  · exact leaf hfx hfw hw hr (fl := flX1) (memo := []) (f_cons (decide_eq_false (show ¬ (a < 0) by omega)) (f_cons (decide_eq_true (show ((13 : Int) < a) by omega)) f_nil)) t_nil law_X1 (fun ρ => (.cons _ _ _ _ (.int .i64 (.var 0) a trivial rfl) (.cons _ _ _ _ (.int .i64 (.var 1) b trivial rfl) .nil)))
  by_cases c2 : b < 0
  · exact leaf hfx hfw hw hr (fl := flX2) (memo := []) (f_cons (decide_eq_false (show ¬ (a < 0) by omega)) (f_cons (decide_eq_false (show ¬ ((13 : Int) < a) by omega)) (f_cons (decide_eq_true (show (b < 0) by omega)) f_nil))) t_nil law_X2 (fun ρ => (.cons _ _ _ _ (.int .i64 (.var 0) a trivial rfl) (.cons _ _ _ _ (.int .i64 (.var 1) b trivial rfl) .nil)))
  by_cases c3 : (300 : Int) < b
  · exact leaf hfx hfw hw hr (fl := flX3) (memo := []) (f_cons (decide_eq_false (show ¬ (a < 0) by omega)) (f_cons (decide_eq_false (show ¬ ((13 : Int) < a) by omega)) (f_cons (decide_eq_false (show ¬ (b < 0) by omega)) (f_cons (decide_eq_true (show ((300 : Int) < b) by omega)) f_nil)))) t_nil law_X3 (fun ρ => (.cons _ _ _ _ (.int .i64 (.var 0) a trivial rfl) (.cons _ _ _ _ (.int .i64 (.var 1) b trivial rfl) .nil)))
  obtain ⟨r, rfl⟩ := Int.eq_ofNat_of_zero_le (show 0 ≤ b by omega)
  have hr3 : r ≤ 300 := by omega
  have hd : a = 0 ∨ a = 1 ∨ a = 2 ∨ a = 3 ∨ a = 4 ∨ a = 5 ∨ a = 6 ∨ a = 7 ∨ a = 8 ∨ a = 9 ∨ a = 10 ∨ a = 11 ∨ a = 12 ∨ a = 13 := by omega
  clear c0 c1 c2 c3 ha hb hr
  rcases hd with rfl | rfl | rfl | rfl | rfl | rfl | rfl | rfl | rfl | rfl | rfl | rfl | rfl | rfl
  · exact caseP 0 2 32768 (by decide) (by decide) (by decide) (by decide) (by decide) (hh := hd_0) (by decide +kernel) law_N0 law_O0 r hr3 hfx hfw hw
  · exact caseP 1 4 16384 (by decide) (by decide) (by decide) (by decide) (by decide) (hh := hd_1) (by decide +kernel) law_N1 law_O1 r hr3 hfx hfw hw
  · exact caseP 2 8 8192 (by decide) (by decide) (by decide) (by decide) (by decide) (hh := hd_2) (by decide +kernel) law_N2 law_O2 r hr3 hfx hfw hw
  · exact caseP 3 16 4096 (by decide) (by decide) (by decide) (by decide) (by decide) (hh := hd_3) (by decide +kernel) law_N3 law_O3 r hr3 hfx hfw hw
  · exact caseP 4 32 2048 (by decide) (by decide) (by decide) (by decide) (by decide) (hh := hd_4) (by decide +kernel) law_N4 law_O4 r hr3 hfx hfw hw
  · exact caseP 5 64 1024 (by decide) (by decide) (by decide) (by decide) (by decide) (hh := hd_5) (by decide +kernel) law_N5 law_O5 r hr3 hfx hfw hw
  · exact caseP 6 128 512 (by decide) (by decide) (by decide) (by decide) (by decide) (hh := hd_6) (by decide +kernel) law_N6 law_O6 r hr3 hfx hfw hw
  · exact caseP 7 256 256 (by decide) (by decide) (by decide) (by decide) (by decide) (hh := hd_7) (by decide +kernel) law_N7 law_O7 r hr3 hfx hfw hw
  · exact caseP 8 512 128 (by decide) (by decide) (by decide) (by decide) (by decide) (hh := hd_8) (by decide +kernel) law_N8 law_O8 r hr3 hfx hfw hw
  · exact caseP 9 1024 64 (by decide) (by decide) (by decide) (by decide) (by decide) (hh := hd_9) (by decide +kernel) law_N9 law_O9 r hr3 hfx hfw hw
  · exact caseP 10 2048 32 (by decide) (by decide) (by decide) (by decide) (by decide) (hh := hd_10) (by decide +kernel) law_N10 law_O10 r hr3 hfx hfw hw
  · exact caseP 11 4096 16 (by decide) (by decide) (by decide) (by decide) (by decide) (hh := hd_11) (by decide +kernel) law_N11 law_O11 r hr3 hfx hfw hw
  · exact caseP 12 8192 8 (by decide) (by decide) (by decide) (by decide) (by decide) (hh := hd_12) (by decide +kernel) law_N12 law_O12 r hr3 hfx hfw hw
  · exact caseP 13 16384 4 (by decide) (by decide) (by decide) (by decide) (by decide) (hh := hd_13) (by decide +kernel) law_N13 law_O13 r hr3 hfx hfw hw
end Ds.Text
end
