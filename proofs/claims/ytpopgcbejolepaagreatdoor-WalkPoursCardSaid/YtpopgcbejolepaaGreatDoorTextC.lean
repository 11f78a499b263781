/- The deterministic evaluator D and what is proved with it, part TextC of the claim on YtpopgcbejolepaaGreatDoor. -/
import Derived.Test.YtpopgcbejolepaaGreatDoorCoreA
import Derived.Test.YtpopgcbejolepaaGreatDoorCoreD
import Derived.Test.YtpopgcbejolepaaGreatDoorTextA
import Derived.Test.YtpopgcbejolepaaGreatDoorTextB
set_option maxRecDepth 10000
namespace Ds
open Go (IntKind Value World Addr MapEntry Program Sem Result Operand TypeId)
open Ds.Text
def preL : List Nat → List Nat → Bool
  | [], _ => true
  | _ :: _, [] => false
  | a :: l, b :: m => match Nat.beq a b with | true => preL l m | false => false
def inL (p : List Nat) : List Nat → Bool
  | [] => preL p []
  | c :: l => match preL p (c :: l) with | true => true | false => inL p l
theorem preL_eq : ∀ (p l : List Nat), preL p l = (lbeq (l.take p.length) p && decide (p.length ≤ l.length))
  | [], l => by simp [preL, lbeq]
  | a :: p, [] => by simp [preL, lbeq]
  | a :: p, b :: l => by
    simp only [preL, List.length_cons, List.take_succ_cons, lbeq]
    rw [preL_eq p l]
    have : Nat.beq a b = Nat.beq b a := by
      cases h : Nat.beq b a with
      | true => rw [nbeq.1 h]; exact Nat.beq_refl _
      | false => cases h2 : Nat.beq a b with
        | true => rw [nbeq.1 h2] at h; rw [Nat.beq_refl] at h; cases h
        | false => rfl
    rw [this]
    cases Nat.beq b a <;> simp
def inF (as : List AV) : Option AV := match as with
  | [.str (.lit a), .str (.lit b)] => match Nat.ble (Nat.add a.length b.length) 90000 with
    | true => (match a with
      | [] => some (.bool false)
      | _ :: _ => some (.bool (inL (32 :: (a ++ [32])) b)))
    | false => none
  | _ => none
noncomputable def inHead : Code := .reg [.q p10 (.mv q6),.q p11 (.mv q5),.q p12 (.lens q11),.q p13 (.ari .add q10 q12),.q p14 (.mv q1),.q p15 (.lens q14),.q p16 (.cmp .le q13 q15)]
noncomputable def inMid : Code := .reg [.q p19 (.mv q0),.q p20 (.eq true true .text q19 (.c (S []))),.q p21 (.mv q20),.g p21 true (.q p22 (.mv q1)),.g p21 true (.q p23 (.mv q6)),.g p21 true (.q p24 (.mv q6)),.g p21 true (.q p25 (.mv q5)),.g p21 true (.q p26 (.lens q25)),.g p21 true (.q p27 (.ari .add q24 q26)),.g p21 true (.q p28 (.sls q22 (some q23) (some q27))),.g p21 true (.q p29 (.mv q5)),.g p21 true (.q p30 (.eq false false .text q28 q29)),.q p31 (.pick q21 q30 (.c (.bool false)))]
noncomputable def inNext : Code := .reg [.q p17 (.mv q6),.q p18 (.ari .add q17 (.c (I 1))),.q p6 (.mv q18)]
noncomputable def inBody : Code := .seq (.seq inHead (.cond q16 (.skip) (.exit 0))) (.seq (.block 1 (.seq inMid (.cond q31 (.seq (.reg [.q p4 (.mv (.c (.bool true)))]) (.ret)) (.skip)))) inNext)
theorem f52_eq : f52 = .code [.t p4] (.seq (.reg [.q p4 (.mv (.c (.bool false)))])
 (.seq (.reg [.q p7 (.mv q0),.q p8 (.cat (.c (S [32])) q7),.q p9 (.cat q8 (.c (S [32]))),.q p5 (.mv q9)])
 (.seq (.seq (.reg [.q p6 (.mv (.c (I 0)))]) (.block 0 (.loop inBody)))
 (.seq (.reg [.q p4 (.mv (.c (.bool false)))])
 (.ret))))) := rfl
structure InInv (a P b : List Nat) (t : T3 AV) (i : Nat) : Prop where
  w : get3 t p0 = S a
  s : get3 t p1 = S b
  p : get3 t p5 = S P
  n : get3 t p6 = I i
section
variable {E : Env} {call : CallF} {a P b : List Nat} {t : T3 AV} {h : Hp} {i : Nat}
theorem wrapF_small {n : Nat} (hn : n ≤ 9223372036854775807) : wrapF .i64 (Int.ofNat n) = Int.ofNat n := by
  simp [wrapF, Nat.ble_eq_true_of_le hn]
theorem in_head (I' : InInv a P b t i) (hb : i + P.length ≤ 1000000) : ∃ t', Code.ev E call inHead t h = .normal t' h ∧ InInv a P b t' i ∧ get3 t' p16 = .bool (decide (i + P.length ≤ b.length)) := by
  obtain ⟨h0, h1, h5, h6⟩ := I'
  simp only [p0, p1, p5, p6, p16] at h0 h1 h5 h6 ⊢
  have e1 : (Int.ofNat i + Int.ofNat P.length) = Int.ofNat (i + P.length) := rfl
  have e2 : wrapF .i64 (Int.ofNat (i + P.length)) = Int.ofNat (i + P.length) := wrapF_small (by omega)
  have hb1 : IntKind.beq .i64 .i64 = true := rfl
  refine ⟨_, by
    simp only [inHead, Code.ev, ops, Op.ev, Ds.Q.ev, Opn.ev, q6, q5, q11, q10, q12, q1, q14, q13, q15, get3_set3, p1, p5, p6, p10, p11, p12, p13, p14, p15, p16, P3.mk.injEq, reduceCtorEq, and_false, if_false, if_true, and_self,
      h1, h5, h6, S, I, qLens, lenS, qAri, ari, qCmp, cmpI, hb1, decLtI, ilt, Option.map]
    rfl, ⟨?_, ?_, ?_, ?_⟩, ?_⟩ <;> simp only [get3_set3, p0, p1, p5, p6, P3.mk.injEq, reduceCtorEq, and_false, false_and, if_false, if_true, and_self, h0, h1, h5, h6]
  have e3 : iari .add .i64 (Int.ofNat i) (Int.ofNat P.length) = Int.ofNat (i + P.length) := e2
  rw [e3]
  show AV.bool (!(Nat.ble (Nat.succ b.length) (i + P.length))) = _
  congr 1
  by_cases c : i + P.length ≤ b.length
  · rw [decide_eq_true c]
    cases hx : Nat.ble (Nat.succ b.length) (i + P.length) with
    | false => rfl
    | true => have := Nat.le_of_ble_eq_true hx; omega
  · rw [decide_eq_false c, Nat.ble_eq_true_of_le (by omega)]; rfl
def midB (a P b : List Nat) (i : Nat) : Bool := match a with | [] => false | _ :: _ => lbeq ((b.drop i).take P.length) P
theorem in_mid (I' : InInv a P b t i) (hb : i + P.length ≤ b.length) (hb2 : b.length ≤ 1000000) :
    ∃ t', Code.ev E call inMid t h = .normal t' h ∧ InInv a P b t' i ∧ get3 t' p31 = .bool (midB a P b i) := by
  obtain ⟨h0, h1, h5, h6⟩ := I'
  simp only [p0, p1, p5, p6, p31] at h0 h1 h5 h6 ⊢
  have e2 : iari .add .i64 (Int.ofNat i) (Int.ofNat P.length) = Int.ofNat (i + P.length) := wrapF_small (by omega)
  have hb1 : IntKind.beq .i64 .i64 = true := rfl
  have c1 : Nat.ble i (i + P.length) = true := Nat.ble_eq_true_of_le (by omega)
  have c2 : Nat.ble (i + P.length) b.length = true := Nat.ble_eq_true_of_le hb
  have c3 : i + P.length - i = P.length := by omega
  unfold midB
  cases a with
  | nil =>
    refine ⟨_, by
      simp only [inMid, Code.ev, ops, Op.ev, Op.skip, Ds.Q.ev, Opn.ev, q0, q1, q5, q6, q19, q20, q21, q22, q23, q24, q25, q26, q27, q28, q29, q30, get3_set3, p0, p1, p5, p6, p19, p20, p21, p22, p23, p24, p25, p26, p27, p28, p29, p30, p31, P3.mk.injEq, reduceCtorEq, and_false, if_false, if_true, and_self,
        h0, h1, S, qEq, eqTg, eqText, decEqS, lbeq, qNeg1, Bool.not_true, qPick]
      rfl, ⟨?_, ?_, ?_, ?_⟩, ?_⟩ <;> simp only [get3_set3, p0, p1, p5, p6, P3.mk.injEq, reduceCtorEq, and_false, false_and, if_false, if_true, and_self, h0, h1, h5, h6]
  | cons x a =>
    refine ⟨_, by
      simp only [inMid, Code.ev, ops, Op.ev, Ds.Q.ev, Opn.ev, q0, q1, q5, q6, q19, q20, q21, q22, q23, q24, q25, q26, q27, q28, q29, q30, get3_set3, p0, p1, p5, p6, p19, p20, p21, p22, p23, p24, p25, p26, p27, p28, p29, p30, p31, P3.mk.injEq, reduceCtorEq, and_false, false_and, if_false, if_true, and_self,
        h0, h1, h5, h6, S, I, qEq, eqTg, eqText, decEqS, lbeq, qNeg1, Bool.not_false, beq_self_eq_true, qPick, qLens, lenS, qAri, ari, ariS, hb1, e2, qSls, optNat, AV.nat?, c1, c2, c3, orV]
      rfl, ⟨?_, ?_, ?_, ?_⟩, ?_⟩ <;> simp only [get3_set3, p0, p1, p5, p6, P3.mk.injEq, reduceCtorEq, and_false, false_and, if_false, if_true, and_self, h0, h1, h5, h6]
    rw [takeL_eq, dropL_eq]
theorem in_next (I' : InInv a P b t i) (hb : i ≤ 1000000) : ∃ t', Code.ev E call inNext t h = .normal t' h ∧ InInv a P b t' (i + 1) := by
  obtain ⟨h0, h1, h5, h6⟩ := I'
  simp only [p0, p1, p5, p6] at h0 h1 h5 h6
  have e2 : iari .add .i64 (Int.ofNat i) (Int.ofNat 1) = Int.ofNat (i + 1) := wrapF_small (by omega)
  have hb1 : IntKind.beq .i64 .i64 = true := rfl
  refine ⟨_, by
    simp only [inNext, Code.ev, ops, Op.ev, Ds.Q.ev, Opn.ev, q6, q17, q18, get3_set3, p6, p17, p18, P3.mk.injEq, reduceCtorEq, and_false, if_false, if_true, h6, I, qAri, ari, ariS, hb1, e2]
    rfl, ⟨?_, ?_, ?_, ?_⟩⟩ <;> simp only [get3_set3, p0, p1, p5, p6, P3.mk.injEq, reduceCtorEq, and_false, false_and, if_false, if_true, and_self, h0, h1, h5, h6, I]
def fromL (a P b : List Nat) (i : Nat) : Bool := match a with
  | [] => false
  | _ :: _ => inL P (b.drop i)
theorem inL_short : ∀ {P l : List Nat}, l.length < P.length → inL P l = false
  | [], _, h => by simp at h
  | x :: P, [], _ => rfl
  | x :: P, c :: l, h => by
    simp only [inL, preL_eq]
    rw [decide_eq_false (by omega), Bool.and_false]
    exact inL_short (by simp at h ⊢; omega)
theorem inL_step {P b : List Nat} {i : Nat} (h0 : 0 < P.length) (h : i + P.length ≤ b.length) : inL P (b.drop i) = (lbeq ((b.drop i).take P.length) P || inL P (b.drop (i + 1))) := by
  have hi : i < b.length := by omega
  rw [List.drop_eq_getElem_cons hi]
  simp only [inL, preL_eq]
  rw [decide_eq_true (by simp; omega), Bool.and_true]
  cases lbeq (List.take P.length (b[i] :: List.drop (i + 1) b)) P <;> rfl
theorem in_loop (hP : 0 < P.length) (hb : b.length ≤ 1000000) (hPl : P.length ≤ 1000000) : ∀ (n : Nat) (i : Nat) (t : T3 AV), InInv a P b t i → i ≤ b.length + 1 → b.length + 2 ≤ i + n → b.length + P.length ≤ 999990 →
    (fromL a P b i = true ∧ ∃ t', loopN (Code.ev E call inBody) n t h = .ret t' h ∧ get3 t' p4 = .bool true) ∨ (fromL a P b i = false ∧ ∃ t', loopN (Code.ev E call inBody) n t h = .exit 0 t' h)
  | 0, i, t, I', hi, hn, hs => by omega
  | n + 1, i, t, I', hi, hn, hs => by
    obtain ⟨t1, e1, I1, g1⟩ := in_head (E := E) (call := call) (h := h) I' (by omega)
    by_cases c : i + P.length ≤ b.length
    · rw [decide_eq_true c] at g1
      obtain ⟨t2, e2, I2, g2⟩ := in_mid (E := E) (call := call) (h := h) I1 c hb
      generalize hv : midB a P b i = v at g2
      cases v with
      | true =>
        refine .inl ⟨?_, set3 t2 p4 (.bool true), ?_, by rw [get3_set3, if_pos rfl]⟩
        · unfold fromL
          cases a with
          | nil => simp [midB] at hv
          | cons x a => simp only [midB] at hv ⊢; rw [inL_step hP c, hv, Bool.true_or]
        · simp only [loopN, inBody, Code.ev, e1, Opn.ev, q16, g1, e2, q31, g2, ops, Op.ev, Ds.Q.ev]
      | false =>
        obtain ⟨t3, e3, I3⟩ := in_next (E := E) (call := call) (h := h) I2 (by omega)
        have hstep : fromL a P b i = fromL a P b (i + 1) := by
          unfold fromL
          cases a with
          | nil => rfl
          | cons x a => simp only [midB] at hv ⊢; rw [inL_step hP c, hv, Bool.false_or]
        have hl : loopN (Code.ev E call inBody) (n + 1) t h = loopN (Code.ev E call inBody) n t3 h := by
          simp only [loopN, inBody, Code.ev, e1, Opn.ev, q16, g1, e2, q31, g2, e3]
        rw [hl, hstep]
        exact in_loop hP hb hPl n (i + 1) t3 I3 (by omega) (by omega) hs
    · rw [decide_eq_false c] at g1
      refine .inr ⟨?_, t1, ?_⟩
      · unfold fromL
        cases a with
        | nil => rfl
        | cons x a => exact inL_short (by simp; omega)
      · simp only [loopN, inBody, Code.ev] at e1 ⊢
        simp only [e1, Opn.ev, q16, g1]
theorem ev_seq {x y : Code} {t1 : T3 AV} {h1 : Hp} (e : Code.ev E call x t h = .normal t1 h1) : Code.ev E call (.seq x y) t h = Code.ev E call y t1 h1 := by
  simp only [Code.ev, e]
theorem ev_seq' {x y : Code} : Code.ev E call (.seq x y) t h = (match Code.ev E call x t h with | .normal t' h' => Code.ev E call y t' h' | r => r) := rfl
theorem in_call {f : Nat} (hf : get3 E.funs (P3.ofNat f) = f52) (hlt : f < 512) (hs : a.length + b.length ≤ 90000) (n : Nat) (h : Hp) :
    callN E (n + 1) f [S a, S b] h = .ok (.bool (fromL a (32 :: (a ++ [32])) b 0)) h := by
  have hb1 : (Nat.ble 512 f || Nat.ble 512 [S a, S b].length) = false := by
    have : Nat.ble 512 f = false := by
      cases hx : Nat.ble 512 f with
      | false => rfl
      | true => have := Nat.le_of_ble_eq_true hx; omega
    rw [this]; rfl
  have hP : (32 :: (a ++ [32])).length = a.length + 2 := by simp
  have pre : ∃ t0, Code.ev E (callN E n) (.reg [.q p4 (.mv (.c (.bool false)))]) (enterL anym 0 [S a, S b]) h = .normal t0 h ∧ get3 t0 p0 = S a ∧ get3 t0 p1 = S b := by
    have z0 : P3.ofNat 0 = p0 := rfl
    have z1 : P3.ofNat (Nat.succ 0) = p1 := rfl
    refine ⟨_, by simp only [Code.ev, ops, Op.ev, Ds.Q.ev, Opn.ev]; rfl, ?_, ?_⟩ <;>
      simp only [enterL, z0, z1, get3_set3, p0, p1, p4, P3.mk.injEq, reduceCtorEq, and_false, if_false, if_true]
  obtain ⟨t0, e0, w0, w1⟩ := pre
  have m1 : Nat.ble (Nat.add ([32] : List Nat).length a.length) maxText = true := Nat.ble_eq_true_of_le (by show 1 + a.length ≤ 4611686018427387904; omega)
  have m2 : Nat.ble (Nat.add ([32] ++ a).length ([32] : List Nat).length) maxText = true := Nat.ble_eq_true_of_le (by show ([32] ++ a).length + 1 ≤ 4611686018427387904; simp; omega)
  have pre2 : ∃ t1, Code.ev E (callN E n) (.reg [.q p7 (.mv q0),.q p8 (.cat (.c (S [32])) q7),.q p9 (.cat q8 (.c (S [32]))),.q p5 (.mv q9)]) t0 h = .normal t1 h ∧ get3 t1 p0 = S a ∧ get3 t1 p1 = S b ∧ get3 t1 p5 = S (32 :: (a ++ [32])) := by
    simp only [p0, p1, p5] at w0 w1 ⊢
    refine ⟨_, by
      simp only [Code.ev, ops, Op.ev, Ds.Q.ev, Opn.ev, q0, q7, q8, q9, get3_set3, p0, p7, p8, p9, P3.mk.injEq, reduceCtorEq, and_false, if_false, if_true, and_self, w0, S, qCat, SS.ub, m1, m2, SS.app]
      rfl, ?_, ?_, ?_⟩ <;> simp only [get3_set3, P3.mk.injEq, reduceCtorEq, and_false, false_and, if_false, if_true, and_self, w0, w1, S, List.cons_append, List.nil_append]
  obtain ⟨t1, e1, v0, v1, v5⟩ := pre2
  have pre3 : ∃ t2, Code.ev E (callN E n) (.reg [.q p6 (.mv (.c (I 0)))]) t1 h = .normal t2 h ∧ InInv a (32 :: (a ++ [32])) b t2 0 := by
    simp only [p0, p1, p5] at v0 v1 v5
    refine ⟨_, by simp only [Code.ev, ops, Op.ev, Ds.Q.ev, Opn.ev]; rfl, ⟨?_, ?_, ?_, ?_⟩⟩ <;>
      simp only [get3_set3, p0, p1, p5, p6, P3.mk.injEq, reduceCtorEq, and_false, if_false, if_true, v0, v1, v5]
  obtain ⟨t2, e2, I2⟩ := pre3
  have hl := in_loop (E := E) (call := callN E n) (h := h) (P := 32 :: (a ++ [32])) (by simp) (by omega) (by omega) maxRounds 0 t2 I2 (by omega) (by show b.length + 2 ≤ 0 + 100000; omega) (by omega)
  simp only [callN, hb1, hf, f52_eq]
  generalize hc : Code.ev E (callN E n) _ (enterL anym 0 [S a, S b]) h = r
  rw [ev_seq e0, ev_seq e1, ev_seq'] at hc
  have hloop : Code.ev E (callN E n) (.seq (.reg [.q p6 (.mv (.c (I 0)))]) (.block 0 (.loop inBody))) t1 h = (match loopN (Code.ev E (callN E n) inBody) maxRounds t2 h with
    | .exit j t' h' => match Nat.beq j 0 with | true => .normal t' h' | false => .exit j t' h'
    | r => r) := by
    rw [ev_seq e2]
    rfl
  rw [hloop] at hc
  rcases hl with ⟨hf1, t', hr, h4⟩ | ⟨hf1, t', hr⟩
  · rw [hr] at hc
    simp only [] at hc
    subst hc
    simp only [finish, rvs, rvOne, h4, hf1]
  · rw [hr] at hc
    simp only [Code.ev, ops, Op.ev, Ds.Q.ev, Opn.ev] at hc
    subst hc
    simp only [finish, rvs, rvOne, get3_set3, if_true, hf1]
end
theorem in_told {P : Program} {X : Cx} {E E1 : Env} {names : List String} {f n : Nat} (hf : get3 E1.funs (P3.ofNat f) = f52) (hlt : f < 512) (hcall : CallOk P X (callN E1 (n + 1))) : FunOk P X E names f (.told inF) := by
  intro pd ρ H w as vs v hG hH hv hm
  have key : ∀ a b : List Nat, as = [.str (.lit a), .str (.lit b)] → a.length + b.length ≤ 90000 → v = .bool (fromL a (32 :: (a ++ [32])) b 0) → callN E1 (n + 1) f as H = .ok v H := by
    rintro a b rfl h1 rfl
    exact in_call hf hlt h1 n H
  unfold inF at hm
  split at hm
  · rename_i a b
    split at hm
    · rename_i hb
      have hb := Nat.le_of_ble_eq_true hb
      cases a with
      | nil =>
        simp only [Option.some.injEq] at hm
        exact hcall pd ρ H w f _ vs v H hG hH hv (key [] b rfl hb hm.symm)
      | cons x a' =>
        simp only [Option.some.injEq] at hm
        exact hcall pd ρ H w f _ vs v H hG hH hv (key (x :: a') b rfl hb (by rw [← hm]; rfl))
    · cases hm
  · cases hm
noncomputable def preQ : List Nat → List Nat → Bool := fun p => List.rec (motive := fun _ => List Nat → Bool) (fun _ => true) (fun a _ ih l => List.rec (motive := fun _ => (List Nat → Bool) → Nat → Bool) (fun _ _ => false) (fun b m _ ih a => Bool.rec (motive := fun _ => Bool) false (ih m) (Nat.beq a b)) l ih a) p
noncomputable def orQ : Bool → Bool → Bool := fun a => Bool.rec (motive := fun _ => Bool → Bool) (fun b => b) (fun _ => true) a
noncomputable def inQ : List Nat → List Nat → Bool := fun l => List.rec (motive := fun _ => List Nat → Bool) (fun p => preQ p []) (fun c l ih p => orQ (preQ p (c :: l)) (ih p)) l
theorem preQ_eq : ∀ p l, preQ p l = preL p l
  | [], l => by cases l <;> rfl
  | _ :: _, [] => rfl
  | a :: p, b :: l => by
    show Bool.rec (motive := fun _ => Bool) false (preQ p l) (Nat.beq a b) = _
    rw [preQ_eq p l]
    show _ = (match Nat.beq a b with | true => preL p l | false => false)
    cases Nat.beq a b <;> rfl
theorem inQ_eq (p : List Nat) : ∀ l, inQ l p = inL p l
  | [] => preQ_eq p []
  | c :: l => by
    show orQ (preQ p (c :: l)) (inQ l p) = _
    rw [preQ_eq, inQ_eq p l]
    show _ = (match preL p (c :: l) with | true => true | false => inL p l)
    cases preL p (c :: l) <;> rfl
noncomputable def inG (xs : List AV) : Option AV := match xs with
  | [.str (.lit a), .str (.lit b)] => match Nat.ble (Nat.add a.length b.length) 90000 with
    | true => (match a with
      | [] => some (.bool false)
      | _ :: _ => some (.bool (inQ b (32 :: (a ++ [32])))))
    | false => none
  | _ => none
theorem inG_eq : inG = inF := by
  funext xs
  unfold inG inF
  simp only [inQ_eq]
end Ds
set_option maxRecDepth 10000
namespace Ds
open Go (IntKind Value World Addr MapEntry Program Sem Result Operand TypeId)
open Ds.Text
theorem told_ok' {P : Program} {X : Cx} {E : Env} {names : List String} {call : CallF} (hcall : CallOk P X call) {f : Nat} {g : List AV → Option AV}
    (h : ∀ xs v, g xs = some v → AV.frees xs = true ∧ AV.free v = true ∧ ∃ H1, call f xs emptyH = .ok v H1) : FunOk P X E names f (.told g) := by
  intro pd ρ H w xs vs v hG hH hv hm
  obtain ⟨h1, h2, H1, h3⟩ := h xs v hm
  have hG' : GR P (fun id => if id.num < 64 then ρ id else none) := by
    intro g hg hg64
    obtain ⟨C, e⟩ := hG g hg hg64
    refine ⟨C, ?_⟩
    have : (P5.ofNat g).num < 64 := by rw [P5.num_ofNat (by omega)]; exact hg64
    simp only [this, if_true, e]
  obtain ⟨hf, hC⟩ := hcall _ _ emptyH w f xs vs v H1 hG' (HR.empty hH.below (fun b o e => (hH.fixd b o e).1)) (hv.free h1) h3
  refine ⟨hf, hC.mono (fun e w' he => ?_)⟩
  obtain ⟨ρ', v', rfl, hs, hr⟩ := he
  have keep : ∀ b, b < w.heap.size → w'.heap[b]? = w.heap[b]? := fun b hb => hs.fr.keeps b hb (fun id hl => absurd (emptyH_get id) hl)
  refine ⟨ρ, v', rfl, Stp.of hH (Rho.le_refl _) ⟨fun id => ObjR.keep (Rho.le_refl _) (fun B e => keep B (blk_lt hH e)) (hH.obj id), hH.inj, hH.fresh, fun id B base C e => Nat.lt_of_lt_of_le (hH.below id B base C e) hs.fr.size, fun id hp => ?_⟩
    ⟨fun b hb _ => keep b hb, hs.fr.size, hs.fr.os, hs.fr.output, hs.fr.tape, fun id B hl e => .inr ⟨id, hl, e⟩, Nat.le_refl _, fun _ _ => rfl⟩, hr.free h2⟩
  obtain ⟨B, base, C, e, hm', hno, hnl, hu⟩ := hH.pend id hp
  exact ⟨B, base, C, e, by rw [keep B (hH.below id B base C e)]; exact hm', hno, hnl, hu⟩
section
variable {E : Env} {h : Hp} {a b : List Nat}
theorem pre_call {f : Nat} (hf : get3 E.funs (P3.ofNat f) = f105) (hlt : f < 512) (n : Nat) : callN E (n + 1) f [S a, S b] h = .ok (.bool (preL b a)) h := by
  have hb1 : (Nat.ble 512 f || Nat.ble 512 [AV.str (.lit a), AV.str (.lit b)].length) = false := by
    have : Nat.ble 512 f = false := by
      cases hx : Nat.ble 512 f with
      | false => rfl
      | true => have := Nat.le_of_ble_eq_true hx; omega
    rw [this]; rfl
  have z0 : P3.ofNat 0 = p0 := rfl
  have z1 : P3.ofNat (Nat.succ 0) = p1 := rfl
  have hk : IntKind.beq .i64 .i64 = true := rfl
  rw [preL_eq]
  by_cases c : b.length ≤ a.length
  · have c1 : Nat.ble (Nat.succ a.length) b.length = false := by
      cases hx : Nat.ble (Nat.succ a.length) b.length with
      | false => rfl
      | true => have := Nat.le_of_ble_eq_true hx; omega
    have c2 : Nat.ble b.length a.length = true := Nat.ble_eq_true_of_le c
    have c4 : Nat.ble 0 b.length = true := Nat.ble_eq_true_of_le (Nat.zero_le _)
    rw [decide_eq_true c, Bool.and_true]
    simp only [callN, hb1, hf, f105, Code.ev, ops, Op.ev, Ds.Q.ev, Opn.ev, enterL, z0, z1, q0, q1, q5, q6, q7, q8, q9, q10, q11, q12, q13, q14, q15, q16, q17, get3_set3, p0, p1, p4, p5, p6, p7, p8, p9, p10, p11, p12, p13, p14, p15, p16, p17, P3.mk.injEq, reduceCtorEq, and_false, false_and, if_false, if_true, and_self,
      S, qLens, lenS, qCmp, cmpI, hk, decLtI, ilt, c1, Option.map, Bool.not_false, beq_self_eq_true, qSls, optNat, AV.nat?, c4, c2, orV, qEq, eqTg, eqText, decEqS, qNeg1, qPick, finish, rvs, rvOne, takeL_eq, dropL_eq, List.drop_zero, Nat.sub_zero]
  · have c1 : Nat.ble (Nat.succ a.length) b.length = true := Nat.ble_eq_true_of_le (by omega)
    rw [decide_eq_false c, Bool.and_false]
    have bf : (false == true) = false := rfl
    simp only [callN, hb1, hf, f105, Code.ev, ops, Op.ev, Op.skip, Ds.Q.ev, Opn.ev, enterL, z0, z1, q0, q1, q5, q6, q7, q8, q9, q10, q11, q12, q13, q14, q15, q16, q17, get3_set3, p0, p1, p4, p5, p6, p7, p8, p9, p10, p11, p12, p13, p14, p15, p16, p17, P3.mk.injEq, reduceCtorEq, and_false, false_and, if_false, if_true, and_self,
      S, qLens, lenS, qCmp, cmpI, hk, decLtI, ilt, c1, Option.map, Bool.not_true, bf, qPick, finish, rvs, rvOne]
theorem spre_call {f : Nat} (hf : get3 E.funs (P3.ofNat f) = f75) (hlt : f < 512) (hg : get3 E.funs (P3.ofNat 105) = f105) (n : Nat) : callN E (n + 2) f [S a, S b] h = .ok (.bool (preL b a)) h := by
  have hb1 : (Nat.ble 512 f || Nat.ble 512 [AV.str (.lit a), AV.str (.lit b)].length) = false := by
    have : Nat.ble 512 f = false := by
      cases hx : Nat.ble 512 f with
      | false => rfl
      | true => have := Nat.le_of_ble_eq_true hx; omega
    rw [this]; rfl
  have z0 : P3.ofNat 0 = p0 := rfl
  have z1 : P3.ofNat (Nat.succ 0) = p1 := rfl
  have hc := pre_call (E := E) (h := h) (a := a) (b := b) hg (by decide) n
  simp only [S] at hc
  rw [show n + 2 = (n + 1) + 1 from rfl]
  generalize hm : n + 1 = m at hc
  simp only [callN, hb1, hf, f75, Code.ev, ops, Op.ev, Ds.Q.ev, Opn.ev, kArgs, evs, enterL, z0, z1, q0, q1, q5, q6, q7, get3_set3, p0, p1, p4, p5, p6, p7, P3.mk.injEq, reduceCtorEq, and_false, if_false, if_true,
    S, hc, putO, finish, rvs, rvOne]
end
noncomputable def preG (xs : List AV) : Option AV := match xs with
  | [.str (.lit a), .str (.lit b)] => some (.bool (preQ b a))
  | _ => none
theorem pre_told {P : Program} {X : Cx} {E E1 : Env} {names : List String} {f n : Nat} (hf : get3 E1.funs (P3.ofNat f) = f105) (hlt : f < 512) (hcall : CallOk P X (callN E1 (n + 1))) : FunOk P X E names f (.told preG) := by
  intro pd ρ H w xs vs v hG hH hv hm
  unfold preG at hm
  split at hm
  · simp only [Option.some.injEq] at hm
    refine hcall pd ρ H w f _ vs v H hG hH hv ?_
    rw [← hm, preQ_eq]
    exact pre_call hf hlt n
  · cases hm
theorem spre_told {P : Program} {X : Cx} {E E1 : Env} {names : List String} {f n : Nat} (hf : get3 E1.funs (P3.ofNat f) = f75) (hlt : f < 512) (hg : get3 E1.funs (P3.ofNat 105) = f105) (hcall : CallOk P X (callN E1 (n + 2))) : FunOk P X E names f (.told preG) := by
  intro pd ρ H w xs vs v hG hH hv hm
  unfold preG at hm
  split at hm
  · simp only [Option.some.injEq] at hm
    refine hcall pd ρ H w f _ vs v H hG hH hv ?_
    rw [← hm, preQ_eq]
    exact spre_call hf hlt hg n
  · cases hm
noncomputable def letB (c : Nat) : Bool := or (and (Nat.ble 97 c) (Nat.ble c 122)) (or (and (Nat.ble 65 c) (Nat.ble c 90)) (Nat.beq c 95))
noncomputable def letG (xs : List AV) : Option AV := match xs with
  | [.int .u8 (.lit (.ofNat c))] => (match Nat.ble c 255 with | true => some (.bool (letB c)) | false => none)
  | _ => none
noncomputable def okIs' (r : Rr) (v : AV) : Bool := match r with | .ok u _ => AV.eqb u v | .no => false
theorem let_told {P : Program} {X : Cx} {E E1 : Env} {names : List String} {f : Nat} (hcall : CallOk P X (callN E1 10)) (hrun : (List.range 256).all (fun c => okIs' (callF E1 10 f [.int .u8 (.lit (.ofNat c))] emptyH) (.bool (letB c))) = true) : FunOk P X E names f (.told letG) := by
  refine told_ok' hcall (fun xs v hm => ?_)
  unfold letG at hm
  split at hm
  · rename_i c
    split at hm
    · rename_i hb
      simp only [Option.some.injEq] at hm
      subst hm
      have := List.all_eq_true.1 hrun c (List.mem_range.2 (by have := Nat.le_of_ble_eq_true hb; omega))
      rw [callF_eq] at this
      unfold okIs' at this
      refine ⟨rfl, rfl, ?_⟩
      cases hr : callN E1 10 f [.int .u8 (.lit (.ofNat c))] emptyH with
      | no => rw [hr] at this; cases this
      | ok u H => rw [hr] at this; exact ⟨H, by rw [AV.eqb_eq _ _ this]⟩
    · cases hm
  · cases hm
end Ds
set_option maxRecDepth 10000
namespace Ds
open Go (IntKind Value World Addr MapEntry Program Sem Result Operand TypeId)
open Ds.Text
def digL (n : Nat) : List Nat := if h : n < 10 then [48 + n] else digL (n / 10) ++ [48 + n % 10]
termination_by n
decreasing_by omega
theorem digL_small {n : Nat} (h : n < 10) : digL n = [48 + n] := by rw [digL, dif_pos h]
theorem digL_big {n : Nat} (h : ¬ n < 10) : digL n = digL (n / 10) ++ [48 + n % 10] := by rw [digL, dif_neg h]
theorem digL_len : ∀ (n k : Nat), n < 10 ^ (k + 1) → (digL n).length ≤ k + 1
  | n, 0, h => by rw [digL_small (by simpa using h)]; simp
  | n, k + 1, h => by
    by_cases c : n < 10
    · rw [digL_small c]; simp
    · rw [digL_big c]
      have := digL_len (n / 10) k (by rw [Nat.div_lt_iff_lt_mul (by decide)]; rw [Nat.pow_succ] at h; exact h)
      simp; omega
section
variable {E : Env} {call : CallF} {n : Nat}
theorem quo10 (hn : n ≤ 9223372036854775807) : iari .quo .i64 (Int.ofNat n) (Int.ofNat 10) = Int.ofNat (n / 10) := by
  show wrapF .i64 (Int.tdiv (Int.ofNat n) (Int.ofNat 10)) = _
  have : Int.tdiv (Int.ofNat n) (Int.ofNat 10) = Int.ofNat (n / 10) := rfl
  rw [this, wrapF_small (by omega)]
theorem rem10 : iari .rem .i64 (Int.ofNat n) (Int.ofNat 10) = Int.ofNat (n % 10) := rfl
theorem add48 {m : Nat} (hm : m < 10) : iari .add .i64 (Int.ofNat 48) (Int.ofNat m) = Int.ofNat (48 + m) := by
  show wrapF .i64 (Int.ofNat (48 + m)) = _
  rw [wrapF_small (by omega)]
theorem conv8 {m : Nat} (hm : m < 10) : wrapF .u8 (Int.ofNat (48 + m)) = Int.ofNat (48 + m) := by
  rw [wrapF_eq]
  have : m = 0 ∨ m = 1 ∨ m = 2 ∨ m = 3 ∨ m = 4 ∨ m = 5 ∨ m = 6 ∨ m = 7 ∨ m = 8 ∨ m = 9 := by omega
  rcases this with rfl | rfl | rfl | rfl | rfl | rfl | rfl | rfl | rfl | rfl <;> decide
theorem dig_bsl (c : AV) : ∃ id h1, lBsl emptyH 1 [c] = some (.sl id 0 1 1, h1) ∧ ∀ m, m < 256 → c = .int .u8 (.lit (.ofNat m)) → qB2s h1 (.sl id 0 1 1) = some (.str (.lit [m])) := by
  refine ⟨_, _, rfl, ?_⟩
  rintro m hm rfl
  have hb : Nat.ble m 255 = true := Nat.ble_eq_true_of_le (by omega)
  show (match bytesOf [.int .u8 (.lit (.ofNat m))] with | some b => some (AV.str (.lit b)) | none => none) = _
  simp only [bytesOf, hb]
theorem dig_run {f : Nat} (h11 : f = 20) (hf : get3 E.funs (P3.ofNat f) = f20) (hn : n ≤ 9223372036854775807) (hs : ¬ n < 10 → E.soft 20 [I (n / 10)] = some (S (digL (n / 10)))) (k : Nat) : ∃ H1, callN E (k + 1) f [I n] emptyH = .ok (S (digL n)) H1 := by
  have hb1 : (Nat.ble 512 f || Nat.ble 512 [AV.int .i64 (.lit (.ofNat n))].length) = false := by rw [h11]; rfl
  have z0 : P3.ofNat 0 = p0 := rfl
  have hk : IntKind.beq .i64 .i64 = true := rfl
  have lt0 : Nat.ble (Nat.succ n) 0 = false := by cases hx : Nat.ble (Nat.succ n) 0 with | false => rfl | true => have := Nat.le_of_ble_eq_true hx; omega
  have hl : ∀ x y : AV, (Nat.beq [x].length 1 && Nat.ble (Nat.add 0 1) [y].length) = true := fun _ _ => rfl
  have mt : ∀ a b : Nat, a ≤ 100 → b ≤ 100 → Nat.ble (Nat.add a b) maxText = true := fun a b ha hb => Nat.ble_eq_true_of_le (by show a + b ≤ 4611686018427387904; omega)
  by_cases c : n < 10
  · have lt10 : Nat.ble (Nat.succ n) 10 = true := Nat.ble_eq_true_of_le c
    obtain ⟨id, h1, e1, e2⟩ := dig_bsl (AV.int .u8 (.lit (.ofNat (48 + n))))
    have e2 := e2 (48 + n) (by omega) rfl
    refine ⟨h1, ?_⟩
    rw [digL_small c]
    have a1 := add48 c
    have a2 := conv8 c
    simp only [callN, hb1, hf, f20, Code.ev, ops, Op.ev, Ds.Q.ev, L.ev, Opn.ev, enterL, z0, q0, q3, q4, q8, q9, q10, q11, q12, q13, q14, get3_set3, p0, p2, p3, p4, p8, p9, p10, p11, p12, p13, p14, P3.mk.injEq, reduceCtorEq, and_false, false_and, if_false, if_true, and_self,
      S, I, B, qCmp, cmpI, hk, decLtI, ilt, lt0, lt10, qAri, ari, ariS, a1, qConv, a2, fillP, AV.cells?, setAt, hl, e1, putO, e2, finish, rvs, rvOne]
  · have lt10 : Nat.ble (Nat.succ n) 10 = false := by cases hx : Nat.ble (Nat.succ n) 10 with | false => rfl | true => have := Nat.le_of_ble_eq_true hx; omega
    have hm : n % 10 < 10 := Nat.mod_lt _ (by decide)
    obtain ⟨id, h1, e1, e2⟩ := dig_bsl (AV.int .u8 (.lit (.ofNat (48 + n % 10))))
    have e2 := e2 (48 + n % 10) (by omega) rfl
    refine ⟨h1, ?_⟩
    have hs := hs c
    rw [digL_big c]
    have a1 := add48 hm
    have a2 := conv8 hm
    have a3 := quo10 hn
    have a4 := rem10 (n := n)
    have ne0 : ibeq (Int.ofNat 10) (0 : Int) = false := rfl
    have l1 := digL_len (n / 10) 18 (by omega)
    have mt1 := mt (digL (n / 10)).length [48 + n % 10].length (by omega) (by simp)
    simp only [S, I] at hs
    subst h11
    simp only [callN, hb1, hf, f20, Code.ev, ops, Op.ev, Ds.Q.ev, L.ev, Opn.ev, evs, enterL, z0, q0, q3, q4, q8, q9, q15, q16, q17, q18, q19, q20, q21, q22, q23, q24, get3_set3, p0, p2, p3, p4, p8, p9, p15, p16, p17, p18, p19, p20, p21, p22, p23, p24, P3.mk.injEq, reduceCtorEq, and_false, false_and, if_false, if_true, and_self,
      S, I, B, qCmp, cmpI, hk, decLtI, decEqI, ne0, ilt, lt0, lt10, qAri, ari, ariS, a1, a3, a4, qConv, a2, hs, fillP, AV.cells?, setAt, hl, e1, putO, e2, qCat, SS.ub, mt1, SS.app, finish, rvs, rvOne]
end
noncomputable def digQa : Nat → Nat → List Nat → List Nat := fun k => Nat.rec (motive := fun _ => Nat → List Nat → List Nat) (fun n acc => digL n ++ acc) (fun _ ih n acc => Bool.rec (motive := fun _ => List Nat) (ih (Nat.div n 10) (Nat.add 48 (Nat.mod n 10) :: acc)) (Nat.add 48 n :: acc) (Nat.ble n 9)) k
theorem digQa_eq : ∀ (k n : Nat) (acc : List Nat), digQa k n acc = digL n ++ acc
  | 0, n, acc => rfl
  | k + 1, n, acc => by
    show Bool.rec (motive := fun _ => List Nat) (digQa k (n / 10) ((48 + n % 10) :: acc)) ((48 + n) :: acc) (Nat.ble n 9) = _
    cases hb : Nat.ble n 9 with
    | true =>
      have := Nat.le_of_ble_eq_true hb
      rw [digL_small (by omega)]; rfl
    | false =>
      have h9 : ¬ n < 10 := by
        intro h
        rw [Nat.ble_eq_true_of_le (by omega)] at hb; cases hb
      rw [digL_big h9, List.append_assoc]
      exact digQa_eq k (n / 10) _
noncomputable def digQ (n : Nat) : List Nat := digQa 20 n []
theorem digQ_eq (n : Nat) : digQ n = digL n := by unfold digQ; rw [digQa_eq, List.append_nil]
def stepV (v c : Nat) : Nat := 10 * v + (c - 48)
def accV : Nat → List Nat → Nat
  | v, [] => v
  | v, c :: l => accV (stepV v c) l
noncomputable abbrev NI (m : Nat) : AV := .int .i64 (.lit (.negSucc m))
theorem und_quo {m : Nat} (hm : m ≤ 9223372036854775807) (h : 9 ≤ m) : iari .quo .i64 (.negSucc m) (Int.ofNat 10) = .negSucc ((m + 1) / 10 - 1) := by
  have e : Int.tdiv (.negSucc m) (Int.ofNat 10) = .negSucc ((m + 1) / 10 - 1) := by
    show -((((m + 1) / 10 : Nat)) : Int) = _
    omega
  show wrapF .i64 (Int.tdiv (.negSucc m) (Int.ofNat 10)) = _
  rw [e, wrapF]
  simp only [Nat.ble_eq_true_of_le (show (m + 1) / 10 - 1 ≤ 9223372036854775807 by omega)]
theorem und_rem {m : Nat} : iari .rem .i64 (.negSucc m) (Int.ofNat 10) = -(((m + 1) % 10 : Nat) : Int) := rfl
theorem und_sub {x : Int} {k : Nat} (hk : k < 10) (hx : x = -(k : Int)) : iari .sub .i64 (Int.ofNat 48) x = Int.ofNat (48 + k) := by
  subst hx
  show wrapF .i64 (Int.ofNat 48 - -(k : Int)) = _
  have : Int.ofNat 48 - -(k : Int) = Int.ofNat (48 + k) := by show (48 : Int) - -(k : Int) = ((48 + k : Nat) : Int); omega
  rw [this, wrapF_small (by omega)]
theorem und_run {E : Env} {m : Nat} {f : Nat} (h18 : f = 27) (hf : get3 E.funs (P3.ofNat f) = f27) (hm : m ≤ 9223372036854775807) (hs : 9 ≤ m → E.soft 27 [NI ((m + 1) / 10 - 1)] = some (S (digL ((m + 1) / 10)))) (k : Nat) :
    ∃ H1, callN E (k + 1) f [NI m] emptyH = .ok (S (digL (m + 1))) H1 := by
  have hb1 : (Nat.ble 512 f || Nat.ble 512 [AV.int .i64 (.lit (.negSucc m))].length) = false := by rw [h18]; rfl
  have z0 : P3.ofNat 0 = p0 := rfl
  have hk : IntKind.beq .i64 .i64 = true := rfl
  have hl : ∀ x y : AV, (Nat.beq [x].length 1 && Nat.ble (Nat.add 0 1) [y].length) = true := fun _ _ => rfl
  have mt : ∀ a b : Nat, a ≤ 100 → b ≤ 100 → Nat.ble (Nat.add a b) maxText = true := fun a b ha hb => Nat.ble_eq_true_of_le (by show a + b ≤ 4611686018427387904; omega)
  by_cases c : m < 9
  · have lt10 : Nat.ble (Nat.succ m) 9 = true := Nat.ble_eq_true_of_le c
    obtain ⟨id, h1, e1, e2⟩ := dig_bsl (AV.int .u8 (.lit (.ofNat (48 + (m + 1)))))
    have e2 := e2 (48 + (m + 1)) (by omega) rfl
    refine ⟨h1, ?_⟩
    rw [digL_small (by omega)]
    have a1 := und_sub (x := .negSucc m) (k := m + 1) (by omega) (by omega)
    have a2 := conv8 (m := m + 1) (by omega)
    simp only [callN, hb1, hf, f27, Code.ev, ops, Op.ev, Ds.Q.ev, L.ev, Opn.ev, enterL, z0, q0, q3, q4, q5, q6, q7, q8, q9, get3_set3, p0, p2, p3, p4, p5, p6, p7, p8, p9, P3.mk.injEq, reduceCtorEq, and_false, false_and, if_false, if_true, and_self,
      S, I, B, qCmp, cmpI, hk, decLtI, ilt, lt10, qAri, ari, ariS, a1, qConv, a2, fillP, AV.cells?, setAt, hl, e1, putO, e2, finish, rvs, rvOne]
  · have lt10 : Nat.ble (Nat.succ m) 9 = false := by cases hx : Nat.ble (Nat.succ m) 9 with | false => rfl | true => have := Nat.le_of_ble_eq_true hx; omega
    have hmod : (m + 1) % 10 < 10 := Nat.mod_lt _ (by decide)
    obtain ⟨id, h1, e1, e2⟩ := dig_bsl (AV.int .u8 (.lit (.ofNat (48 + (m + 1) % 10))))
    have e2 := e2 (48 + (m + 1) % 10) (by omega) rfl
    refine ⟨h1, ?_⟩
    have hs := hs (by omega)
    rw [digL_big (by omega)]
    have a3 := und_quo hm (by omega)
    have a4 := und_rem (m := m)
    have a1 := und_sub (x := -(((m + 1) % 10 : Nat) : Int)) (k := (m + 1) % 10) hmod rfl
    have a2 := conv8 hmod
    have ne0 : ibeq (Int.ofNat 10) (0 : Int) = false := rfl
    have l1 := digL_len ((m + 1) / 10) 18 (by omega)
    have mt1 := mt (digL ((m + 1) / 10)).length [48 + (m + 1) % 10].length (by omega) (by simp)
    simp only [S, NI] at hs
    subst h18
    simp only [callN, hb1, hf, f27, Code.ev, ops, Op.ev, Ds.Q.ev, L.ev, Opn.ev, evs, enterL, z0, q0, q3, q4, q10, q11, q12, q13, q14, q15, q16, q17, q18, q19, get3_set3, p0, p2, p3, p4, p10, p11, p12, p13, p14, p15, p16, p17, p18, p19, P3.mk.injEq, reduceCtorEq, and_false, false_and, if_false, if_true, and_self,
      S, I, B, qCmp, cmpI, hk, decLtI, decEqI, ne0, ilt, lt10, qAri, ari, ariS, a1, a3, a4, qConv, a2, hs, fillP, AV.cells?, setAt, hl, e1, putO, e2, qCat, SS.ub, mt1, SS.app, finish, rvs, rvOne]
theorem dig_neg {E : Env} {m : Nat} {f : Nat} (h11 : f = 20) (hf : get3 E.funs (P3.ofNat f) = f20) (hm : m ≤ 9223372036854775807) (k : Nat) {H1 : Hp} (hu : callN E k 27 [NI m] emptyH = .ok (S (digL (m + 1))) H1) :
    callN E (k + 1) f [NI m] emptyH = .ok (S (45 :: digL (m + 1))) H1 := by
  have hb1 : (Nat.ble 512 f || Nat.ble 512 [AV.int .i64 (.lit (.negSucc m))].length) = false := by rw [h11]; rfl
  have z0 : P3.ofNat 0 = p0 := rfl
  have hk : IntKind.beq .i64 .i64 = true := rfl
  have l1 := digL_len (m + 1) 18 (by omega)
  have mt1 : Nat.ble (Nat.add [45].length (digL (m + 1)).length) maxText = true := Nat.ble_eq_true_of_le (by show 1 + (digL (m + 1)).length ≤ 4611686018427387904; omega)
  simp only [S, NI] at hu
  simp only [callN, hb1, hf, f20, Code.ev, ops, Op.ev, Ds.Q.ev, Opn.ev, kArgs, evs, enterL, z0, q0, q3, q4, q5, q6, q7, get3_set3, p0, p2, p3, p4, p5, p6, p7, P3.mk.injEq, reduceCtorEq, and_false, if_false, if_true,
    S, I, qCmp, cmpI, hk, decLtI, ilt, hu, putO, qCat, SS.ub, mt1, SS.app, List.cons_append, List.nil_append, finish, rvs, rvOne]
def itoL : Int → List Nat | .ofNat n => digL n | .negSucc m => 45 :: digL (m + 1)
theorem accV_snoc (c : Nat) : ∀ (l : List Nat) (v : Nat), accV v (l ++ [c]) = stepV (accV v l) c
  | [], _v => rfl
  | _x :: l, _v => accV_snoc c l _
theorem accV_one (v c : Nat) : accV v [c] = stepV v c := rfl
theorem accV_digL (n : Nat) : accV 0 (digL n) = n := by
  induction n using Nat.strongRecOn with
  | _ n ih =>
    by_cases c : n < 10
    · have e := accV_one 0 (48 + n)
      refine (congrArg (accV 0) (digL_small c)).trans (e.trans ?_)
      clear ih e
      unfold stepV
      omega
    · have h := ih (n / 10) (by omega)
      have e := accV_snoc (48 + n % 10) (digL (n / 10)) 0
      rw [h] at e
      refine (congrArg (accV 0) (digL_big c)).trans (e.trans ?_)
      clear ih e h
      unfold stepV
      omega
theorem digL_ne (n : Nat) : digL n ≠ [] := by
  by_cases c : n < 10
  · rw [digL_small c]; simp
  · rw [digL_big c]; simp
theorem digL_digs (n : Nat) : ∀ c ∈ digL n, 48 ≤ c ∧ c ≤ 57 := by
  induction n using Nat.strongRecOn with
  | _ n ih =>
    by_cases c : n < 10
    · rw [digL_small c]; simp; omega
    · rw [digL_big c]
      intro x hx
      rcases List.mem_append.1 hx with hx | hx
      · exact ih (n / 10) (by omega) x hx
      · simp at hx; omega
theorem digL_head (n : Nat) (h : 1 ≤ n) : (digL n).head? ≠ some 48 := by
  induction n using Nat.strongRecOn with
  | _ n ih =>
    by_cases c : n < 10
    · rw [digL_small c]; simp; omega
    · rw [digL_big c]
      have := ih (n / 10) (by omega) (by omega)
      cases hd : digL (n / 10) with
      | nil => exact absurd hd (digL_ne _)
      | cons a l => rw [hd] at this; simpa using this
theorem decDigits_digL (n : Nat) : (Go.Lib.decDigits n) = b8 (digL n) := by
  induction n using Nat.strongRecOn with
  | _ n ih =>
    by_cases c : n < 10
    · rw [Go.Lib.decDigits, dif_pos c, digL_small c]; rfl
    · rw [Go.Lib.decDigits, dif_neg c, digL_big c, ih (n / 10) (by omega)]; simp [b8]
theorem itoa_itoL (n : Int) : Go.Lib.itoa n = b8 (itoL n) := by
  cases n with
  | ofNat n => rw [Go.Lib.itoa, if_neg (show ¬ (Int.ofNat n < 0) from fun h => by have h : (n : Int) < 0 := h; omega)]; exact decDigits_digL n
  | negSucc m =>
    rw [Go.Lib.itoa, if_pos (by omega)]
    show 45 :: Go.Lib.decDigits (m + 1) = _
    rw [decDigits_digL]; rfl
end Ds
set_option maxRecDepth 10000
namespace Ds
open Go (IntKind Value World Addr MapEntry Program Sem Result Operand TypeId)
open Ds.Text
noncomputable def digB (c : Nat) : Bool := Bool.rec (motive := fun _ => Bool) false (Nat.ble c 57) (Nat.ble 48 c)
noncomputable def numHead : Code := .reg [.q p10 (.mv q7),.q p11 (.mv q0),.q p12 (.lens q11),.q p13 (.cmp .lt q10 q12),.q p14 (.mv q13),.g p14 true (.q p15 (.mv q0)),.g p14 true (.q p16 (.mv q7)),.g p14 true (.q p17 (.ixs q15 q16)),.g p14 true (.k (some p18) (.fn 84 [q17])),.q p19 (.pick q14 q18 (.c (.bool false)))]
noncomputable def numCmp : Code := .reg [.q p20 (.mv q7),.q p21 (.mv q1),.q p22 (.ari .sub q20 q21),.q p23 (.cmp .lt q22 (.c (I 18)))]
noncomputable def numMul : Code := .reg [.q p24 (.mv q8),.q p25 (.ari .mul (.c (I 10)) q24),.q p26 (.mv q0),.q p27 (.mv q7),.q p28 (.ixs q26 q27),.q p29 (.conv .i64 q28),.q p30 (.ari .add q25 q29),.q p31 (.ari .sub q30 (.c (I 48))),.q p8 (.mv q31)]
noncomputable def numInc : Code := .reg [.q p32 (.mv q7),.q p33 (.ari .add q32 (.c (I 1))),.q p7 (.mv q33)]
noncomputable def numBody : Code := .seq (.seq numHead (.cond q19 (.skip) (.exit 0))) (.block 1 (.seq (.seq numCmp (.cond q23 numMul (.skip))) numInc))
noncomputable def numPre : Code := .reg [.l (some p4) (.alloc [(I 0),(S []),(I 0),(I 0)]),.q p5 (.mv (.c (I 0))),.q p6 (.mv (.c (I 0)))]
noncomputable def numTest : Code := .reg [.q p34 (.mv q7),.q p35 (.mv q1),.q p36 (.ari .sub q34 q35),.q p37 (.cmp .gt q36 (.c (I 18))),.q p38 (.mv q37),.g p38 false (.q p39 (.mv q7)),.g p38 false (.q p40 (.mv q1)),.g p38 false (.q p41 (.ari .sub q39 q40)),.g p38 false (.q p42 (.cmp .gt q41 (.c (I 1)))),.g p38 false (.q p43 (.mv q42)),.g p43 true (.q p44 (.mv q0)),.g p43 true (.q p45 (.mv q1)),.g p43 true (.q p46 (.ixs q44 q45)),.g p43 true (.q p47 (.eq false true .num q46 (.c (B 48)))),.g p38 false (.q p48 (.pick q43 q47 (.c (.bool false)))),.q p49 (.pick q38 (.c (.bool true)) q48)]
noncomputable def numLet : Code := .reg [.q p53 (.mv q7),.q p54 (.mv q0),.q p55 (.lens q54),.q p56 (.cmp .lt q53 q55),.q p57 (.mv q56),.g p57 true (.q p58 (.mv q0)),.g p57 true (.q p59 (.mv q7)),.g p57 true (.q p60 (.ixs q58 q59)),.g p57 true (.k (some p61) (.fn 82 [q60])),.q p62 (.pick q57 q61 (.c (.bool false)))]
noncomputable def numEnd : Code := .reg [.q p66 (.mv q0),.q p67 (.mv q1),.q p68 (.mv q7),.q p69 (.sls q66 (some q67) (some q68)),.q p70 (.mv q8),.q p71 (.mv q1),.q p72 (.build [(I 0),(S []),(I 0),(I 0)] [(0,1,(.c (I 2))),(1,1,q69),(2,1,q70),(3,1,q71)]),.q p73 (.mv q7),.l none (.st q4 q72 4),.q p5 (.mv q73),.q p6 (.mv (.c (.int .i64 (.lit (.negSucc 0)))))]
noncomputable def numBadA : Code := (.seq (.reg [.q p50 (.build [(I 0),(S []),(I 0),(I 0)] []),.q p51 (.mv q1),.q p52 (.mv q1),.l none (.st q4 q50 4),.q p5 (.mv q51),.q p6 (.mv q52)])
 (.ret))
noncomputable def numBadB : Code := (.seq (.reg [.q p63 (.build [(I 0),(S []),(I 0),(I 0)] []),.q p64 (.mv q1),.q p65 (.mv q7),.l none (.st q4 q63 4),.q p5 (.mv q64),.q p6 (.mv q65)])
 (.ret))
theorem f85_eq : f85 = .code [.celln p4 4,.t p5,.t p6] (.seq numPre
 (.seq (.reg [.q p9 (.mv q1),.q p7 (.mv q9)])
 (.seq (.reg [.q p8 (.mv (.c (I 0)))])
 (.seq (.block 0 (.loop numBody))
 (.seq (.seq numTest (.cond q49 numBadA (.skip)))
 (.seq (.seq numLet (.cond q62 numBadB (.skip)))
 (.seq numEnd (.ret)))))))) := rfl
structure NumInv (s : List Nat) (at_ : Nat) (id : P5) (t : T3 AV) (i v : Nat) : Prop where
  s : get3 t p0 = S s
  a : get3 t p1 = I at_
  r : get3 t p4 = .ptr id 0
  n : get3 t p7 = I i
  v : get3 t p8 = I v
theorem nthL_at : ∀ (l : List Nat) (i : Nat) (c : Nat) (m : List Nat), l.drop i = c :: m → nthL l i = some c
  | [], i, c, m, h => by simp at h
  | a :: l, 0, c, m, h => by simp at h; simp [nthL, h.1]
  | a :: l, i + 1, c, m, h => by simp only [nthL]; exact nthL_at l i c m (by simpa using h)
theorem len_drop {l : List Nat} {i : Nat} {m : List Nat} (h : l.drop i = m) : m ≠ [] → i + m.length = l.length := by
  intro hm
  have := congrArg List.length h
  rw [List.length_drop] at this
  have : 0 < m.length := List.length_pos_iff.2 hm
  omega
section
variable {E : Env} {call : CallF} {s : List Nat} {at_ : Nat} {id : P5} {t : T3 AV} {h : Hp} {i v : Nat}
theorem num_head (I' : NumInv s at_ id t i v) (hd : ∀ c, c < 256 → call 84 [B c] h = .ok (.bool (digB c)) h) (b : Bool) (_hs : s.length ≤ 1000000)
    (hb : (b = false ∧ s.length ≤ i) ∨ (∃ c m, s.drop i = c :: m ∧ c < 256 ∧ digB c = b)) : ∃ t', Code.ev E call numHead t h = .normal t' h ∧ NumInv s at_ id t' i v ∧ get3 t' p19 = .bool b := by
  obtain ⟨h0, h1, h4, h7, h8⟩ := I'
  simp only [p0, p1, p4, p7, p8, p19] at h0 h1 h4 h7 h8 ⊢
  have hb1 : IntKind.beq .i64 .i64 = true := rfl
  rcases hb with ⟨rfl, hb⟩ | ⟨c, m, hc, h256, hb⟩
  · have c1 : Nat.ble (Nat.succ i) s.length = false := by
      cases hx : Nat.ble (Nat.succ i) s.length with
      | false => rfl
      | true => have := Nat.le_of_ble_eq_true hx; omega
    have bf : (false == true) = false := rfl
    refine ⟨_, by
      simp only [numHead, Code.ev, ops, Op.ev, Op.skip, Ds.Q.ev, Opn.ev, putO, q7, q0, q10, q11, q12, q13, q14, q15, q16, q17, q18, get3_set3, p0, p7, p10, p11, p12, p13, p14, p15, p16, p17, p18, p19, P3.mk.injEq, reduceCtorEq, and_false, if_false, if_true, and_self,
        h0, h7, S, I, qLens, lenS, qCmp, cmpI, hb1, decLtI, ilt, c1, bf, qPick]
      rfl, ⟨?_, ?_, ?_, ?_, ?_⟩, ?_⟩ <;> simp only [get3_set3, p0, p1, p4, p7, p8, P3.mk.injEq, reduceCtorEq, and_false, false_and, if_false, if_true, and_self, h0, h1, h4, h7, h8, I, S]
  · have hl := len_drop hc (by simp)
    simp only [List.length_cons] at hl
    have c1 : Nat.ble (Nat.succ i) s.length = true := Nat.ble_eq_true_of_le (by omega)
    have hn := nthL_at s i c m hc
    have hd' := hd c h256
    rw [hb] at hd'
    simp only [B] at hd'
    refine ⟨_, by
      simp only [numHead, Code.ev, ops, Op.ev, Ds.Q.ev, Opn.ev, putO, kArgs, evs, q7, q0, q10, q11, q12, q13, q14, q15, q16, q17, q18, get3_set3, p0, p7, p10, p11, p12, p13, p14, p15, p16, p17, p18, p19, P3.mk.injEq, reduceCtorEq, and_false, false_and, if_false, if_true, and_self,
        h0, h7, S, I, qLens, lenS, qCmp, cmpI, hb1, decLtI, ilt, c1, beq_self_eq_true, qIxs, AV.nat?, hn, orV, hd', qPick]
      rfl, ⟨?_, ?_, ?_, ?_, ?_⟩, ?_⟩ <;> simp only [get3_set3, p0, p1, p4, p7, p8, P3.mk.injEq, reduceCtorEq, and_false, false_and, if_false, if_true, and_self, h0, h1, h4, h7, h8, I, S]
theorem wrapF_i64 {n : Int} (h1 : -9223372036854775808 ≤ n) (h2 : n ≤ 9223372036854775807) : wrapF .i64 n = n := by
  cases n with
  | ofNat a => exact wrapF_small (by have h2 : (a : Int) ≤ 9223372036854775807 := h2; omega)
  | negSucc a =>
    have : a ≤ 9223372036854775807 := by omega
    simp [wrapF, Nat.ble_eq_true_of_le this]
theorem num_round (I' : NumInv s at_ id t i v) {c : Nat} {m : List Nat} (hc : s.drop i = c :: m) (h1 : 48 ≤ c) (h2 : c ≤ 57) (ha : at_ ≤ i) (hi : i < at_ + 18) (hs : s.length ≤ 1000000) (hv : v < 100000000000000000) :
    ∃ t', Code.ev E call (.seq (.seq numCmp (.cond q23 numMul (.skip))) numInc) t h = .normal t' h ∧ NumInv s at_ id t' (i + 1) (stepV v c) := by
  obtain ⟨h0, h1', h4, h7, h8⟩ := I'
  simp only [p0, p1, p4, p7, p8] at h0 h1' h4 h7 h8 ⊢
  have hb1 : IntKind.beq .i64 .i64 = true := rfl
  have hl := len_drop hc (by simp)
  simp only [List.length_cons] at hl
  have hn := nthL_at s i c m hc
  have e1 : iari .sub .i64 (Int.ofNat i) (Int.ofNat at_) = Int.ofNat (i - at_) := by
    show wrapF .i64 (Int.ofNat i - Int.ofNat at_) = _
    rw [wrapF_i64 (by simp; omega) (by simp; omega)]; simp; omega
  have c1 : Nat.ble (Nat.succ (i - at_)) 18 = true := Nat.ble_eq_true_of_le (by omega)
  have e2 : iari .mul .i64 (Int.ofNat 10) (Int.ofNat v) = Int.ofNat (10 * v) := by
    show wrapF .i64 (Int.ofNat 10 * Int.ofNat v) = _
    rw [wrapF_i64 (by simp; omega) (by simp; omega)]; simp
  have e3 : wrapF .i64 (Int.ofNat c) = Int.ofNat c := wrapF_small (by omega)
  have e4 : iari .add .i64 (Int.ofNat (10 * v)) (Int.ofNat c) = Int.ofNat (10 * v + c) := by
    show wrapF .i64 (Int.ofNat (10 * v) + Int.ofNat c) = _
    rw [wrapF_i64 (by simp; omega) (by simp; omega)]; simp
  have e5 : iari .sub .i64 (Int.ofNat (10 * v + c)) (Int.ofNat 48) = Int.ofNat (stepV v c) := by
    show wrapF .i64 (Int.ofNat (10 * v + c) - Int.ofNat 48) = _
    have e : Int.ofNat (10 * v + c) - Int.ofNat 48 = Int.ofNat (stepV v c) := by
      show ((10 * v + c : Nat) : Int) - 48 = ((10 * v + (c - 48) : Nat) : Int); omega
    rw [e, wrapF_small (by unfold stepV; omega)]
  have e6 : iari .add .i64 (Int.ofNat i) (Int.ofNat 1) = Int.ofNat (i + 1) := wrapF_small (by omega)
  refine ⟨_, by
    simp only [numCmp, numMul, numInc, Code.ev, ops, Op.ev, Ds.Q.ev, Opn.ev, q0, q1, q7, q8, q20, q21, q22, q23, q24, q25, q26, q27, q28, q29, q30, q31, q32, q33, get3_set3, p0, p1, p7, p8, p20, p21, p22, p23, p24, p25, p26, p27, p28, p29, p30, p31, p32, p33, P3.mk.injEq, reduceCtorEq, and_false, false_and, if_false, if_true, and_self,
      h0, h1', h7, h8, S, I, qAri, ari, ariS, hb1, e1, e2, e4, e5, e6, qCmp, cmpI, decLtI, ilt, c1, qIxs, AV.nat?, hn, orV, qConv, e3]
    rfl, ⟨?_, ?_, ?_, ?_, ?_⟩⟩ <;> simp only [get3_set3, p0, p1, p4, p7, p8, P3.mk.injEq, reduceCtorEq, and_false, false_and, if_false, if_true, and_self, h0, h1', h4, h7, h8, I, S]
def isDigs (l : List Nat) : Prop := ∀ c ∈ l, 48 ≤ c ∧ c ≤ 57
theorem digB_of {c : Nat} (h1 : 48 ≤ c) (h2 : c ≤ 57) : digB c = true := by
  unfold digB
  rw [Nat.ble_eq_true_of_le h1, Nat.ble_eq_true_of_le h2]
theorem loopN_step {body : T3 AV → Hp → Rc} {n : Nat} {t t1 : T3 AV} {h h1 : Hp} (e : body t h = .normal t1 h1) : loopN body (n + 1) t h = loopN body n t1 h1 := by simp only [loopN, e]
theorem loopN_exit {body : T3 AV → Hp → Rc} {n k : Nat} {t t1 : T3 AV} {h h1 : Hp} (e : body t h = .exit k t1 h1) : loopN body (n + 1) t h = .exit k t1 h1 := by simp only [loopN, e]
theorem ev_block_normal {c : Code} {k : Nat} {t t1 : T3 AV} {h h1 : Hp} (e : Code.ev E call c t h = .normal t1 h1) : Code.ev E call (.block k c) t h = .normal t1 h1 := by simp only [Code.ev, e]
theorem ev_test {x : Code} {p : P3} {t t1 : T3 AV} {h h1 : Hp} {b : Bool} (e : Code.ev E call x t h = .normal t1 h1) (g : get3 t1 p = .bool b) : Code.ev E call (.seq x (.cond (.t p) (.skip) (.exit 0))) t h = (match b with | true => .normal t1 h1 | false => .exit 0 t1 h1) := by
  rw [ev_seq e]
  simp only [Code.ev, Opn.ev, g]
  cases b <;> rfl
theorem ev_seq_exit {x y : Code} {k : Nat} {t t1 : T3 AV} {h h1 : Hp} (e : Code.ev E call x t h = .exit k t1 h1) : Code.ev E call (.seq x y) t h = .exit k t1 h1 := by simp only [Code.ev, e]
theorem num_loop (hd : ∀ c, c < 256 → call 84 [B c] h = .ok (.bool (digB c)) h) (hs : s.length ≤ 1000000) {post : List Nat} (hp : post = [] ∨ ∃ c m, post = c :: m ∧ c < 256 ∧ digB c = false) :
    ∀ (ds : List Nat) (n i v : Nat) (t : T3 AV), NumInv s at_ id t i v → s.drop i = ds ++ post → isDigs ds → at_ ≤ i → i + ds.length ≤ at_ + 18 → v < 10 ^ (i - at_) →
      ∃ t', loopN (Code.ev E call numBody) (n + 1 + ds.length) t h = .exit 0 t' h ∧ NumInv s at_ id t' (i + ds.length) (accV v ds) := by
  intro ds
  induction ds with
  | nil =>
    intro n i v t I' hdrop _ ha hi hv
    obtain ⟨t1, e1, I1, g1⟩ := num_head (E := E) I' hd false hs (by
      rcases hp with rfl | ⟨c, m, rfl, hc, hdc⟩
      · exact .inl ⟨rfl, by simpa using hdrop⟩
      · exact .inr ⟨c, m, by simpa using hdrop, hc, hdc⟩)
    refine ⟨t1, ?_, I1⟩
    have e2 := ev_test (E := E) e1 g1
    exact loopN_exit (ev_seq_exit e2)
  | cons c ds ih =>
    intro n i v t I' hdrop hds ha hi hv
    have hc := hds c (List.mem_cons_self ..)
    simp only [List.length_cons] at hi
    obtain ⟨t1, e1, I1, g1⟩ := num_head (E := E) I' hd true hs (.inr ⟨c, ds ++ post, by simpa using hdrop, by omega, digB_of hc.1 hc.2⟩)
    have hpow : (10 : Nat) ^ (i - at_) ≤ 10 ^ 17 := Nat.pow_le_pow_right (by decide) (by omega)
    obtain ⟨t2, e2, I2⟩ := num_round (E := E) (call := call) (h := h) I1 (c := c) (m := ds ++ post) (by simpa using hdrop) hc.1 hc.2 ha (by omega) hs (by omega)
    have e3 := ev_test (E := E) e1 g1
    have e4 : Code.ev E call numBody t h = .normal t2 h := by
      show Code.ev E call (.seq (.seq numHead (.cond (.t p19) (.skip) (.exit 0))) (.block 1 (.seq (.seq numCmp (.cond q23 numMul (.skip))) numInc))) t h = _
      rw [ev_seq e3]
      exact ev_block_normal e2
    have hdrop' : s.drop (i + 1) = ds ++ post := by
      have := congrArg (List.drop 1) hdrop
      rw [List.drop_drop] at this
      simpa using this
    have hv' : stepV v c < 10 ^ (i + 1 - at_) := by
      rw [show i + 1 - at_ = (i - at_) + 1 by omega, Nat.pow_succ]; unfold stepV; omega
    obtain ⟨t', e', I'⟩ := ih n (i + 1) (stepV v c) t2 I2 hdrop' (fun x hx => hds x (List.mem_cons_of_mem _ hx)) (by omega) (by omega) hv'
    refine ⟨t', ?_, ?_⟩
    · show loopN (Code.ev E call numBody) (n + 1 + (ds.length + 1)) t h = _
      rw [show n + 1 + (ds.length + 1) = (n + 1 + ds.length) + 1 by omega, loopN_step e4]
      exact e'
    · rw [show i + (c :: ds).length = i + 1 + ds.length by simp; omega]
      exact I'
theorem num_test (I' : NumInv s at_ id t i v) (ha : at_ + 1 ≤ i) (hi : i ≤ at_ + 18) (_hs : s.length ≤ 1000000) (_hl : i ≤ s.length) {c : Nat} {m : List Nat} (hc : s.drop at_ = c :: m) (h0 : i = at_ + 1 ∨ c ≠ 48) (_hcb : c < 256) :
    ∃ t', Code.ev E call numTest t h = .normal t' h ∧ NumInv s at_ id t' i v ∧ get3 t' p49 = .bool false := by
  obtain ⟨h0', h1, h4, h7, h8⟩ := I'
  simp only [p0, p1, p4, p7, p8, p49] at h0' h1 h4 h7 h8 ⊢
  have hb1 : IntKind.beq .i64 .i64 = true := rfl
  have hb2 : IntKind.beq .u8 .u8 = true := rfl
  have bf : (false == true) = false := rfl
  have e1 : iari .sub .i64 (Int.ofNat i) (Int.ofNat at_) = Int.ofNat (i - at_) := by
    show wrapF .i64 (Int.ofNat i - Int.ofNat at_) = _
    rw [wrapF_i64 (by simp; omega) (by simp; omega)]; simp; omega
  have c1 : Nat.ble (Nat.succ 18) (i - at_) = false := by
    cases hx : Nat.ble (Nat.succ 18) (i - at_) with
    | false => rfl
    | true => have := Nat.le_of_ble_eq_true hx; omega
  by_cases k : i = at_ + 1
  · have c2 : Nat.ble (Nat.succ 1) (i - at_) = false := by
      cases hx : Nat.ble (Nat.succ 1) (i - at_) with
      | false => rfl
      | true => have := Nat.le_of_ble_eq_true hx; omega
    refine ⟨_, by
      simp only [numTest, Code.ev, ops, Op.ev, Op.skip, Ds.Q.ev, Opn.ev, q0, q1, q7, q34, q35, q36, q37, q38, q39, q40, q41, q42, q43, q44, q45, q46, q47, q48, get3_set3, p0, p1, p7, p34, p35, p36, p37, p38, p39, p40, p41, p42, p43, p44, p45, p46, p47, p48, p49, P3.mk.injEq, reduceCtorEq, and_false, false_and, if_false, if_true, and_self,
        h1, h7, I, qAri, ari, ariS, hb1, e1, qCmp, cmpI, decLtI, ilt, c1, c2, beq_self_eq_true, bf, qPick]
      rfl, ⟨?_, ?_, ?_, ?_, ?_⟩, ?_⟩ <;> simp only [get3_set3, p0, p1, p4, p7, p8, P3.mk.injEq, reduceCtorEq, and_false, false_and, if_false, if_true, and_self, h0', h1, h4, h7, h8, I, S]
  · have c2 : Nat.ble (Nat.succ 1) (i - at_) = true := Nat.ble_eq_true_of_le (by omega)
    have hn := nthL_at s at_ c m hc
    have hne : c ≠ 48 := by rcases h0 with h0 | h0; exact absurd h0 k; exact h0
    have c3 : Nat.beq c 48 = false := by
      cases hx : Nat.beq c 48 with
      | false => rfl
      | true => exact absurd (Nat.eq_of_beq_eq_true hx) hne
    refine ⟨_, by
      simp only [numTest, Code.ev, ops, Op.ev, Ds.Q.ev, Opn.ev, q0, q1, q7, q34, q35, q36, q37, q38, q39, q40, q41, q42, q43, q44, q45, q46, q47, q48, get3_set3, p0, p1, p7, p34, p35, p36, p37, p38, p39, p40, p41, p42, p43, p44, p45, p46, p47, p48, p49, P3.mk.injEq, reduceCtorEq, and_false, false_and, if_false, if_true, and_self,
        h0', h1, h7, S, I, B, qAri, ari, ariS, hb1, hb2, e1, qCmp, cmpI, decLtI, ilt, c1, c2, beq_self_eq_true, qIxs, AV.nat?, hn, orV, qEq, eqTg, eqNum, decEqI, ibeq, c3, qNeg1, qPick]
      rfl, ⟨?_, ?_, ?_, ?_, ?_⟩, ?_⟩ <;> simp only [get3_set3, p0, p1, p4, p7, p8, P3.mk.injEq, reduceCtorEq, and_false, false_and, if_false, if_true, and_self, h0', h1, h4, h7, h8, I, S]
theorem num_let (I' : NumInv s at_ id t i v) (hd : ∀ c, c < 256 → call 82 [B c] h = .ok (.bool (letB c)) h) (_hs : s.length ≤ 1000000)
    (hb : s.length ≤ i ∨ (∃ c m, s.drop i = c :: m ∧ c < 256 ∧ letB c = false)) : ∃ t', Code.ev E call numLet t h = .normal t' h ∧ NumInv s at_ id t' i v ∧ get3 t' p62 = .bool false := by
  obtain ⟨h0, h1, h4, h7, h8⟩ := I'
  simp only [p0, p1, p4, p7, p8, p62] at h0 h1 h4 h7 h8 ⊢
  have hb1 : IntKind.beq .i64 .i64 = true := rfl
  rcases hb with hb | ⟨c, m, hc, h256, hb⟩
  · have c1 : Nat.ble (Nat.succ i) s.length = false := by
      cases hx : Nat.ble (Nat.succ i) s.length with
      | false => rfl
      | true => have := Nat.le_of_ble_eq_true hx; omega
    have bf : (false == true) = false := rfl
    refine ⟨_, by
      simp only [numLet, Code.ev, ops, Op.ev, Op.skip, Ds.Q.ev, Opn.ev, putO, q7, q0, q53, q54, q55, q56, q57, q58, q59, q60, q61, get3_set3, p0, p7, p53, p54, p55, p56, p57, p58, p59, p60, p61, p62, P3.mk.injEq, reduceCtorEq, and_false, if_false, if_true, and_self,
        h0, h7, S, I, qLens, lenS, qCmp, cmpI, hb1, decLtI, ilt, c1, bf, qPick]
      rfl, ⟨?_, ?_, ?_, ?_, ?_⟩, ?_⟩ <;> simp only [get3_set3, p0, p1, p4, p7, p8, P3.mk.injEq, reduceCtorEq, and_false, false_and, if_false, if_true, and_self, h0, h1, h4, h7, h8, I, S]
  · have hl := len_drop hc (by simp)
    simp only [List.length_cons] at hl
    have c1 : Nat.ble (Nat.succ i) s.length = true := Nat.ble_eq_true_of_le (by omega)
    have hn := nthL_at s i c m hc
    have hd' := hd c h256
    rw [hb] at hd'
    simp only [B] at hd'
    refine ⟨_, by
      simp only [numLet, Code.ev, ops, Op.ev, Ds.Q.ev, Opn.ev, putO, kArgs, evs, q7, q0, q53, q54, q55, q56, q57, q58, q59, q60, q61, get3_set3, p0, p7, p53, p54, p55, p56, p57, p58, p59, p60, p61, p62, P3.mk.injEq, reduceCtorEq, and_false, false_and, if_false, if_true, and_self,
        h0, h7, S, I, qLens, lenS, qCmp, cmpI, hb1, decLtI, ilt, c1, beq_self_eq_true, qIxs, AV.nat?, hn, orV, hd', qPick]
      rfl, ⟨?_, ?_, ?_, ?_, ?_⟩, ?_⟩ <;> simp only [get3_set3, p0, p1, p4, p7, p8, P3.mk.injEq, reduceCtorEq, and_false, false_and, if_false, if_true, and_self, h0, h1, h4, h7, h8, I, S]
theorem four_cells (a b c d : AV) : ∃ id h1, lNew emptyH [a, b, c, d] = some (.ptr id 0, h1) ∧ ∀ a' b' c' d', allOne [a', b', c', d'] = true → ∃ h2, lSt h1 (.ptr id 0) (.agg [a', b', c', d']) 4 = some (undef, h2) ∧ qLdn h2 (.ptr id 0) 4 = some (.agg [a', b', c', d']) := by
  refine ⟨_, _, rfl, fun a' b' c' d' h => ?_⟩
  have hb : (Nat.beq [a', b', c', d'].length 4 && allOne [a', b', c', d']) = true := by rw [h]; rfl
  refine ⟨?h2, ?e1, ?e2⟩
  case e1 =>
    simp only [lSt, AV.cells?, hb]
    rfl
  case e2 => rfl
theorem num_call {f n : Nat} (hf : get3 E.funs (P3.ofNat f) = f85) (hlt : f < 512) (hd : ∀ c h, c < 256 → callN E n 84 [B c] h = .ok (.bool (digB c)) h) (hl : ∀ c h, c < 256 → callN E n 82 [B c] h = .ok (.bool (letB c)) h)
    {pre ds post : List Nat} (hds : isDigs ds) (h1 : 1 ≤ ds.length) (h18 : ds.length ≤ 18) (hz : ds.length = 1 ∨ ds.head? ≠ some 48) (hp : post = [] ∨ ∃ c m, post = c :: m ∧ c < 256 ∧ digB c = false ∧ letB c = false)
    (hs : (pre ++ (ds ++ post)).length ≤ 1000000) :
    ∃ H1, callN E (n + 1) f [S (pre ++ (ds ++ post)), I pre.length] emptyH = .ok (.tup [.agg [I 2, S ds, I (accV 0 ds), I pre.length], I (pre.length + ds.length), .int .i64 (.lit (.negSucc 0))]) H1 := by
  have hb1 : (Nat.ble 512 f || Nat.ble 512 [S (pre ++ (ds ++ post)), I pre.length].length) = false := by
    have : Nat.ble 512 f = false := by
      cases hx : Nat.ble 512 f with
      | false => rfl
      | true => have := Nat.le_of_ble_eq_true hx; omega
    rw [this]; rfl
  generalize hS : pre ++ (ds ++ post) = s at *
  have hlen : pre.length + ds.length ≤ s.length := by rw [← hS]; simp
  have hdrop : s.drop pre.length = ds ++ post := by rw [← hS]; simp
  obtain ⟨id, hh, k1, k2⟩ := four_cells (I 0) (S []) (I 0) (I 0)
  have z0 : P3.ofNat 0 = p0 := rfl
  have z1 : P3.ofNat (Nat.succ 0) = p1 := rfl
  have pr : ∃ t0, Code.ev E (callN E n) (.seq numPre (.seq (.reg [.q p9 (.mv q1),.q p7 (.mv q9)]) (.reg [.q p8 (.mv (.c (I 0)))]))) (enterL anym 0 [S s, I pre.length]) emptyH = .normal t0 hh ∧ NumInv s pre.length id t0 pre.length 0 := by
    refine ⟨_, by
      simp only [numPre, Code.ev, ops, Op.ev, L.ev, Ds.Q.ev, Opn.ev, k1, putO, enterL, z0, z1, q1, q9, get3_set3, p0, p1, p4, p5, p6, p7, p8, p9, P3.mk.injEq, reduceCtorEq, and_false, false_and, if_false, if_true, and_self]
      rfl, ⟨?_, ?_, ?_, ?_, ?_⟩⟩ <;> simp only [get3_set3, p0, p1, p4, p7, p8, P3.mk.injEq, reduceCtorEq, and_false, false_and, if_false, if_true, and_self]
  obtain ⟨t0, e0, I0⟩ := pr
  obtain ⟨t1, e1, I1⟩ := num_loop (E := E) (call := callN E n) (h := hh) (fun c hc => hd c hh hc) (by rw [← hS] at hs ⊢; exact hs) (post := post) (by
    rcases hp with rfl | ⟨c, m, rfl, hc, h2, h3⟩
    · exact .inl rfl
    · exact .inr ⟨c, m, rfl, hc, h2⟩) ds (maxRounds - 1 - ds.length) pre.length 0 t0 I0 hdrop hds (Nat.le_refl _) (by omega) (by simp)
  rw [show maxRounds - 1 - ds.length + 1 + ds.length = maxRounds by unfold maxRounds; omega] at e1
  obtain ⟨c0, ds', hcd⟩ : ∃ c0 ds', ds = c0 :: ds' := by
    cases ds with
    | nil => simp at h1
    | cons c0 ds' => exact ⟨c0, ds', rfl⟩
  obtain ⟨t2, e2, I2, g2⟩ := num_test (E := E) (call := callN E n) (h := hh) I1 (by omega) (by omega) hs hlen (c := c0) (m := ds' ++ post) (by rw [hdrop, hcd]; rfl) (by
    rcases hz with hz | hz
    · exact .inl (by omega)
    · rw [hcd] at hz; exact .inr (fun e => hz (by simp [e]))) (by have := hds c0 (by rw [hcd]; exact List.mem_cons_self ..); omega)
  have hdrop2 : s.drop (pre.length + ds.length) = post := by rw [← List.drop_drop, hdrop]; simp
  obtain ⟨t3, e3, I3, g3⟩ := num_let (E := E) (call := callN E n) (h := hh) I2 (fun c hc => hl c hh hc) hs (by
    rcases hp with rfl | ⟨c, m, rfl, hc, h2, h3⟩
    · exact .inl (by simpa using hdrop2)
    · exact .inr ⟨c, m, hdrop2, hc, h3⟩)
  obtain ⟨h2, k3, k4⟩ := k2 (I 2) (S ds) (I (accV 0 ds)) (I pre.length) rfl
  have en : ∃ t4, Code.ev E (callN E n) (.seq numEnd .ret) t3 hh = .ret t4 h2 ∧ get3 t4 p4 = .ptr id 0 ∧ get3 t4 p5 = I (pre.length + ds.length) ∧ get3 t4 p6 = .int .i64 (.lit (.negSucc 0)) := by
    obtain ⟨j0, j1, j4, j7, j8⟩ := I3
    simp only [p0, p1, p4, p5, p6, p7, p8] at j0 j1 j4 j7 j8 ⊢
    have c1 : Nat.ble pre.length (pre.length + ds.length) = true := Nat.ble_eq_true_of_le (by omega)
    have c2 : Nat.ble (pre.length + ds.length) s.length = true := Nat.ble_eq_true_of_le hlen
    have c3 : takeL (pre.length + ds.length - pre.length) (dropL pre.length s) = ds := by
      rw [takeL_eq, dropL_eq, hdrop]; simp
    have hl4 : ∀ x a b c d : AV, ∀ k : Nat, k < 4 → (Nat.beq [x].length 1 && Nat.ble (Nat.add k 1) [a, b, c, d].length) = true := by
      intro x a b c d k hk
      show (true && Nat.ble (k + 1) 4) = true
      rw [Nat.ble_eq_true_of_le (by omega)]; rfl
    have f0 : (Nat.beq [I 2].length 1 && Nat.ble (Nat.add 0 1) [I 0, S [], I 0, I 0].length) = true := rfl
    simp only [S, I] at k3 f0 hl4
    refine ⟨_, by
      simp only [numEnd, Code.ev, ops, Op.ev, L.ev, Ds.Q.ev, Opn.ev, q0, q1, q4, q7, q8, q66, q67, q68, q69, q70, q71, q72, q73, get3_set3, p0, p1, p4, p5, p6, p7, p8, p66, p67, p68, p69, p70, p71, p72, p73, P3.mk.injEq, reduceCtorEq, and_false, false_and, if_false, if_true, and_self,
        j0, j1, j4, j7, j8, S, I, qSls, optNat, AV.nat?, c1, c2, c3, orV, fillP, AV.cells?, setAt, hl4, Nat.reduceLT, k3, putO]
      rfl, ?_, ?_, ?_⟩ <;> simp only [get3_set3, P3.mk.injEq, reduceCtorEq, and_false, false_and, if_false, if_true, and_self, j4, I]
  obtain ⟨t4, e4, r4, r5, r6⟩ := en
  refine ⟨h2, ?_⟩
  simp only [callN, hb1, hf, f85_eq]
  have hrun : Code.ev E (callN E n) (.seq numPre
     (.seq (.reg [.q p9 (.mv q1),.q p7 (.mv q9)])
     (.seq (.reg [.q p8 (.mv (.c (I 0)))])
     (.seq (.block 0 (.loop numBody))
     (.seq (.seq numTest (.cond q49 numBadA (.skip)))
     (.seq (.seq numLet (.cond q62 numBadB (.skip)))
     (.seq numEnd (.ret)))))))) (enterL anym 0 [S s, I pre.length]) emptyH = .ret t4 h2 := by
    have hseq : ∀ (a b c d : Code) (t : T3 AV) (h : Hp), Code.ev E (callN E n) (.seq a (.seq b (.seq c d))) t h = Code.ev E (callN E n) (.seq (.seq a (.seq b c)) d) t h := by
      intro a b c d t h
      simp only [Code.ev]
      cases Code.ev E (callN E n) a t h with
      | normal t1 h1 => simp only []; cases Code.ev E (callN E n) b t1 h1 <;> rfl
      | _ => rfl
    rw [hseq, ev_seq e0]
    have hblk : Code.ev E (callN E n) (.block 0 (.loop numBody)) t0 hh = .normal t1 hh := by
      simp only [Code.ev] at e1 ⊢
      rw [e1]
    rw [ev_seq hblk]
    have ht : Code.ev E (callN E n) (.seq numTest (.cond q49 numBadA (.skip))) t1 hh = .normal t2 hh := by
      rw [ev_seq e2]
      simp only [Code.ev, Opn.ev, q49, g2]
    rw [ev_seq ht]
    have hlt : Code.ev E (callN E n) (.seq numLet (.cond q62 numBadB (.skip))) t2 hh = .normal t3 hh := by
      rw [ev_seq e3]
      simp only [Code.ev, Opn.ev, q62, g3]
    rw [ev_seq hlt]
    exact e4
  rw [hrun]
  simp only [finish, rvs, rvAll, rvOne, r4, r5, r6, k4]
end
end Ds
