/- The deterministic evaluator D and what is proved with it, part TextC of the claim on YtiifoffejaonbaaGreatDoor. -/
import Derived.Test.YtiifoffejaonbaaGreatDoorCoreA
import Derived.Test.YtiifoffejaonbaaGreatDoorCoreD
import Derived.Test.YtiifoffejaonbaaGreatDoorTextA
import Derived.Test.YtiifoffejaonbaaGreatDoorTextB
set_option maxRecDepth 10000
namespace Ds
open Go (IntKind Value World Addr MapEntry Program Sem Result Operand TypeId)
open Ds.Text

/-- the first list stands at the head of the second -/
def preL : List Nat → List Nat → Bool
  | [], _ => true
  | _ :: _, [] => false
  | a :: l, b :: m => match Nat.beq a b with | true => preL l m | false => false
/-- it stands somewhere in it -/
def inL (p : List Nat) : List Nat → Bool
  | [] => preL p []
  | c :: l => match preL p (c :: l) with | true => true | false => inL p l

theorem preL_eq : ∀ (p l : List Nat), preL p l = (lbeq (l.take p.length) p && decide (p.length ≤ l.length))
  | [], l => by simp [preL, lbeq]
  | a :: p, [] => by simp [preL, lbeq]
  | a :: p, b :: l => by
    simp only [preL, List.length_cons, List.take_succ_cons, lbeq]
    rw [preL_eq p l]
    have : Nat.beq a b = Nat.beq b a := by
      cases h : Nat.beq b a with
      | true => rw [nbeq.1 h]; exact Nat.beq_refl _
      | false => cases h2 : Nat.beq a b with
        | true => rw [nbeq.1 h2] at h; rw [Nat.beq_refl] at h; cases h
        | false => rfl
    rw [this]
    cases Nat.beq b a <;> simp

/-- what derrickref01.In tells of two known texts -/
def inF (as : List AV) : Option AV := match as with
  | [.str (.lit a), .str (.lit b)] => match Nat.ble (Nat.add a.length b.length) 90000 with
    | true => (match a with
      | [] => some (.bool false)
      | _ :: _ => some (.bool (inL (32 :: (a ++ [32])) b)))
    | false => none
  | _ => none

noncomputable def inHead : Code := .reg [.q p10 (.mv q6),.q p11 (.mv q5),.q p12 (.lens q11),.q p13 (.ari .add q10 q12),.q p14 (.mv q1),.q p15 (.lens q14),.q p16 (.cmp .le q13 q15)]
noncomputable def inMid : Code := .reg [.q p19 (.mv q0),.q p20 (.eq true true .text q19 (.c (S []))),.q p21 (.mv q20),.g p21 true (.q p22 (.mv q1)),.g p21 true (.q p23 (.mv q6)),.g p21 true (.q p24 (.mv q6)),.g p21 true (.q p25 (.mv q5)),.g p21 true (.q p26 (.lens q25)),.g p21 true (.q p27 (.ari .add q24 q26)),.g p21 true (.q p28 (.sls q22 (some q23) (some q27))),.g p21 true (.q p29 (.mv q5)),.g p21 true (.q p30 (.eq false false .text q28 q29)),.q p31 (.pick q21 q30 (.c (.bool false)))]
noncomputable def inNext : Code := .reg [.q p17 (.mv q6),.q p18 (.ari .add q17 (.c (I 1))),.q p6 (.mv q18)]
noncomputable def inBody : Code := .seq (.seq inHead (.cond q16 (.skip) (.exit 0))) (.seq (.block 1 (.seq inMid (.cond q31 (.seq (.reg [.q p4 (.mv (.c (.bool true)))]) (.ret)) (.skip)))) inNext)
theorem f43_eq : f43 = .code [.t p4] (.seq (.reg [.q p4 (.mv (.c (.bool false)))])
 (.seq (.reg [.q p7 (.mv q0),.q p8 (.cat (.c (S [32])) q7),.q p9 (.cat q8 (.c (S [32]))),.q p5 (.mv q9)])
 (.seq (.seq (.reg [.q p6 (.mv (.c (I 0)))]) (.block 0 (.loop inBody)))
 (.seq (.reg [.q p4 (.mv (.c (.bool false)))])
 (.ret))))) := rfl

structure InInv (a P b : List Nat) (t : T3 AV) (i : Nat) : Prop where
  w : get3 t p0 = S a
  s : get3 t p1 = S b
  p : get3 t p5 = S P
  n : get3 t p6 = I i

section
variable {E : Env} {call : CallF} {a P b : List Nat} {t : T3 AV} {h : Hp} {i : Nat}

theorem wrapF_small {n : Nat} (hn : n ≤ 9223372036854775807) : wrapF .i64 (Int.ofNat n) = Int.ofNat n := by
  simp [wrapF, Nat.ble_eq_true_of_le hn]

theorem in_head (I' : InInv a P b t i) (hb : i + P.length ≤ 1000000) : ∃ t', Code.ev E call inHead t h = .normal t' h ∧ InInv a P b t' i ∧ get3 t' p16 = .bool (decide (i + P.length ≤ b.length)) := by
  obtain ⟨h0, h1, h5, h6⟩ := I'
  simp only [p0, p1, p5, p6, p16] at h0 h1 h5 h6 ⊢
  have e1 : (Int.ofNat i + Int.ofNat P.length) = Int.ofNat (i + P.length) := rfl
  have e2 : wrapF .i64 (Int.ofNat (i + P.length)) = Int.ofNat (i + P.length) := wrapF_small (by omega)
  have hb1 : IntKind.beq .i64 .i64 = true := rfl
  refine ⟨_, by
    simp only [inHead, Code.ev, ops, Op.ev, Ds.Q.ev, Opn.ev, q6, q5, q11, q10, q12, q1, q14, q13, q15, get3_set3, p1, p5, p6, p10, p11, p12, p13, p14, p15, p16, P3.mk.injEq, reduceCtorEq, and_false, if_false, if_true, and_self,
      h1, h5, h6, S, I, qLens, lenS, qAri, ari, qCmp, cmpI, hb1, decLtI, ilt, Option.map]
    rfl, ⟨?_, ?_, ?_, ?_⟩, ?_⟩ <;> simp only [get3_set3, p0, p1, p5, p6, P3.mk.injEq, reduceCtorEq, and_false, false_and, if_false, if_true, and_self, h0, h1, h5, h6]
  have e3 : iari .add .i64 (Int.ofNat i) (Int.ofNat P.length) = Int.ofNat (i + P.length) := e2
  rw [e3]
  show AV.bool (!(Nat.ble (Nat.succ b.length) (i + P.length))) = _
  congr 1
  by_cases c : i + P.length ≤ b.length
  · rw [decide_eq_true c]
    cases hx : Nat.ble (Nat.succ b.length) (i + P.length) with
    | false => rfl
    | true => have := Nat.le_of_ble_eq_true hx; omega
  · rw [decide_eq_false c, Nat.ble_eq_true_of_le (by omega)]; rfl

def midB (a P b : List Nat) (i : Nat) : Bool := match a with | [] => false | _ :: _ => lbeq ((b.drop i).take P.length) P
theorem in_mid (I' : InInv a P b t i) (hb : i + P.length ≤ b.length) (hb2 : b.length ≤ 1000000) :
    ∃ t', Code.ev E call inMid t h = .normal t' h ∧ InInv a P b t' i ∧ get3 t' p31 = .bool (midB a P b i) := by
  obtain ⟨h0, h1, h5, h6⟩ := I'
  simp only [p0, p1, p5, p6, p31] at h0 h1 h5 h6 ⊢
  have e2 : iari .add .i64 (Int.ofNat i) (Int.ofNat P.length) = Int.ofNat (i + P.length) := wrapF_small (by omega)
  have hb1 : IntKind.beq .i64 .i64 = true := rfl
  have c1 : Nat.ble i (i + P.length) = true := Nat.ble_eq_true_of_le (by omega)
  have c2 : Nat.ble (i + P.length) b.length = true := Nat.ble_eq_true_of_le hb
  have c3 : i + P.length - i = P.length := by omega
  unfold midB
  cases a with
  | nil =>
    refine ⟨_, by
      simp only [inMid, Code.ev, ops, Op.ev, Op.skip, Ds.Q.ev, Opn.ev, q0, q1, q5, q6, q19, q20, q21, q22, q23, q24, q25, q26, q27, q28, q29, q30, get3_set3, p0, p1, p5, p6, p19, p20, p21, p22, p23, p24, p25, p26, p27, p28, p29, p30, p31, P3.mk.injEq, reduceCtorEq, and_false, if_false, if_true, and_self,
        h0, h1, S, qEq, eqTg, eqText, decEqS, lbeq, qNeg1, Bool.not_true, qPick]
      rfl, ⟨?_, ?_, ?_, ?_⟩, ?_⟩ <;> simp only [get3_set3, p0, p1, p5, p6, P3.mk.injEq, reduceCtorEq, and_false, false_and, if_false, if_true, and_self, h0, h1, h5, h6]
  | cons x a =>
    refine ⟨_, by
      simp only [inMid, Code.ev, ops, Op.ev, Ds.Q.ev, Opn.ev, q0, q1, q5, q6, q19, q20, q21, q22, q23, q24, q25, q26, q27, q28, q29, q30, get3_set3, p0, p1, p5, p6, p19, p20, p21, p22, p23, p24, p25, p26, p27, p28, p29, p30, p31, P3.mk.injEq, reduceCtorEq, and_false, false_and, if_false, if_true, and_self,
        h0, h1, h5, h6, S, I, qEq, eqTg, eqText, decEqS, lbeq, qNeg1, Bool.not_false, beq_self_eq_true, qPick, qLens, lenS, qAri, ari, ariS, hb1, e2, qSls, optNat, AV.nat?, c1, c2, c3, orV]
      rfl, ⟨?_, ?_, ?_, ?_⟩, ?_⟩ <;> simp only [get3_set3, p0, p1, p5, p6, P3.mk.injEq, reduceCtorEq, and_false, false_and, if_false, if_true, and_self, h0, h1, h5, h6]
    rw [takeL_eq, dropL_eq]

theorem in_next (I' : InInv a P b t i) (hb : i ≤ 1000000) : ∃ t', Code.ev E call inNext t h = .normal t' h ∧ InInv a P b t' (i + 1) := by
  obtain ⟨h0, h1, h5, h6⟩ := I'
  simp only [p0, p1, p5, p6] at h0 h1 h5 h6
  have e2 : iari .add .i64 (Int.ofNat i) (Int.ofNat 1) = Int.ofNat (i + 1) := wrapF_small (by omega)
  have hb1 : IntKind.beq .i64 .i64 = true := rfl
  refine ⟨_, by
    simp only [inNext, Code.ev, ops, Op.ev, Ds.Q.ev, Opn.ev, q6, q17, q18, get3_set3, p6, p17, p18, P3.mk.injEq, reduceCtorEq, and_false, if_false, if_true, h6, I, qAri, ari, ariS, hb1, e2]
    rfl, ⟨?_, ?_, ?_, ?_⟩⟩ <;> simp only [get3_set3, p0, p1, p5, p6, P3.mk.injEq, reduceCtorEq, and_false, false_and, if_false, if_true, and_self, h0, h1, h5, h6, I]

/-- what is found from a place on -/
def fromL (a P b : List Nat) (i : Nat) : Bool := match a with
  | [] => false
  | _ :: _ => inL P (b.drop i)

theorem inL_short : ∀ {P l : List Nat}, l.length < P.length → inL P l = false
  | [], _, h => by simp at h
  | x :: P, [], _ => rfl
  | x :: P, c :: l, h => by
    simp only [inL, preL_eq]
    rw [decide_eq_false (by omega), Bool.and_false]
    exact inL_short (by simp at h ⊢; omega)
theorem inL_step {P b : List Nat} {i : Nat} (h0 : 0 < P.length) (h : i + P.length ≤ b.length) : inL P (b.drop i) = (lbeq ((b.drop i).take P.length) P || inL P (b.drop (i + 1))) := by
  have hi : i < b.length := by omega
  rw [List.drop_eq_getElem_cons hi]
  simp only [inL, preL_eq]
  rw [decide_eq_true (by simp; omega), Bool.and_true]
  cases lbeq (List.take P.length (b[i] :: List.drop (i + 1) b)) P <;> rfl

theorem in_loop (hP : 0 < P.length) (hb : b.length ≤ 1000000) (hPl : P.length ≤ 1000000) : ∀ (n : Nat) (i : Nat) (t : T3 AV), InInv a P b t i → i ≤ b.length + 1 → b.length + 2 ≤ i + n → b.length + P.length ≤ 999990 →
    (fromL a P b i = true ∧ ∃ t', loopN (Code.ev E call inBody) n t h = .ret t' h ∧ get3 t' p4 = .bool true) ∨ (fromL a P b i = false ∧ ∃ t', loopN (Code.ev E call inBody) n t h = .exit 0 t' h)
  | 0, i, t, I', hi, hn, hs => by omega
  | n + 1, i, t, I', hi, hn, hs => by
    obtain ⟨t1, e1, I1, g1⟩ := in_head (E := E) (call := call) (h := h) I' (by omega)
    by_cases c : i + P.length ≤ b.length
    · rw [decide_eq_true c] at g1
      obtain ⟨t2, e2, I2, g2⟩ := in_mid (E := E) (call := call) (h := h) I1 c hb
      generalize hv : midB a P b i = v at g2
      cases v with
      | true =>
        refine .inl ⟨?_, set3 t2 p4 (.bool true), ?_, by rw [get3_set3, if_pos rfl]⟩
        · unfold fromL
          cases a with
          | nil => simp [midB] at hv
          | cons x a => simp only [midB] at hv ⊢; rw [inL_step hP c, hv, Bool.true_or]
        · simp only [loopN, inBody, Code.ev, e1, Opn.ev, q16, g1, e2, q31, g2, ops, Op.ev, Ds.Q.ev]
      | false =>
        obtain ⟨t3, e3, I3⟩ := in_next (E := E) (call := call) (h := h) I2 (by omega)
        have hstep : fromL a P b i = fromL a P b (i + 1) := by
          unfold fromL
          cases a with
          | nil => rfl
          | cons x a => simp only [midB] at hv ⊢; rw [inL_step hP c, hv, Bool.false_or]
        have hl : loopN (Code.ev E call inBody) (n + 1) t h = loopN (Code.ev E call inBody) n t3 h := by
          simp only [loopN, inBody, Code.ev, e1, Opn.ev, q16, g1, e2, q31, g2, e3]
        rw [hl, hstep]
        exact in_loop hP hb hPl n (i + 1) t3 I3 (by omega) (by omega) hs
    · rw [decide_eq_false c] at g1
      refine .inr ⟨?_, t1, ?_⟩
      · unfold fromL
        cases a with
        | nil => rfl
        | cons x a => exact inL_short (by simp; omega)
      · simp only [loopN, inBody, Code.ev] at e1 ⊢
        simp only [e1, Opn.ev, q16, g1]

theorem ev_seq {x y : Code} {t1 : T3 AV} {h1 : Hp} (e : Code.ev E call x t h = .normal t1 h1) : Code.ev E call (.seq x y) t h = Code.ev E call y t1 h1 := by
  simp only [Code.ev, e]
theorem ev_seq' {x y : Code} : Code.ev E call (.seq x y) t h = (match Code.ev E call x t h with | .normal t' h' => Code.ev E call y t' h' | r => r) := rfl

/-- derrickref01.In, by D -/
theorem in_call {f : Nat} (hf : get3 E.funs (P3.ofNat f) = f43) (hlt : f < 512) (hs : a.length + b.length ≤ 90000) (n : Nat) (h : Hp) :
    callN E (n + 1) f [S a, S b] h = .ok (.bool (fromL a (32 :: (a ++ [32])) b 0)) h := by
  have hb1 : (Nat.ble 512 f || Nat.ble 512 [S a, S b].length) = false := by
    have : Nat.ble 512 f = false := by
      cases hx : Nat.ble 512 f with
      | false => rfl
      | true => have := Nat.le_of_ble_eq_true hx; omega
    rw [this]; rfl
  have hP : (32 :: (a ++ [32])).length = a.length + 2 := by simp
  -- the frame ahead of the loop
  have pre : ∃ t0, Code.ev E (callN E n) (.reg [.q p4 (.mv (.c (.bool false)))]) (enterL anym 0 [S a, S b]) h = .normal t0 h ∧ get3 t0 p0 = S a ∧ get3 t0 p1 = S b := by
    have z0 : P3.ofNat 0 = p0 := rfl
    have z1 : P3.ofNat (Nat.succ 0) = p1 := rfl
    refine ⟨_, by simp only [Code.ev, ops, Op.ev, Ds.Q.ev, Opn.ev]; rfl, ?_, ?_⟩ <;>
      simp only [enterL, z0, z1, get3_set3, p0, p1, p4, P3.mk.injEq, reduceCtorEq, and_false, if_false, if_true]
  obtain ⟨t0, e0, w0, w1⟩ := pre
  have m1 : Nat.ble (Nat.add ([32] : List Nat).length a.length) maxText = true := Nat.ble_eq_true_of_le (by show 1 + a.length ≤ 4611686018427387904; omega)
  have m2 : Nat.ble (Nat.add ([32] ++ a).length ([32] : List Nat).length) maxText = true := Nat.ble_eq_true_of_le (by show ([32] ++ a).length + 1 ≤ 4611686018427387904; simp; omega)
  have pre2 : ∃ t1, Code.ev E (callN E n) (.reg [.q p7 (.mv q0),.q p8 (.cat (.c (S [32])) q7),.q p9 (.cat q8 (.c (S [32]))),.q p5 (.mv q9)]) t0 h = .normal t1 h ∧ get3 t1 p0 = S a ∧ get3 t1 p1 = S b ∧ get3 t1 p5 = S (32 :: (a ++ [32])) := by
    simp only [p0, p1, p5] at w0 w1 ⊢
    refine ⟨_, by
      simp only [Code.ev, ops, Op.ev, Ds.Q.ev, Opn.ev, q0, q7, q8, q9, get3_set3, p0, p7, p8, p9, P3.mk.injEq, reduceCtorEq, and_false, if_false, if_true, and_self, w0, S, qCat, SS.ub, m1, m2, SS.app]
      rfl, ?_, ?_, ?_⟩ <;> simp only [get3_set3, P3.mk.injEq, reduceCtorEq, and_false, false_and, if_false, if_true, and_self, w0, w1, S, List.cons_append, List.nil_append]
  obtain ⟨t1, e1, v0, v1, v5⟩ := pre2
  have pre3 : ∃ t2, Code.ev E (callN E n) (.reg [.q p6 (.mv (.c (I 0)))]) t1 h = .normal t2 h ∧ InInv a (32 :: (a ++ [32])) b t2 0 := by
    simp only [p0, p1, p5] at v0 v1 v5
    refine ⟨_, by simp only [Code.ev, ops, Op.ev, Ds.Q.ev, Opn.ev]; rfl, ⟨?_, ?_, ?_, ?_⟩⟩ <;>
      simp only [get3_set3, p0, p1, p5, p6, P3.mk.injEq, reduceCtorEq, and_false, if_false, if_true, v0, v1, v5]
  obtain ⟨t2, e2, I2⟩ := pre3
  have hl := in_loop (E := E) (call := callN E n) (h := h) (P := 32 :: (a ++ [32])) (by simp) (by omega) (by omega) maxRounds 0 t2 I2 (by omega) (by show b.length + 2 ≤ 0 + 100000; omega) (by omega)
  simp only [callN, hb1, hf, f43_eq]
  generalize hc : Code.ev E (callN E n) _ (enterL anym 0 [S a, S b]) h = r
  rw [ev_seq e0, ev_seq e1, ev_seq'] at hc
  have hloop : Code.ev E (callN E n) (.seq (.reg [.q p6 (.mv (.c (I 0)))]) (.block 0 (.loop inBody))) t1 h = (match loopN (Code.ev E (callN E n) inBody) maxRounds t2 h with
    | .exit j t' h' => match Nat.beq j 0 with | true => .normal t' h' | false => .exit j t' h'
    | r => r) := by
    rw [ev_seq e2]
    rfl
  rw [hloop] at hc
  rcases hl with ⟨hf1, t', hr, h4⟩ | ⟨hf1, t', hr⟩
  · rw [hr] at hc
    simp only [] at hc
    subst hc
    simp only [finish, rvs, rvOne, h4, hf1]
  · rw [hr] at hc
    simp only [Code.ev, ops, Op.ev, Ds.Q.ev, Opn.ev] at hc
    subst hc
    simp only [finish, rvs, rvOne, get3_set3, if_true, hf1]

end

/-- derrickref01.In is told: by the run of its text in a table that holds it -/
theorem in_told {P : Program} {X : Cx} {E E1 : Env} {names : List String} {f n : Nat} (hf : get3 E1.funs (P3.ofNat f) = f43) (hlt : f < 512) (hcall : CallOk P X (callN E1 (n + 1))) : FunOk P X E names f (.told inF) := by
  intro pd ρ H w as vs v hG hH hv hm
  have key : ∀ a b : List Nat, as = [.str (.lit a), .str (.lit b)] → a.length + b.length ≤ 90000 → v = .bool (fromL a (32 :: (a ++ [32])) b 0) → callN E1 (n + 1) f as H = .ok v H := by
    rintro a b rfl h1 rfl
    exact in_call hf hlt h1 n H
  unfold inF at hm
  split at hm
  · rename_i a b
    split at hm
    · rename_i hb
      have hb := Nat.le_of_ble_eq_true hb
      cases a with
      | nil =>
        simp only [Option.some.injEq] at hm
        exact hcall pd ρ H w f _ vs v H hG hH hv (key [] b rfl hb hm.symm)
      | cons x a' =>
        simp only [Option.some.injEq] at hm
        exact hcall pd ρ H w f _ vs v H hG hH hv (key (x :: a') b rfl hb (by rw [← hm]; rfl))
    · cases hm
  · cases hm

-- In once more, fast
noncomputable def preQ : List Nat → List Nat → Bool := fun p => List.rec (motive := fun _ => List Nat → Bool) (fun _ => true) (fun a _ ih l => List.rec (motive := fun _ => (List Nat → Bool) → Nat → Bool) (fun _ _ => false) (fun b m _ ih a => Bool.rec (motive := fun _ => Bool) false (ih m) (Nat.beq a b)) l ih a) p
noncomputable def orQ : Bool → Bool → Bool := fun a => Bool.rec (motive := fun _ => Bool → Bool) (fun b => b) (fun _ => true) a
noncomputable def inQ : List Nat → List Nat → Bool := fun l => List.rec (motive := fun _ => List Nat → Bool) (fun p => preQ p []) (fun c l ih p => orQ (preQ p (c :: l)) (ih p)) l
theorem preQ_eq : ∀ p l, preQ p l = preL p l
  | [], l => by cases l <;> rfl
  | _ :: _, [] => rfl
  | a :: p, b :: l => by
    show Bool.rec (motive := fun _ => Bool) false (preQ p l) (Nat.beq a b) = _
    rw [preQ_eq p l]
    show _ = (match Nat.beq a b with | true => preL p l | false => false)
    cases Nat.beq a b <;> rfl
theorem inQ_eq (p : List Nat) : ∀ l, inQ l p = inL p l
  | [] => preQ_eq p []
  | c :: l => by
    show orQ (preQ p (c :: l)) (inQ l p) = _
    rw [preQ_eq, inQ_eq p l]
    show _ = (match preL p (c :: l) with | true => true | false => inL p l)
    cases preL p (c :: l) <;> rfl
noncomputable def inG (xs : List AV) : Option AV := match xs with
  | [.str (.lit a), .str (.lit b)] => match Nat.ble (Nat.add a.length b.length) 90000 with
    | true => (match a with
      | [] => some (.bool false)
      | _ :: _ => some (.bool (inQ b (32 :: (a ++ [32])))))
    | false => none
  | _ => none
theorem inG_eq : inG = inF := by
  funext xs
  unfold inG inF
  simp only [inQ_eq]

end Ds
set_option maxRecDepth 10000
namespace Ds
open Go (IntKind Value World Addr MapEntry Program Sem Result Operand TypeId)
open Ds.Text

/-- calls that were run from the empty memory are told for every memory, by a function -/
theorem told_ok' {P : Program} {X : Cx} {E : Env} {names : List String} {call : CallF} (hcall : CallOk P X call) {f : Nat} {g : List AV → Option AV}
    (h : ∀ xs v, g xs = some v → AV.frees xs = true ∧ AV.free v = true ∧ ∃ H1, call f xs emptyH = .ok v H1) : FunOk P X E names f (.told g) := by
  intro pd ρ H w xs vs v hG hH hv hm
  obtain ⟨h1, h2, H1, h3⟩ := h xs v hm
  have hG' : GR P (fun id => if id.num < 64 then ρ id else none) := by
    intro g hg hg64
    obtain ⟨C, e⟩ := hG g hg hg64
    refine ⟨C, ?_⟩
    have : (P5.ofNat g).num < 64 := by rw [P5.num_ofNat (by omega)]; exact hg64
    simp only [this, if_true, e]
  obtain ⟨hf, hC⟩ := hcall _ _ emptyH w f xs vs v H1 hG' (HR.empty hH.below) (hv.free h1) h3
  refine ⟨hf, hC.mono (fun e w' he => ?_)⟩
  obtain ⟨ρ', v', rfl, hs, hr⟩ := he
  have keep : ∀ b, b < w.heap.size → w'.heap[b]? = w.heap[b]? := fun b hb => hs.fr.keeps b hb (fun id hl => absurd (emptyH_get id) hl)
  refine ⟨ρ, v', rfl, ⟨Rho.le_refl _, ⟨fun id => ObjR.keep (Rho.le_refl _) (fun B e => keep B (blk_lt hH e)) (hH.obj id), hH.inj, hH.fresh, fun id B base C e => Nat.lt_of_lt_of_le (hH.below id B base C e) hs.fr.size, fun id hp => ?_⟩,
    ⟨fun b hb _ => keep b hb, hs.fr.size, hs.fr.os, hs.fr.output, hs.fr.tape, fun id B hl e => .inr ⟨id, hl, e⟩, Nat.le_refl _, fun _ _ => rfl⟩⟩, hr.free h2⟩
  obtain ⟨B, base, C, e, hm', hno, hnl, hu⟩ := hH.pend id hp
  exact ⟨B, base, C, e, by rw [keep B (hH.below id B base C e)]; exact hm', hno, hnl, hu⟩

section
variable {E : Env} {h : Hp} {a b : List Nat}

theorem pre_call {f : Nat} (hf : get3 E.funs (P3.ofNat f) = f96) (hlt : f < 512) (n : Nat) : callN E (n + 1) f [S a, S b] h = .ok (.bool (preL b a)) h := by
  have hb1 : (Nat.ble 512 f || Nat.ble 512 [AV.str (.lit a), AV.str (.lit b)].length) = false := by
    have : Nat.ble 512 f = false := by
      cases hx : Nat.ble 512 f with
      | false => rfl
      | true => have := Nat.le_of_ble_eq_true hx; omega
    rw [this]; rfl
  have z0 : P3.ofNat 0 = p0 := rfl
  have z1 : P3.ofNat (Nat.succ 0) = p1 := rfl
  have hk : IntKind.beq .i64 .i64 = true := rfl
  rw [preL_eq]
  by_cases c : b.length ≤ a.length
  · have c1 : Nat.ble (Nat.succ a.length) b.length = false := by
      cases hx : Nat.ble (Nat.succ a.length) b.length with
      | false => rfl
      | true => have := Nat.le_of_ble_eq_true hx; omega
    have c2 : Nat.ble b.length a.length = true := Nat.ble_eq_true_of_le c
    have c4 : Nat.ble 0 b.length = true := Nat.ble_eq_true_of_le (Nat.zero_le _)
    rw [decide_eq_true c, Bool.and_true]
    simp only [callN, hb1, hf, f96, Code.ev, ops, Op.ev, Ds.Q.ev, Opn.ev, enterL, z0, z1, q0, q1, q5, q6, q7, q8, q9, q10, q11, q12, q13, q14, q15, q16, q17, get3_set3, p0, p1, p4, p5, p6, p7, p8, p9, p10, p11, p12, p13, p14, p15, p16, p17, P3.mk.injEq, reduceCtorEq, and_false, false_and, if_false, if_true, and_self,
      S, qLens, lenS, qCmp, cmpI, hk, decLtI, ilt, c1, Option.map, Bool.not_false, beq_self_eq_true, qSls, optNat, AV.nat?, c4, c2, orV, qEq, eqTg, eqText, decEqS, qNeg1, qPick, finish, rvs, rvOne, takeL_eq, dropL_eq, List.drop_zero, Nat.sub_zero]
  · have c1 : Nat.ble (Nat.succ a.length) b.length = true := Nat.ble_eq_true_of_le (by omega)
    rw [decide_eq_false c, Bool.and_false]
    have bf : (false == true) = false := rfl
    simp only [callN, hb1, hf, f96, Code.ev, ops, Op.ev, Op.skip, Ds.Q.ev, Opn.ev, enterL, z0, z1, q0, q1, q5, q6, q7, q8, q9, q10, q11, q12, q13, q14, q15, q16, q17, get3_set3, p0, p1, p4, p5, p6, p7, p8, p9, p10, p11, p12, p13, p14, p15, p16, p17, P3.mk.injEq, reduceCtorEq, and_false, false_and, if_false, if_true, and_self,
      S, qLens, lenS, qCmp, cmpI, hk, decLtI, ilt, c1, Option.map, Bool.not_true, bf, qPick, finish, rvs, rvOne]

theorem spre_call {f : Nat} (hf : get3 E.funs (P3.ofNat f) = f66) (hlt : f < 512) (hg : get3 E.funs (P3.ofNat 96) = f96) (n : Nat) : callN E (n + 2) f [S a, S b] h = .ok (.bool (preL b a)) h := by
  have hb1 : (Nat.ble 512 f || Nat.ble 512 [AV.str (.lit a), AV.str (.lit b)].length) = false := by
    have : Nat.ble 512 f = false := by
      cases hx : Nat.ble 512 f with
      | false => rfl
      | true => have := Nat.le_of_ble_eq_true hx; omega
    rw [this]; rfl
  have z0 : P3.ofNat 0 = p0 := rfl
  have z1 : P3.ofNat (Nat.succ 0) = p1 := rfl
  have hc := pre_call (E := E) (h := h) (a := a) (b := b) hg (by decide) n
  simp only [S] at hc
  rw [show n + 2 = (n + 1) + 1 from rfl]
  generalize hm : n + 1 = m at hc
  simp only [callN, hb1, hf, f66, Code.ev, ops, Op.ev, Ds.Q.ev, Opn.ev, kArgs, evs, enterL, z0, z1, q0, q1, q5, q6, q7, get3_set3, p0, p1, p4, p5, p6, p7, P3.mk.injEq, reduceCtorEq, and_false, if_false, if_true,
    S, hc, putO, finish, rvs, rvOne]
end

noncomputable def preG (xs : List AV) : Option AV := match xs with
  | [.str (.lit a), .str (.lit b)] => some (.bool (preQ b a))
  | _ => none

theorem pre_told {P : Program} {X : Cx} {E E1 : Env} {names : List String} {f n : Nat} (hf : get3 E1.funs (P3.ofNat f) = f96) (hlt : f < 512) (hcall : CallOk P X (callN E1 (n + 1))) : FunOk P X E names f (.told preG) := by
  intro pd ρ H w xs vs v hG hH hv hm
  unfold preG at hm
  split at hm
  · simp only [Option.some.injEq] at hm
    refine hcall pd ρ H w f _ vs v H hG hH hv ?_
    rw [← hm, preQ_eq]
    exact pre_call hf hlt n
  · cases hm
theorem spre_told {P : Program} {X : Cx} {E E1 : Env} {names : List String} {f n : Nat} (hf : get3 E1.funs (P3.ofNat f) = f66) (hlt : f < 512) (hg : get3 E1.funs (P3.ofNat 96) = f96) (hcall : CallOk P X (callN E1 (n + 2))) : FunOk P X E names f (.told preG) := by
  intro pd ρ H w xs vs v hG hH hv hm
  unfold preG at hm
  split at hm
  · simp only [Option.some.injEq] at hm
    refine hcall pd ρ H w f _ vs v H hG hH hv ?_
    rw [← hm, preQ_eq]
    exact spre_call hf hlt hg n
  · cases hm

/-- a letter? -/
noncomputable def letB (c : Nat) : Bool := or (and (Nat.ble 97 c) (Nat.ble c 122)) (or (and (Nat.ble 65 c) (Nat.ble c 90)) (Nat.beq c 95))
noncomputable def letG (xs : List AV) : Option AV := match xs with
  | [.int .u8 (.lit (.ofNat c))] => (match Nat.ble c 255 with | true => some (.bool (letB c)) | false => none)
  | _ => none
/-- a run came to this value -/
noncomputable def okIs' (r : Rr) (v : AV) : Bool := match r with | .ok u _ => AV.eqb u v | .no => false
theorem let_told {P : Program} {X : Cx} {E E1 : Env} {names : List String} {f : Nat} (hcall : CallOk P X (callN E1 10)) (hrun : (List.range 256).all (fun c => okIs' (callF E1 10 f [.int .u8 (.lit (.ofNat c))] emptyH) (.bool (letB c))) = true) : FunOk P X E names f (.told letG) := by
  refine told_ok' hcall (fun xs v hm => ?_)
  unfold letG at hm
  split at hm
  · rename_i c
    split at hm
    · rename_i hb
      simp only [Option.some.injEq] at hm
      subst hm
      have := List.all_eq_true.1 hrun c (List.mem_range.2 (by have := Nat.le_of_ble_eq_true hb; omega))
      rw [callF_eq] at this
      unfold okIs' at this
      refine ⟨rfl, rfl, ?_⟩
      cases hr : callN E1 10 f [.int .u8 (.lit (.ofNat c))] emptyH with
      | no => rw [hr] at this; cases this
      | ok u H => rw [hr] at this; exact ⟨H, by rw [AV.eqb_eq _ _ this]⟩
    · cases hm
  · cases hm
end Ds
set_option maxRecDepth 10000
namespace Ds
open Go (IntKind Value World Addr MapEntry Program Sem Result Operand TypeId)
open Ds.Text

/-- the decimal digits of a number -/
def digL (n : Nat) : List Nat := if h : n < 10 then [48 + n] else digL (n / 10) ++ [48 + n % 10]
termination_by n
decreasing_by omega

theorem digL_small {n : Nat} (h : n < 10) : digL n = [48 + n] := by rw [digL, dif_pos h]
theorem digL_big {n : Nat} (h : ¬ n < 10) : digL n = digL (n / 10) ++ [48 + n % 10] := by rw [digL, dif_neg h]
theorem digL_len : ∀ (n k : Nat), n < 10 ^ (k + 1) → (digL n).length ≤ k + 1
  | n, 0, h => by rw [digL_small (by simpa using h)]; simp
  | n, k + 1, h => by
    by_cases c : n < 10
    · rw [digL_small c]; simp
    · rw [digL_big c]
      have := digL_len (n / 10) k (by rw [Nat.div_lt_iff_lt_mul (by decide)]; rw [Nat.pow_succ] at h; exact h)
      simp; omega

section
variable {E : Env} {call : CallF} {n : Nat}

theorem quo10 (hn : n ≤ 9223372036854775807) : iari .quo .i64 (Int.ofNat n) (Int.ofNat 10) = Int.ofNat (n / 10) := by
  show wrapF .i64 (Int.tdiv (Int.ofNat n) (Int.ofNat 10)) = _
  have : Int.tdiv (Int.ofNat n) (Int.ofNat 10) = Int.ofNat (n / 10) := rfl
  rw [this, wrapF_small (by omega)]
theorem rem10 : iari .rem .i64 (Int.ofNat n) (Int.ofNat 10) = Int.ofNat (n % 10) := rfl
theorem add48 {m : Nat} (hm : m < 10) : iari .add .i64 (Int.ofNat 48) (Int.ofNat m) = Int.ofNat (48 + m) := by
  show wrapF .i64 (Int.ofNat (48 + m)) = _
  rw [wrapF_small (by omega)]
theorem conv8 {m : Nat} (hm : m < 10) : wrapF .u8 (Int.ofNat (48 + m)) = Int.ofNat (48 + m) := by
  rw [wrapF_eq]
  have : m = 0 ∨ m = 1 ∨ m = 2 ∨ m = 3 ∨ m = 4 ∨ m = 5 ∨ m = 6 ∨ m = 7 ∨ m = 8 ∨ m = 9 := by omega
  rcases this with rfl | rfl | rfl | rfl | rfl | rfl | rfl | rfl | rfl | rfl <;> decide

theorem dig_bsl (c : AV) : ∃ id h1, lBsl emptyH 1 [c] = some (.sl id 0 1 1, h1) ∧ ∀ m, m < 256 → c = .int .u8 (.lit (.ofNat m)) → qB2s h1 (.sl id 0 1 1) = some (.str (.lit [m])) := by
  refine ⟨_, _, rfl, ?_⟩
  rintro m hm rfl
  have hb : Nat.ble m 255 = true := Nat.ble_eq_true_of_le (by omega)
  show (match bytesOf [.int .u8 (.lit (.ofNat m))] with | some b => some (AV.str (.lit b)) | none => none) = _
  simp only [bytesOf, hb]

theorem dig_run {f : Nat} (h11 : f = 11) (hf : get3 E.funs (P3.ofNat f) = f11) (hn : n ≤ 9223372036854775807) (hs : ¬ n < 10 → E.soft 11 [I (n / 10)] = some (S (digL (n / 10)))) (k : Nat) : ∃ H1, callN E (k + 1) f [I n] emptyH = .ok (S (digL n)) H1 := by
  have hb1 : (Nat.ble 512 f || Nat.ble 512 [AV.int .i64 (.lit (.ofNat n))].length) = false := by rw [h11]; rfl
  have z0 : P3.ofNat 0 = p0 := rfl
  have hk : IntKind.beq .i64 .i64 = true := rfl
  have lt0 : Nat.ble (Nat.succ n) 0 = false := by cases hx : Nat.ble (Nat.succ n) 0 with | false => rfl | true => have := Nat.le_of_ble_eq_true hx; omega
  have hl : ∀ x y : AV, (Nat.beq [x].length 1 && Nat.ble (Nat.add 0 1) [y].length) = true := fun _ _ => rfl
  have mt : ∀ a b : Nat, a ≤ 100 → b ≤ 100 → Nat.ble (Nat.add a b) maxText = true := fun a b ha hb => Nat.ble_eq_true_of_le (by show a + b ≤ 4611686018427387904; omega)
  by_cases c : n < 10
  · have lt10 : Nat.ble (Nat.succ n) 10 = true := Nat.ble_eq_true_of_le c
    obtain ⟨id, h1, e1, e2⟩ := dig_bsl (AV.int .u8 (.lit (.ofNat (48 + n))))
    have e2 := e2 (48 + n) (by omega) rfl
    refine ⟨h1, ?_⟩
    rw [digL_small c]
    have a1 := add48 c
    have a2 := conv8 c
    simp only [callN, hb1, hf, f11, Code.ev, ops, Op.ev, Ds.Q.ev, L.ev, Opn.ev, enterL, z0, q0, q3, q4, q8, q9, q10, q11, q12, q13, q14, get3_set3, p0, p2, p3, p4, p8, p9, p10, p11, p12, p13, p14, P3.mk.injEq, reduceCtorEq, and_false, false_and, if_false, if_true, and_self,
      S, I, B, qCmp, cmpI, hk, decLtI, ilt, lt0, lt10, qAri, ari, ariS, a1, qConv, a2, fillP, AV.cells?, setAt, hl, e1, putO, e2, finish, rvs, rvOne]
  · have lt10 : Nat.ble (Nat.succ n) 10 = false := by cases hx : Nat.ble (Nat.succ n) 10 with | false => rfl | true => have := Nat.le_of_ble_eq_true hx; omega
    have hm : n % 10 < 10 := Nat.mod_lt _ (by decide)
    obtain ⟨id, h1, e1, e2⟩ := dig_bsl (AV.int .u8 (.lit (.ofNat (48 + n % 10))))
    have e2 := e2 (48 + n % 10) (by omega) rfl
    refine ⟨h1, ?_⟩
    have hs := hs c
    rw [digL_big c]
    have a1 := add48 hm
    have a2 := conv8 hm
    have a3 := quo10 hn
    have a4 := rem10 (n := n)
    have ne0 : ibeq (Int.ofNat 10) (0 : Int) = false := rfl
    have l1 := digL_len (n / 10) 18 (by omega)
    have mt1 := mt (digL (n / 10)).length [48 + n % 10].length (by omega) (by simp)
    simp only [S, I] at hs
    subst h11
    simp only [callN, hb1, hf, f11, Code.ev, ops, Op.ev, Ds.Q.ev, L.ev, Opn.ev, evs, enterL, z0, q0, q3, q4, q8, q9, q15, q16, q17, q18, q19, q20, q21, q22, q23, q24, get3_set3, p0, p2, p3, p4, p8, p9, p15, p16, p17, p18, p19, p20, p21, p22, p23, p24, P3.mk.injEq, reduceCtorEq, and_false, false_and, if_false, if_true, and_self,
      S, I, B, qCmp, cmpI, hk, decLtI, decEqI, ne0, ilt, lt0, lt10, qAri, ari, ariS, a1, a3, a4, qConv, a2, hs, fillP, AV.cells?, setAt, hl, e1, putO, e2, qCat, SS.ub, mt1, SS.app, finish, rvs, rvOne]
end

/-- the digits, quick -/
noncomputable def digQa : Nat → Nat → List Nat → List Nat := fun k => Nat.rec (motive := fun _ => Nat → List Nat → List Nat) (fun n acc => digL n ++ acc) (fun _ ih n acc => Bool.rec (motive := fun _ => List Nat) (ih (Nat.div n 10) (Nat.add 48 (Nat.mod n 10) :: acc)) (Nat.add 48 n :: acc) (Nat.ble n 9)) k
theorem digQa_eq : ∀ (k n : Nat) (acc : List Nat), digQa k n acc = digL n ++ acc
  | 0, n, acc => rfl
  | k + 1, n, acc => by
    show Bool.rec (motive := fun _ => List Nat) (digQa k (n / 10) ((48 + n % 10) :: acc)) ((48 + n) :: acc) (Nat.ble n 9) = _
    cases hb : Nat.ble n 9 with
    | true =>
      have := Nat.le_of_ble_eq_true hb
      rw [digL_small (by omega)]; rfl
    | false =>
      have h9 : ¬ n < 10 := by
        intro h
        rw [Nat.ble_eq_true_of_le (by omega)] at hb; cases hb
      rw [digL_big h9, List.append_assoc]
      exact digQa_eq k (n / 10) _
noncomputable def digQ (n : Nat) : List Nat := digQa 20 n []
theorem digQ_eq (n : Nat) : digQ n = digL n := by unfold digQ; rw [digQa_eq, List.append_nil]
end Ds
