/- The deterministic evaluator D and what is proved with it, part Shut of the claim on YtiifoffejaonbaaGreatDoor. -/
import Derived.Test.YtiifoffejaonbaaGreatDoorCoreD
import Derived.Test.YtiifoffejaonbaaGreatDoorRunA
import Derived.Test.YtiifoffejaonbaaGreatDoorRunM0
import Derived.Test.YtiifoffejaonbaaGreatDoorRunM1
import Derived.Test.YtiifoffejaonbaaGreatDoorRunM2
import Derived.Test.YtiifoffejaonbaaGreatDoorRunM3
import Derived.Test.YtiifoffejaonbaaGreatDoorRunR4
import Derived.Test.YtiifoffejaonbaaGreatDoorRunR5
import Derived.Test.YtiifoffejaonbaaGreatDoorRunR6
import Derived.Test.YtiifoffejaonbaaGreatDoorRunR7
import Derived.Test.YtiifoffejaonbaaGreatDoorRunR8
import Derived.Test.YtiifoffejaonbaaGreatDoorRunR9
import Derived.Test.YtiifoffejaonbaaGreatDoorRunR10
import Derived.Test.YtiifoffejaonbaaGreatDoorRunR11
import Derived.Test.YtiifoffejaonbaaGreatDoorRunR12
import Derived.Test.YtiifoffejaonbaaGreatDoorRunR13
import Derived.Test.YtiifoffejaonbaaGreatDoorRunR14
import Derived.Test.YtiifoffejaonbaaGreatDoorRunR15
import Derived.Test.YtiifoffejaonbaaGreatDoorRunR16
import Derived.Test.YtiifoffejaonbaaGreatDoorRunR17
import Derived.Test.YtiifoffejaonbaaGreatDoorRunR18
import Derived.Test.YtiifoffejaonbaaGreatDoorRunR19
import Derived.Test.YtiifoffejaonbaaGreatDoorRunR20
import Derived.Test.YtiifoffejaonbaaGreatDoorRunR25
import Derived.Test.YtiifoffejaonbaaGreatDoorRunR26
import Derived.Test.YtiifoffejaonbaaGreatDoorRunR27
import Derived.Test.YtiifoffejaonbaaGreatDoorRunR28
import Derived.Test.YtiifoffejaonbaaGreatDoorRunR29
import Derived.Test.YtiifoffejaonbaaGreatDoorRunR30
import Derived.Test.YtiifoffejaonbaaGreatDoorRunR31
import Derived.Test.YtiifoffejaonbaaGreatDoorRunR32
import Derived.Test.YtiifoffejaonbaaGreatDoorRunR33
import Derived.Test.YtiifoffejaonbaaGreatDoorRunR34
import Derived.Test.YtiifoffejaonbaaGreatDoorRunR35
import Derived.Test.YtiifoffejaonbaaGreatDoorRunR36
import Derived.Test.YtiifoffejaonbaaGreatDoorRunR37
import Derived.Test.YtiifoffejaonbaaGreatDoorRunR38
import Derived.Test.YtiifoffejaonbaaGreatDoorRunR39
import Derived.Test.YtiifoffejaonbaaGreatDoorRunR40
import Derived.Test.YtiifoffejaonbaaGreatDoorRunR41
import Derived.LaidMore
import Derived.OpenShut
import Derived.Stop.Joined
import Derived.ProofKit
namespace Ds
open Go (IntKind Value World Addr MapEntry Program Sem Result Operand TypeId)

theorem kept_of_stp {X : Cx} {pd : P5 → Prop} {ρ ρ' : Rho} {w w' : World} {H' : Hp} (h : Stp X pd ρ emptyH w ρ' H' w') (may : Go.MemPlace → Prop) : World.keptBut w w' may := by
  refine ⟨h.fr.os, h.fr.output, fun i hi => ?_⟩
  have e : w'.heap[i]? = w.heap[i]? := h.fr.keeps i hi (fun id hl => absurd (emptyH_get id) hl)
  rw [e]
  cases hx : w.heap[i]? with
  | none => rfl
  | some o => cases o <;> first | exact ⟨rfl, rfl, rfl, fun _ _ => rfl⟩ | exact .inr ⟨rfl, rfl⟩ | rfl

/-- A LAW THAT CAME TO TRUE FROM THE EMPTY MEMORY -/
theorem law_calls {P : Program} {X : Cx} {call : CallF} (hcall : CallOk P X call) {w : World} (hg : P.globals.size ≤ w.heap.size) (_h64 : P.globals.size ≤ 64) {f : Nat} {xs : List AV} {vs : List Value} (hv : ∀ ρ, VRs X ρ xs vs) {H' : Hp}
    (hrun : call f xs emptyH = .ok (.bool true) H') : Go.Calls P f vs.toArray w (fun e w' => e = .returned (.bool true) ∧ ∀ may, World.keptBut w w' may) := by
  let ρ : Rho := fun id => if id.num < P.globals.size then some (id.num, 0, 1) else none
  have hb : ∀ id B base C, ρ id = some (B, base, C) → B < w.heap.size := by
    intro id B base C e
    by_cases c : id.num < P.globals.size
    · simp only [ρ, c, if_true, Option.some.injEq, Prod.mk.injEq] at e
      omega
    · simp only [ρ, c, if_false] at e; cases e
  have hG : GR P (fun id => if id.num < 64 then ρ id else none) := by
    intro g h1 h2
    have : (P5.ofNat g).num = g := P5.num_ofNat (by omega)
    exact ⟨1, by simp only [this, h2, if_true, ρ, h1]⟩
  obtain ⟨_, hC⟩ := hcall _ _ emptyH w f xs vs (.bool true) H' hG (HR.empty (X := X) hb) (hv _) hrun
  refine hC.mono (fun e w' he => ?_)
  obtain ⟨ρ', v', rfl, hs, hr⟩ := he
  cases hr with
  | bool b => exact ⟨rfl, kept_of_stp hs⟩

theorem var_lt {P : Program} {W : World} {n : String} {g : Nat} {cs : Array Value} (hg : P.globalNamed n = some g) (hv : W.var? P n = some cs) : g < W.heap.size := by
  simp only [World.var?, hg, Option.bind_some] at hv
  rcases Nat.lt_or_ge g W.heap.size with h | h
  · exact h
  · rw [Array.getElem?_eq_none h] at hv; cases hv
end Ds
set_option maxRecDepth 1000000
noncomputable section
namespace Ds.Text
def vals (n : Int) : Val := { i := fun _ => n, s := fun _ => [], ok := fun _ => by simp }
def knF (l : List (Cond × Bool)) : Kn := { facts := fun c => lookF c l, ix := fun _ _ => none, sl := fun _ _ _ => none, soft := fun _ _ => none }
theorem knF_ok {σ : Val} {l : List (Cond × Bool)} (h : FactsL σ l) : KnOk σ (knF l) := ⟨fun c b hc => lookF_val σ c l b h hc, (kn0_ok (σ := σ)).ix, (kn0_ok (σ := σ)).sl, (kn0_ok (σ := σ)).soft⟩
def memo5 : List (List AV × AV) := [([S src0, .nils], res0), ([S src1, .nils], res1), ([S src2, .nils], res2), ([S src3, .nils], res3), ([S src4, .nils], res4), ([S src5, .nils], res5), ([S src6, .nils], res6), ([S src7, .nils], res7), ([S src8, .nils], res8), ([S src9, .nils], res9), ([S src10, .nils], res10), ([S src11, .nils], res11), ([S src12, .nils], res12), ([S src13, .nils], res13), ([S src14, .nils], res14), ([S src15, .nils], res15), ([S src16, .nils], res16), ([S src17, .nils], res17), ([S src18, .nils], res18), ([S src19, .nils], res19), ([S src20, .nils], res20), ([S src21, .nils], res21), ([S src22, .nils], res22), ([S src23, .nils], res23), ([S src24, .nils], res24), ([S src25, .nils], res25), ([S src26, .nils], res26), ([S src27, .nils], res27), ([S src28, .nils], res28), ([S src29, .nils], res29), ([S src30, .nils], res30), ([S src31, .nils], res31), ([S src32, .nils], res32), ([S src33, .nils], res33), ([S src34, .nils], res34), ([S src35, .nils], res35), ([S src36, .nils], res36), ([S src37, .nils], res37), ([S src38, .nils], res38), ([S src39, .nils], res39), ([S src40, .nils], res40), ([S src41, .nils], res41)]
def memo4 : List (List AV × AV) := [([], .bool true)]
theorem of_run {K : Kn} {fs : T3 Fun} {f : Nat} {l : List AV} {v : AV} (h : okIs (callF (mkE K fs) 300 f l emptyH) v = true) : ∃ H1, callN (mkE K fs) 300 f l emptyH = .ok v H1 := by
  rw [callF_eq] at h; exact okIs_ok h
def funs3 : T3 Fun := set3 (set3 funs2 (P3.ofNat 6) (.told (memoF memo5))) (P3.ofNat 5) (.told (memoF memo4))
theorem funs3_ok {σ : Val} {K : Kn} (hf : KnOk σ K) : ∀ f, f < 512 → FunOk prog (X0 σ) (mkE K funs3) methNames f (get3 funs3 (P3.ofNat f)) := by
  have h2 := call_ok (σ := σ) kn0_ok (funs2_ok kn0_ok) 300
  refine set_ok (by decide) (set_ok (by decide) (funs2_ok hf) (told_ok h2 ?_)) (told_ok h2 ?_)
  · intro x hx
    simp only [memo5, List.mem_cons, List.not_mem_nil, or_false] at hx
    rcases hx with rfl | rfl | rfl | rfl | rfl | rfl | rfl | rfl | rfl | rfl | rfl | rfl | rfl | rfl | rfl | rfl | rfl | rfl | rfl | rfl | rfl | rfl | rfl | rfl | rfl | rfl | rfl | rfl | rfl | rfl | rfl | rfl | rfl | rfl | rfl | rfl | rfl | rfl | rfl | rfl | rfl | rfl
    · exact ⟨rfl, rfl, of_run run_r0⟩
    · exact ⟨rfl, rfl, of_run run_r1⟩
    · exact ⟨rfl, rfl, of_run run_r2⟩
    · exact ⟨rfl, rfl, of_run run_r3⟩
    · exact ⟨rfl, rfl, of_run run_r4⟩
    · exact ⟨rfl, rfl, of_run run_r5⟩
    · exact ⟨rfl, rfl, of_run run_r6⟩
    · exact ⟨rfl, rfl, of_run run_r7⟩
    · exact ⟨rfl, rfl, of_run run_r8⟩
    · exact ⟨rfl, rfl, of_run run_r9⟩
    · exact ⟨rfl, rfl, of_run run_r10⟩
    · exact ⟨rfl, rfl, of_run run_r11⟩
    · exact ⟨rfl, rfl, of_run run_r12⟩
    · exact ⟨rfl, rfl, of_run run_r13⟩
    · exact ⟨rfl, rfl, of_run run_r14⟩
    · exact ⟨rfl, rfl, of_run run_r15⟩
    · exact ⟨rfl, rfl, of_run run_r16⟩
    · exact ⟨rfl, rfl, of_run run_r17⟩
    · exact ⟨rfl, rfl, of_run run_r18⟩
    · exact ⟨rfl, rfl, of_run run_r19⟩
    · exact ⟨rfl, rfl, of_run run_r20⟩
    · exact ⟨rfl, rfl, of_run run_r21⟩
    · exact ⟨rfl, rfl, of_run run_r22⟩
    · exact ⟨rfl, rfl, of_run run_r23⟩
    · exact ⟨rfl, rfl, of_run run_r24⟩
    · exact ⟨rfl, rfl, of_run run_r25⟩
    · exact ⟨rfl, rfl, of_run run_r26⟩
    · exact ⟨rfl, rfl, of_run run_r27⟩
    · exact ⟨rfl, rfl, of_run run_r28⟩
    · exact ⟨rfl, rfl, of_run run_r29⟩
    · exact ⟨rfl, rfl, of_run run_r30⟩
    · exact ⟨rfl, rfl, of_run run_r31⟩
    · exact ⟨rfl, rfl, of_run run_r32⟩
    · exact ⟨rfl, rfl, of_run run_r33⟩
    · exact ⟨rfl, rfl, of_run run_r34⟩
    · exact ⟨rfl, rfl, of_run run_r35⟩
    · exact ⟨rfl, rfl, of_run run_r36⟩
    · exact ⟨rfl, rfl, of_run run_r37⟩
    · exact ⟨rfl, rfl, of_run run_r38⟩
    · exact ⟨rfl, rfl, of_run run_r39⟩
    · exact ⟨rfl, rfl, of_run run_r40⟩
    · exact ⟨rfl, rfl, of_run run_r41⟩
  · intro x hx
    simp only [memo4, List.mem_cons, List.not_mem_nil, or_false] at hx
    subst hx
    exact ⟨rfl, rfl, of_run run_anchor⟩
theorem lit0_0 : okIs (callF (mkE kn0 funs3) 300 4 [.int .i64 (.lit (.ofNat 0)), .bool false] emptyH) (.bool true) = true := by decide +kernel
theorem lit0_1 : okIs (callF (mkE kn0 funs3) 300 4 [.int .i64 (.lit (.ofNat 1)), .bool false] emptyH) (.bool true) = true := by decide +kernel
theorem lit0_2 : okIs (callF (mkE kn0 funs3) 300 4 [.int .i64 (.lit (.ofNat 2)), .bool false] emptyH) (.bool true) = true := by decide +kernel
theorem lit0_3 : okIs (callF (mkE kn0 funs3) 300 4 [.int .i64 (.lit (.ofNat 3)), .bool false] emptyH) (.bool true) = true := by decide +kernel
theorem lit0_4 : okIs (callF (mkE kn0 funs3) 300 4 [.int .i64 (.lit (.ofNat 4)), .bool false] emptyH) (.bool true) = true := by decide +kernel
theorem lit0_5 : okIs (callF (mkE kn0 funs3) 300 4 [.int .i64 (.lit (.ofNat 5)), .bool false] emptyH) (.bool true) = true := by decide +kernel
theorem lit0_6 : okIs (callF (mkE kn0 funs3) 300 4 [.int .i64 (.lit (.ofNat 6)), .bool false] emptyH) (.bool true) = true := by decide +kernel
theorem lit0_7 : okIs (callF (mkE kn0 funs3) 300 4 [.int .i64 (.lit (.ofNat 7)), .bool false] emptyH) (.bool true) = true := by decide +kernel
theorem lit0_8 : okIs (callF (mkE kn0 funs3) 300 4 [.int .i64 (.lit (.ofNat 8)), .bool false] emptyH) (.bool true) = true := by decide +kernel
theorem lit0_9 : okIs (callF (mkE kn0 funs3) 300 4 [.int .i64 (.lit (.ofNat 9)), .bool false] emptyH) (.bool true) = true := by decide +kernel
theorem lit0_10 : okIs (callF (mkE kn0 funs3) 300 4 [.int .i64 (.lit (.ofNat 10)), .bool false] emptyH) (.bool true) = true := by decide +kernel
theorem lit0_11 : okIs (callF (mkE kn0 funs3) 300 4 [.int .i64 (.lit (.ofNat 11)), .bool false] emptyH) (.bool true) = true := by decide +kernel
theorem lit0_12 : okIs (callF (mkE kn0 funs3) 300 4 [.int .i64 (.lit (.ofNat 12)), .bool false] emptyH) (.bool true) = true := by decide +kernel
theorem lit0_13 : okIs (callF (mkE kn0 funs3) 300 4 [.int .i64 (.lit (.ofNat 13)), .bool false] emptyH) (.bool true) = true := by decide +kernel
theorem lit0_14 : okIs (callF (mkE kn0 funs3) 300 4 [.int .i64 (.lit (.ofNat 14)), .bool false] emptyH) (.bool true) = true := by decide +kernel
theorem lit0_15 : okIs (callF (mkE kn0 funs3) 300 4 [.int .i64 (.lit (.ofNat 15)), .bool false] emptyH) (.bool true) = true := by decide +kernel
theorem lit0_16 : okIs (callF (mkE kn0 funs3) 300 4 [.int .i64 (.lit (.ofNat 16)), .bool false] emptyH) (.bool true) = true := by decide +kernel
theorem lit0_17 : okIs (callF (mkE kn0 funs3) 300 4 [.int .i64 (.lit (.ofNat 17)), .bool false] emptyH) (.bool true) = true := by decide +kernel
theorem lit0_18 : okIs (callF (mkE kn0 funs3) 300 4 [.int .i64 (.lit (.ofNat 18)), .bool false] emptyH) (.bool true) = true := by decide +kernel
theorem lit0_19 : okIs (callF (mkE kn0 funs3) 300 4 [.int .i64 (.lit (.ofNat 19)), .bool false] emptyH) (.bool true) = true := by decide +kernel
theorem lit0_20 : okIs (callF (mkE kn0 funs3) 300 4 [.int .i64 (.lit (.ofNat 20)), .bool false] emptyH) (.bool true) = true := by decide +kernel
theorem neg0 : okIs (callF (mkE (knF [(.lti (.var 0) (.lit 0), true)]) funs3) 300 4 [.int .i64 (.var 0), .bool false] emptyH) (.bool true) = true := by decide +kernel
theorem big0 : okIs (callF (mkE (knF [(.lti (.var 0) (.lit 0), false), (.lti (.lit 20) (.var 0), true)]) funs3) 300 4 [.int .i64 (.var 0), .bool false] emptyH) (.bool true) = true := by decide +kernel
theorem lit1_0 : okIs (callF (mkE kn0 funs3) 300 4 [.int .i64 (.lit (.ofNat 0)), .bool true] emptyH) (.bool true) = true := by decide +kernel
theorem lit1_1 : okIs (callF (mkE kn0 funs3) 300 4 [.int .i64 (.lit (.ofNat 1)), .bool true] emptyH) (.bool true) = true := by decide +kernel
theorem lit1_2 : okIs (callF (mkE kn0 funs3) 300 4 [.int .i64 (.lit (.ofNat 2)), .bool true] emptyH) (.bool true) = true := by decide +kernel
theorem lit1_3 : okIs (callF (mkE kn0 funs3) 300 4 [.int .i64 (.lit (.ofNat 3)), .bool true] emptyH) (.bool true) = true := by decide +kernel
theorem lit1_4 : okIs (callF (mkE kn0 funs3) 300 4 [.int .i64 (.lit (.ofNat 4)), .bool true] emptyH) (.bool true) = true := by decide +kernel
theorem lit1_5 : okIs (callF (mkE kn0 funs3) 300 4 [.int .i64 (.lit (.ofNat 5)), .bool true] emptyH) (.bool true) = true := by decide +kernel
theorem lit1_6 : okIs (callF (mkE kn0 funs3) 300 4 [.int .i64 (.lit (.ofNat 6)), .bool true] emptyH) (.bool true) = true := by decide +kernel
theorem lit1_7 : okIs (callF (mkE kn0 funs3) 300 4 [.int .i64 (.lit (.ofNat 7)), .bool true] emptyH) (.bool true) = true := by decide +kernel
theorem lit1_8 : okIs (callF (mkE kn0 funs3) 300 4 [.int .i64 (.lit (.ofNat 8)), .bool true] emptyH) (.bool true) = true := by decide +kernel
theorem lit1_9 : okIs (callF (mkE kn0 funs3) 300 4 [.int .i64 (.lit (.ofNat 9)), .bool true] emptyH) (.bool true) = true := by decide +kernel
theorem lit1_10 : okIs (callF (mkE kn0 funs3) 300 4 [.int .i64 (.lit (.ofNat 10)), .bool true] emptyH) (.bool true) = true := by decide +kernel
theorem lit1_11 : okIs (callF (mkE kn0 funs3) 300 4 [.int .i64 (.lit (.ofNat 11)), .bool true] emptyH) (.bool true) = true := by decide +kernel
theorem lit1_12 : okIs (callF (mkE kn0 funs3) 300 4 [.int .i64 (.lit (.ofNat 12)), .bool true] emptyH) (.bool true) = true := by decide +kernel
theorem lit1_13 : okIs (callF (mkE kn0 funs3) 300 4 [.int .i64 (.lit (.ofNat 13)), .bool true] emptyH) (.bool true) = true := by decide +kernel
theorem lit1_14 : okIs (callF (mkE kn0 funs3) 300 4 [.int .i64 (.lit (.ofNat 14)), .bool true] emptyH) (.bool true) = true := by decide +kernel
theorem lit1_15 : okIs (callF (mkE kn0 funs3) 300 4 [.int .i64 (.lit (.ofNat 15)), .bool true] emptyH) (.bool true) = true := by decide +kernel
theorem lit1_16 : okIs (callF (mkE kn0 funs3) 300 4 [.int .i64 (.lit (.ofNat 16)), .bool true] emptyH) (.bool true) = true := by decide +kernel
theorem lit1_17 : okIs (callF (mkE kn0 funs3) 300 4 [.int .i64 (.lit (.ofNat 17)), .bool true] emptyH) (.bool true) = true := by decide +kernel
theorem lit1_18 : okIs (callF (mkE kn0 funs3) 300 4 [.int .i64 (.lit (.ofNat 18)), .bool true] emptyH) (.bool true) = true := by decide +kernel
theorem lit1_19 : okIs (callF (mkE kn0 funs3) 300 4 [.int .i64 (.lit (.ofNat 19)), .bool true] emptyH) (.bool true) = true := by decide +kernel
theorem lit1_20 : okIs (callF (mkE kn0 funs3) 300 4 [.int .i64 (.lit (.ofNat 20)), .bool true] emptyH) (.bool true) = true := by decide +kernel
theorem neg1 : okIs (callF (mkE (knF [(.lti (.var 0) (.lit 0), true)]) funs3) 300 4 [.int .i64 (.var 0), .bool true] emptyH) (.bool true) = true := by decide +kernel
theorem big1 : okIs (callF (mkE (knF [(.lti (.var 0) (.lit 0), false), (.lti (.lit 20) (.var 0), true)]) funs3) 300 4 [.int .i64 (.var 0), .bool true] emptyH) (.bool true) = true := by decide +kernel
theorem law_walk (n : Int) (b : Bool) (w : Go.World) (hw : 4 ≤ w.heap.size) : Go.Calls prog 4 #[.int .i64 n, .bool b] w (fun e w' => e = .returned (.bool true) ∧ ∀ may, Go.World.keptBut w w' may) := by
  have hs : prog.globals.size = 4 := by decide +kernel
  have h1 : prog.globals.size ≤ w.heap.size := by rw [hs]; exact hw
  have h2 : prog.globals.size ≤ 64 := by rw [hs]; decide
  cases b
  · skip
    by_cases c1 : n < 0
    · have hf : FactsL (vals n) [(.lti (.var 0) (.lit 0), true)] := by
        intro c b h
        simp only [List.mem_singleton, Prod.mk.injEq] at h
        obtain ⟨rfl, rfl⟩ := h
        exact decide_eq_true c1
      obtain ⟨H', h⟩ := of_run neg0
      exact law_calls (call_ok (knF_ok hf) (funs3_ok (knF_ok hf)) 300) h1 h2 (fun ρ => .cons _ _ _ _ (.int .i64 (.var 0) n trivial rfl) (.cons _ _ _ _ (.bool _) .nil)) h
    by_cases c2 : 20 < n
    · have hf : FactsL (vals n) [(.lti (.var 0) (.lit 0), false), (.lti (.lit 20) (.var 0), true)] := by
        intro c b h
        simp only [List.mem_cons, List.not_mem_nil, or_false, Prod.mk.injEq] at h
        rcases h with ⟨rfl, rfl⟩ | ⟨rfl, rfl⟩
        · exact decide_eq_false c1
        · exact decide_eq_true c2
      obtain ⟨H', h⟩ := of_run big0
      exact law_calls (call_ok (knF_ok hf) (funs3_ok (knF_ok hf)) 300) h1 h2 (fun ρ => .cons _ _ _ _ (.int .i64 (.var 0) n trivial rfl) (.cons _ _ _ _ (.bool _) .nil)) h
    have c3 : n = 0 ∨ n = 1 ∨ n = 2 ∨ n = 3 ∨ n = 4 ∨ n = 5 ∨ n = 6 ∨ n = 7 ∨ n = 8 ∨ n = 9 ∨ n = 10 ∨ n = 11 ∨ n = 12 ∨ n = 13 ∨ n = 14 ∨ n = 15 ∨ n = 16 ∨ n = 17 ∨ n = 18 ∨ n = 19 ∨ n = 20 := by omega
    rcases c3 with rfl | rfl | rfl | rfl | rfl | rfl | rfl | rfl | rfl | rfl | rfl | rfl | rfl | rfl | rfl | rfl | rfl | rfl | rfl | rfl | rfl
    · obtain ⟨H', h⟩ := of_run lit0_0
      exact law_calls (X := X0 (vals 0)) (call_ok kn0_ok (funs3_ok kn0_ok) 300) h1 h2 (fun ρ => .cons _ _ _ _ (.int .i64 (.lit (.ofNat 0)) 0 trivial rfl) (.cons _ _ _ _ (.bool _) .nil)) h
    · obtain ⟨H', h⟩ := of_run lit0_1
      exact law_calls (X := X0 (vals 0)) (call_ok kn0_ok (funs3_ok kn0_ok) 300) h1 h2 (fun ρ => .cons _ _ _ _ (.int .i64 (.lit (.ofNat 1)) 1 trivial rfl) (.cons _ _ _ _ (.bool _) .nil)) h
    · obtain ⟨H', h⟩ := of_run lit0_2
      exact law_calls (X := X0 (vals 0)) (call_ok kn0_ok (funs3_ok kn0_ok) 300) h1 h2 (fun ρ => .cons _ _ _ _ (.int .i64 (.lit (.ofNat 2)) 2 trivial rfl) (.cons _ _ _ _ (.bool _) .nil)) h
    · obtain ⟨H', h⟩ := of_run lit0_3
      exact law_calls (X := X0 (vals 0)) (call_ok kn0_ok (funs3_ok kn0_ok) 300) h1 h2 (fun ρ => .cons _ _ _ _ (.int .i64 (.lit (.ofNat 3)) 3 trivial rfl) (.cons _ _ _ _ (.bool _) .nil)) h
    · obtain ⟨H', h⟩ := of_run lit0_4
      exact law_calls (X := X0 (vals 0)) (call_ok kn0_ok (funs3_ok kn0_ok) 300) h1 h2 (fun ρ => .cons _ _ _ _ (.int .i64 (.lit (.ofNat 4)) 4 trivial rfl) (.cons _ _ _ _ (.bool _) .nil)) h
    · obtain ⟨H', h⟩ := of_run lit0_5
      exact law_calls (X := X0 (vals 0)) (call_ok kn0_ok (funs3_ok kn0_ok) 300) h1 h2 (fun ρ => .cons _ _ _ _ (.int .i64 (.lit (.ofNat 5)) 5 trivial rfl) (.cons _ _ _ _ (.bool _) .nil)) h
    · obtain ⟨H', h⟩ := of_run lit0_6
      exact law_calls (X := X0 (vals 0)) (call_ok kn0_ok (funs3_ok kn0_ok) 300) h1 h2 (fun ρ => .cons _ _ _ _ (.int .i64 (.lit (.ofNat 6)) 6 trivial rfl) (.cons _ _ _ _ (.bool _) .nil)) h
    · obtain ⟨H', h⟩ := of_run lit0_7
      exact law_calls (X := X0 (vals 0)) (call_ok kn0_ok (funs3_ok kn0_ok) 300) h1 h2 (fun ρ => .cons _ _ _ _ (.int .i64 (.lit (.ofNat 7)) 7 trivial rfl) (.cons _ _ _ _ (.bool _) .nil)) h
    · obtain ⟨H', h⟩ := of_run lit0_8
      exact law_calls (X := X0 (vals 0)) (call_ok kn0_ok (funs3_ok kn0_ok) 300) h1 h2 (fun ρ => .cons _ _ _ _ (.int .i64 (.lit (.ofNat 8)) 8 trivial rfl) (.cons _ _ _ _ (.bool _) .nil)) h
    · obtain ⟨H', h⟩ := of_run lit0_9
      exact law_calls (X := X0 (vals 0)) (call_ok kn0_ok (funs3_ok kn0_ok) 300) h1 h2 (fun ρ => .cons _ _ _ _ (.int .i64 (.lit (.ofNat 9)) 9 trivial rfl) (.cons _ _ _ _ (.bool _) .nil)) h
    · obtain ⟨H', h⟩ := of_run lit0_10
      exact law_calls (X := X0 (vals 0)) (call_ok kn0_ok (funs3_ok kn0_ok) 300) h1 h2 (fun ρ => .cons _ _ _ _ (.int .i64 (.lit (.ofNat 10)) 10 trivial rfl) (.cons _ _ _ _ (.bool _) .nil)) h
    · obtain ⟨H', h⟩ := of_run lit0_11
      exact law_calls (X := X0 (vals 0)) (call_ok kn0_ok (funs3_ok kn0_ok) 300) h1 h2 (fun ρ => .cons _ _ _ _ (.int .i64 (.lit (.ofNat 11)) 11 trivial rfl) (.cons _ _ _ _ (.bool _) .nil)) h
    · obtain ⟨H', h⟩ := of_run lit0_12
      exact law_calls (X := X0 (vals 0)) (call_ok kn0_ok (funs3_ok kn0_ok) 300) h1 h2 (fun ρ => .cons _ _ _ _ (.int .i64 (.lit (.ofNat 12)) 12 trivial rfl) (.cons _ _ _ _ (.bool _) .nil)) h
    · obtain ⟨H', h⟩ := of_run lit0_13
      exact law_calls (X := X0 (vals 0)) (call_ok kn0_ok (funs3_ok kn0_ok) 300) h1 h2 (fun ρ => .cons _ _ _ _ (.int .i64 (.lit (.ofNat 13)) 13 trivial rfl) (.cons _ _ _ _ (.bool _) .nil)) h
    · obtain ⟨H', h⟩ := of_run lit0_14
      exact law_calls (X := X0 (vals 0)) (call_ok kn0_ok (funs3_ok kn0_ok) 300) h1 h2 (fun ρ => .cons _ _ _ _ (.int .i64 (.lit (.ofNat 14)) 14 trivial rfl) (.cons _ _ _ _ (.bool _) .nil)) h
    · obtain ⟨H', h⟩ := of_run lit0_15
      exact law_calls (X := X0 (vals 0)) (call_ok kn0_ok (funs3_ok kn0_ok) 300) h1 h2 (fun ρ => .cons _ _ _ _ (.int .i64 (.lit (.ofNat 15)) 15 trivial rfl) (.cons _ _ _ _ (.bool _) .nil)) h
    · obtain ⟨H', h⟩ := of_run lit0_16
      exact law_calls (X := X0 (vals 0)) (call_ok kn0_ok (funs3_ok kn0_ok) 300) h1 h2 (fun ρ => .cons _ _ _ _ (.int .i64 (.lit (.ofNat 16)) 16 trivial rfl) (.cons _ _ _ _ (.bool _) .nil)) h
    · obtain ⟨H', h⟩ := of_run lit0_17
      exact law_calls (X := X0 (vals 0)) (call_ok kn0_ok (funs3_ok kn0_ok) 300) h1 h2 (fun ρ => .cons _ _ _ _ (.int .i64 (.lit (.ofNat 17)) 17 trivial rfl) (.cons _ _ _ _ (.bool _) .nil)) h
    · obtain ⟨H', h⟩ := of_run lit0_18
      exact law_calls (X := X0 (vals 0)) (call_ok kn0_ok (funs3_ok kn0_ok) 300) h1 h2 (fun ρ => .cons _ _ _ _ (.int .i64 (.lit (.ofNat 18)) 18 trivial rfl) (.cons _ _ _ _ (.bool _) .nil)) h
    · obtain ⟨H', h⟩ := of_run lit0_19
      exact law_calls (X := X0 (vals 0)) (call_ok kn0_ok (funs3_ok kn0_ok) 300) h1 h2 (fun ρ => .cons _ _ _ _ (.int .i64 (.lit (.ofNat 19)) 19 trivial rfl) (.cons _ _ _ _ (.bool _) .nil)) h
    · obtain ⟨H', h⟩ := of_run lit0_20
      exact law_calls (X := X0 (vals 0)) (call_ok kn0_ok (funs3_ok kn0_ok) 300) h1 h2 (fun ρ => .cons _ _ _ _ (.int .i64 (.lit (.ofNat 20)) 20 trivial rfl) (.cons _ _ _ _ (.bool _) .nil)) h
  · skip
    by_cases c1 : n < 0
    · have hf : FactsL (vals n) [(.lti (.var 0) (.lit 0), true)] := by
        intro c b h
        simp only [List.mem_singleton, Prod.mk.injEq] at h
        obtain ⟨rfl, rfl⟩ := h
        exact decide_eq_true c1
      obtain ⟨H', h⟩ := of_run neg1
      exact law_calls (call_ok (knF_ok hf) (funs3_ok (knF_ok hf)) 300) h1 h2 (fun ρ => .cons _ _ _ _ (.int .i64 (.var 0) n trivial rfl) (.cons _ _ _ _ (.bool _) .nil)) h
    by_cases c2 : 20 < n
    · have hf : FactsL (vals n) [(.lti (.var 0) (.lit 0), false), (.lti (.lit 20) (.var 0), true)] := by
        intro c b h
        simp only [List.mem_cons, List.not_mem_nil, or_false, Prod.mk.injEq] at h
        rcases h with ⟨rfl, rfl⟩ | ⟨rfl, rfl⟩
        · exact decide_eq_false c1
        · exact decide_eq_true c2
      obtain ⟨H', h⟩ := of_run big1
      exact law_calls (call_ok (knF_ok hf) (funs3_ok (knF_ok hf)) 300) h1 h2 (fun ρ => .cons _ _ _ _ (.int .i64 (.var 0) n trivial rfl) (.cons _ _ _ _ (.bool _) .nil)) h
    have c3 : n = 0 ∨ n = 1 ∨ n = 2 ∨ n = 3 ∨ n = 4 ∨ n = 5 ∨ n = 6 ∨ n = 7 ∨ n = 8 ∨ n = 9 ∨ n = 10 ∨ n = 11 ∨ n = 12 ∨ n = 13 ∨ n = 14 ∨ n = 15 ∨ n = 16 ∨ n = 17 ∨ n = 18 ∨ n = 19 ∨ n = 20 := by omega
    rcases c3 with rfl | rfl | rfl | rfl | rfl | rfl | rfl | rfl | rfl | rfl | rfl | rfl | rfl | rfl | rfl | rfl | rfl | rfl | rfl | rfl | rfl
    · obtain ⟨H', h⟩ := of_run lit1_0
      exact law_calls (X := X0 (vals 0)) (call_ok kn0_ok (funs3_ok kn0_ok) 300) h1 h2 (fun ρ => .cons _ _ _ _ (.int .i64 (.lit (.ofNat 0)) 0 trivial rfl) (.cons _ _ _ _ (.bool _) .nil)) h
    · obtain ⟨H', h⟩ := of_run lit1_1
      exact law_calls (X := X0 (vals 0)) (call_ok kn0_ok (funs3_ok kn0_ok) 300) h1 h2 (fun ρ => .cons _ _ _ _ (.int .i64 (.lit (.ofNat 1)) 1 trivial rfl) (.cons _ _ _ _ (.bool _) .nil)) h
    · obtain ⟨H', h⟩ := of_run lit1_2
      exact law_calls (X := X0 (vals 0)) (call_ok kn0_ok (funs3_ok kn0_ok) 300) h1 h2 (fun ρ => .cons _ _ _ _ (.int .i64 (.lit (.ofNat 2)) 2 trivial rfl) (.cons _ _ _ _ (.bool _) .nil)) h
    · obtain ⟨H', h⟩ := of_run lit1_3
      exact law_calls (X := X0 (vals 0)) (call_ok kn0_ok (funs3_ok kn0_ok) 300) h1 h2 (fun ρ => .cons _ _ _ _ (.int .i64 (.lit (.ofNat 3)) 3 trivial rfl) (.cons _ _ _ _ (.bool _) .nil)) h
    · obtain ⟨H', h⟩ := of_run lit1_4
      exact law_calls (X := X0 (vals 0)) (call_ok kn0_ok (funs3_ok kn0_ok) 300) h1 h2 (fun ρ => .cons _ _ _ _ (.int .i64 (.lit (.ofNat 4)) 4 trivial rfl) (.cons _ _ _ _ (.bool _) .nil)) h
    · obtain ⟨H', h⟩ := of_run lit1_5
      exact law_calls (X := X0 (vals 0)) (call_ok kn0_ok (funs3_ok kn0_ok) 300) h1 h2 (fun ρ => .cons _ _ _ _ (.int .i64 (.lit (.ofNat 5)) 5 trivial rfl) (.cons _ _ _ _ (.bool _) .nil)) h
    · obtain ⟨H', h⟩ := of_run lit1_6
      exact law_calls (X := X0 (vals 0)) (call_ok kn0_ok (funs3_ok kn0_ok) 300) h1 h2 (fun ρ => .cons _ _ _ _ (.int .i64 (.lit (.ofNat 6)) 6 trivial rfl) (.cons _ _ _ _ (.bool _) .nil)) h
    · obtain ⟨H', h⟩ := of_run lit1_7
      exact law_calls (X := X0 (vals 0)) (call_ok kn0_ok (funs3_ok kn0_ok) 300) h1 h2 (fun ρ => .cons _ _ _ _ (.int .i64 (.lit (.ofNat 7)) 7 trivial rfl) (.cons _ _ _ _ (.bool _) .nil)) h
    · obtain ⟨H', h⟩ := of_run lit1_8
      exact law_calls (X := X0 (vals 0)) (call_ok kn0_ok (funs3_ok kn0_ok) 300) h1 h2 (fun ρ => .cons _ _ _ _ (.int .i64 (.lit (.ofNat 8)) 8 trivial rfl) (.cons _ _ _ _ (.bool _) .nil)) h
    · obtain ⟨H', h⟩ := of_run lit1_9
      exact law_calls (X := X0 (vals 0)) (call_ok kn0_ok (funs3_ok kn0_ok) 300) h1 h2 (fun ρ => .cons _ _ _ _ (.int .i64 (.lit (.ofNat 9)) 9 trivial rfl) (.cons _ _ _ _ (.bool _) .nil)) h
    · obtain ⟨H', h⟩ := of_run lit1_10
      exact law_calls (X := X0 (vals 0)) (call_ok kn0_ok (funs3_ok kn0_ok) 300) h1 h2 (fun ρ => .cons _ _ _ _ (.int .i64 (.lit (.ofNat 10)) 10 trivial rfl) (.cons _ _ _ _ (.bool _) .nil)) h
    · obtain ⟨H', h⟩ := of_run lit1_11
      exact law_calls (X := X0 (vals 0)) (call_ok kn0_ok (funs3_ok kn0_ok) 300) h1 h2 (fun ρ => .cons _ _ _ _ (.int .i64 (.lit (.ofNat 11)) 11 trivial rfl) (.cons _ _ _ _ (.bool _) .nil)) h
    · obtain ⟨H', h⟩ := of_run lit1_12
      exact law_calls (X := X0 (vals 0)) (call_ok kn0_ok (funs3_ok kn0_ok) 300) h1 h2 (fun ρ => .cons _ _ _ _ (.int .i64 (.lit (.ofNat 12)) 12 trivial rfl) (.cons _ _ _ _ (.bool _) .nil)) h
    · obtain ⟨H', h⟩ := of_run lit1_13
      exact law_calls (X := X0 (vals 0)) (call_ok kn0_ok (funs3_ok kn0_ok) 300) h1 h2 (fun ρ => .cons _ _ _ _ (.int .i64 (.lit (.ofNat 13)) 13 trivial rfl) (.cons _ _ _ _ (.bool _) .nil)) h
    · obtain ⟨H', h⟩ := of_run lit1_14
      exact law_calls (X := X0 (vals 0)) (call_ok kn0_ok (funs3_ok kn0_ok) 300) h1 h2 (fun ρ => .cons _ _ _ _ (.int .i64 (.lit (.ofNat 14)) 14 trivial rfl) (.cons _ _ _ _ (.bool _) .nil)) h
    · obtain ⟨H', h⟩ := of_run lit1_15
      exact law_calls (X := X0 (vals 0)) (call_ok kn0_ok (funs3_ok kn0_ok) 300) h1 h2 (fun ρ => .cons _ _ _ _ (.int .i64 (.lit (.ofNat 15)) 15 trivial rfl) (.cons _ _ _ _ (.bool _) .nil)) h
    · obtain ⟨H', h⟩ := of_run lit1_16
      exact law_calls (X := X0 (vals 0)) (call_ok kn0_ok (funs3_ok kn0_ok) 300) h1 h2 (fun ρ => .cons _ _ _ _ (.int .i64 (.lit (.ofNat 16)) 16 trivial rfl) (.cons _ _ _ _ (.bool _) .nil)) h
    · obtain ⟨H', h⟩ := of_run lit1_17
      exact law_calls (X := X0 (vals 0)) (call_ok kn0_ok (funs3_ok kn0_ok) 300) h1 h2 (fun ρ => .cons _ _ _ _ (.int .i64 (.lit (.ofNat 17)) 17 trivial rfl) (.cons _ _ _ _ (.bool _) .nil)) h
    · obtain ⟨H', h⟩ := of_run lit1_18
      exact law_calls (X := X0 (vals 0)) (call_ok kn0_ok (funs3_ok kn0_ok) 300) h1 h2 (fun ρ => .cons _ _ _ _ (.int .i64 (.lit (.ofNat 18)) 18 trivial rfl) (.cons _ _ _ _ (.bool _) .nil)) h
    · obtain ⟨H', h⟩ := of_run lit1_19
      exact law_calls (X := X0 (vals 0)) (call_ok kn0_ok (funs3_ok kn0_ok) 300) h1 h2 (fun ρ => .cons _ _ _ _ (.int .i64 (.lit (.ofNat 19)) 19 trivial rfl) (.cons _ _ _ _ (.bool _) .nil)) h
    · obtain ⟨H', h⟩ := of_run lit1_20
      exact law_calls (X := X0 (vals 0)) (call_ok kn0_ok (funs3_ok kn0_ok) 300) h1 h2 (fun ρ => .cons _ _ _ _ (.int .i64 (.lit (.ofNat 20)) 20 trivial rfl) (.cons _ _ _ _ (.bool _) .nil)) h
end Ds.Text
end
