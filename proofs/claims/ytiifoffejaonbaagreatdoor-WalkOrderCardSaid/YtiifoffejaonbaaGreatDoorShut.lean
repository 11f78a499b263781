/- The deterministic evaluator D and what is proved with it, part Shut of the claim on YtiifoffejaonbaaGreatDoor. -/
import Derived.Test.YtiifoffejaonbaaGreatDoorCoreD
import Derived.Test.YtiifoffejaonbaaGreatDoorRunA
import Derived.Test.YtiifoffejaonbaaGreatDoorRunB
import Derived.Test.YtiifoffejaonbaaGreatDoorRunC
import Derived.Test.YtiifoffejaonbaaGreatDoorRunD
import Derived.Test.YtiifoffejaonbaaGreatDoorRunE
import Derived.Test.YtiifoffejaonbaaGreatDoorRunF
import Derived.Test.YtiifoffejaonbaaGreatDoorRunG
import Derived.Test.YtiifoffejaonbaaGreatDoorRunH
import Derived.Test.YtiifoffejaonbaaGreatDoorRunI
import Derived.Test.YtiifoffejaonbaaGreatDoorRunJ
import Derived.LaidMore
import Derived.OpenShut
import Derived.Stop.Joined
import Derived.ProofKit
namespace Ds
open Go (IntKind Value World Addr MapEntry Program Sem Result Operand TypeId)

theorem kept_of_stp {X : Cx} {pd : P5 → Prop} {ρ ρ' : Rho} {w w' : World} {H' : Hp} (h : Stp X pd ρ emptyH w ρ' H' w') (may : Go.MemPlace → Prop) : World.keptBut w w' may := by
  refine ⟨h.fr.os, h.fr.output, fun i hi => ?_⟩
  have e : w'.heap[i]? = w.heap[i]? := h.fr.keeps i hi (fun id hl => absurd (emptyH_get id) hl)
  rw [e]
  cases hx : w.heap[i]? with
  | none => rfl
  | some o => cases o <;> first | exact ⟨rfl, rfl, rfl, fun _ _ => rfl⟩ | exact .inr ⟨rfl, rfl⟩ | rfl

/-- A LAW THAT CAME TO TRUE FROM THE EMPTY MEMORY -/
theorem law_calls {P : Program} {X : Cx} {call : CallF} (hcall : CallOk P X call) {w : World} (hg : P.globals.size ≤ w.heap.size) (_h64 : P.globals.size ≤ 64) {f : Nat} {xs : List AV} {vs : List Value} (hv : ∀ ρ, VRs X ρ xs vs) {H' : Hp}
    (hrun : call f xs emptyH = .ok (.bool true) H') : Go.Calls P f vs.toArray w (fun e w' => e = .returned (.bool true) ∧ ∀ may, World.keptBut w w' may) := by
  let ρ : Rho := fun id => if id.num < P.globals.size then some (id.num, 0, 1) else none
  have hb : ∀ id B base C, ρ id = some (B, base, C) → B < w.heap.size := by
    intro id B base C e
    by_cases c : id.num < P.globals.size
    · simp only [ρ, c, if_true, Option.some.injEq, Prod.mk.injEq] at e
      omega
    · simp only [ρ, c, if_false] at e; cases e
  have hG : GR P (fun id => if id.num < 64 then ρ id else none) := by
    intro g h1 h2
    have : (P5.ofNat g).num = g := P5.num_ofNat (by omega)
    exact ⟨1, by simp only [this, h2, if_true, ρ, h1]⟩
  obtain ⟨_, hC⟩ := hcall _ _ emptyH w f xs vs (.bool true) H' hG (HR.empty (X := X) hb) (hv _) hrun
  refine hC.mono (fun e w' he => ?_)
  obtain ⟨ρ', v', rfl, hs, hr⟩ := he
  cases hr with
  | bool b => exact ⟨rfl, kept_of_stp hs⟩

theorem var_lt {P : Program} {W : World} {n : String} {g : Nat} {cs : Array Value} (hg : P.globalNamed n = some g) (hv : W.var? P n = some cs) : g < W.heap.size := by
  simp only [World.var?, hg, Option.bind_some] at hv
  rcases Nat.lt_or_ge g W.heap.size with h | h
  · exact h
  · rw [Array.getElem?_eq_none h] at hv; cases hv
end Ds
set_option maxRecDepth 1000000
noncomputable section
namespace Ds.Text
def vals (n : Int) : Val := { i := fun _ => n, s := fun _ => [], ok := fun _ => by simp }
theorem noFacts {σ : Val} : Facts σ [] := fun _ _ h => by cases h
def memo5 : List (List AV × AV) := [([S src0, .nils], res0), ([S src1, .nils], res1), ([S src2, .nils], res2), ([S src3, .nils], res3), ([S src4, .nils], res4), ([S src5, .nils], res5), ([S src6, .nils], res6), ([S src7, .nils], res7), ([S src8, .nils], res8)]
def memo4 : List (List AV × AV) := [([], .bool true)]
theorem of_run {facts : List (Cond × Bool)} {fs : T3 Fun} {f : Nat} {l : List AV} {v : AV} (h : okIs (callF (mkE facts fs) 300 f l emptyH) v = true) : ∃ H1, callN (mkE facts fs) 300 f l emptyH = .ok v H1 := by
  rw [callF_eq] at h; exact okIs_ok h
def funs3 : T3 Fun := set3 (set3 funs2 (P3.ofNat 6) (.told (memoF memo5))) (P3.ofNat 5) (.told (memoF memo4))
theorem funs3_ok {σ : Val} {facts : List (Cond × Bool)} (hf : Facts σ facts) : ∀ f, f < 512 → FunOk prog (X0 σ) (mkE facts funs3) methNames f (get3 funs3 (P3.ofNat f)) := by
  have h2 := call_ok (σ := σ) noFacts (funs2_ok noFacts) 300
  refine set_ok (by decide) (set_ok (by decide) (funs2_ok hf) (told_ok h2 ?_)) (told_ok h2 ?_)
  · intro x hx
    simp only [memo5, List.mem_cons, List.not_mem_nil, or_false] at hx
    rcases hx with rfl | rfl | rfl | rfl | rfl | rfl | rfl | rfl | rfl
    · exact ⟨rfl, rfl, of_run run_r0⟩
    · exact ⟨rfl, rfl, of_run run_r1⟩
    · exact ⟨rfl, rfl, of_run run_r2⟩
    · exact ⟨rfl, rfl, of_run run_r3⟩
    · exact ⟨rfl, rfl, of_run run_r4⟩
    · exact ⟨rfl, rfl, of_run run_r5⟩
    · exact ⟨rfl, rfl, of_run run_r6⟩
    · exact ⟨rfl, rfl, of_run run_r7⟩
    · exact ⟨rfl, rfl, of_run run_r8⟩
  · intro x hx
    simp only [memo4, List.mem_cons, List.not_mem_nil, or_false] at hx
    subst hx
    exact ⟨rfl, rfl, of_run run_anchor⟩
theorem lit0_0 : okIs (callF (mkE [] funs3) 300 3 [.int .i64 (.lit (.ofNat 0))] emptyH) (.bool true) = true := by decide +kernel
theorem lit0_1 : okIs (callF (mkE [] funs3) 300 3 [.int .i64 (.lit (.ofNat 1))] emptyH) (.bool true) = true := by decide +kernel
theorem lit0_2 : okIs (callF (mkE [] funs3) 300 3 [.int .i64 (.lit (.ofNat 2))] emptyH) (.bool true) = true := by decide +kernel
theorem lit0_3 : okIs (callF (mkE [] funs3) 300 3 [.int .i64 (.lit (.ofNat 3))] emptyH) (.bool true) = true := by decide +kernel
theorem lit0_4 : okIs (callF (mkE [] funs3) 300 3 [.int .i64 (.lit (.ofNat 4))] emptyH) (.bool true) = true := by decide +kernel
theorem lit0_5 : okIs (callF (mkE [] funs3) 300 3 [.int .i64 (.lit (.ofNat 5))] emptyH) (.bool true) = true := by decide +kernel
theorem lit0_6 : okIs (callF (mkE [] funs3) 300 3 [.int .i64 (.lit (.ofNat 6))] emptyH) (.bool true) = true := by decide +kernel
theorem lit0_7 : okIs (callF (mkE [] funs3) 300 3 [.int .i64 (.lit (.ofNat 7))] emptyH) (.bool true) = true := by decide +kernel
theorem lit0_8 : okIs (callF (mkE [] funs3) 300 3 [.int .i64 (.lit (.ofNat 8))] emptyH) (.bool true) = true := by decide +kernel
theorem neg0 : okIs (callF (mkE [(.lti (.var 0) (.lit 0), true)] funs3) 300 3 [.int .i64 (.var 0)] emptyH) (.bool true) = true := by decide +kernel
theorem big0 : okIs (callF (mkE [(.lti (.var 0) (.lit 0), false), (.lti (.lit 8) (.var 0), true)] funs3) 300 3 [.int .i64 (.var 0)] emptyH) (.bool true) = true := by decide +kernel
theorem law_walk (n : Int) (w : Go.World) (hw : 4 ≤ w.heap.size) : Go.Calls prog 3 #[.int .i64 n] w (fun e w' => e = .returned (.bool true) ∧ ∀ may, Go.World.keptBut w w' may) := by
  have hs : prog.globals.size = 4 := by decide +kernel
  have h1 : prog.globals.size ≤ w.heap.size := by rw [hs]; exact hw
  have h2 : prog.globals.size ≤ 64 := by rw [hs]; decide
  by_cases c1 : n < 0
  · have hf : Facts (vals n) [(.lti (.var 0) (.lit 0), true)] := by
      intro c b h
      simp only [List.mem_singleton, Prod.mk.injEq] at h
      obtain ⟨rfl, rfl⟩ := h
      exact decide_eq_true c1
    obtain ⟨H', h⟩ := of_run neg0
    exact law_calls (call_ok hf (funs3_ok hf) 300) h1 h2 (fun ρ => .cons _ _ _ _ (.int .i64 (.var 0) n trivial rfl) .nil) h
  by_cases c2 : 8 < n
  · have hf : Facts (vals n) [(.lti (.var 0) (.lit 0), false), (.lti (.lit 8) (.var 0), true)] := by
      intro c b h
      simp only [List.mem_cons, List.not_mem_nil, or_false, Prod.mk.injEq] at h
      rcases h with ⟨rfl, rfl⟩ | ⟨rfl, rfl⟩
      · exact decide_eq_false c1
      · exact decide_eq_true c2
    obtain ⟨H', h⟩ := of_run big0
    exact law_calls (call_ok hf (funs3_ok hf) 300) h1 h2 (fun ρ => .cons _ _ _ _ (.int .i64 (.var 0) n trivial rfl) .nil) h
  have c3 : n = 0 ∨ n = 1 ∨ n = 2 ∨ n = 3 ∨ n = 4 ∨ n = 5 ∨ n = 6 ∨ n = 7 ∨ n = 8 := by omega
  rcases c3 with rfl | rfl | rfl | rfl | rfl | rfl | rfl | rfl | rfl
  · obtain ⟨H', h⟩ := of_run lit0_0
    exact law_calls (X := X0 (vals 0)) (call_ok noFacts (funs3_ok noFacts) 300) h1 h2 (fun ρ => .cons _ _ _ _ (.int .i64 (.lit (.ofNat 0)) 0 trivial rfl) .nil) h
  · obtain ⟨H', h⟩ := of_run lit0_1
    exact law_calls (X := X0 (vals 0)) (call_ok noFacts (funs3_ok noFacts) 300) h1 h2 (fun ρ => .cons _ _ _ _ (.int .i64 (.lit (.ofNat 1)) 1 trivial rfl) .nil) h
  · obtain ⟨H', h⟩ := of_run lit0_2
    exact law_calls (X := X0 (vals 0)) (call_ok noFacts (funs3_ok noFacts) 300) h1 h2 (fun ρ => .cons _ _ _ _ (.int .i64 (.lit (.ofNat 2)) 2 trivial rfl) .nil) h
  · obtain ⟨H', h⟩ := of_run lit0_3
    exact law_calls (X := X0 (vals 0)) (call_ok noFacts (funs3_ok noFacts) 300) h1 h2 (fun ρ => .cons _ _ _ _ (.int .i64 (.lit (.ofNat 3)) 3 trivial rfl) .nil) h
  · obtain ⟨H', h⟩ := of_run lit0_4
    exact law_calls (X := X0 (vals 0)) (call_ok noFacts (funs3_ok noFacts) 300) h1 h2 (fun ρ => .cons _ _ _ _ (.int .i64 (.lit (.ofNat 4)) 4 trivial rfl) .nil) h
  · obtain ⟨H', h⟩ := of_run lit0_5
    exact law_calls (X := X0 (vals 0)) (call_ok noFacts (funs3_ok noFacts) 300) h1 h2 (fun ρ => .cons _ _ _ _ (.int .i64 (.lit (.ofNat 5)) 5 trivial rfl) .nil) h
  · obtain ⟨H', h⟩ := of_run lit0_6
    exact law_calls (X := X0 (vals 0)) (call_ok noFacts (funs3_ok noFacts) 300) h1 h2 (fun ρ => .cons _ _ _ _ (.int .i64 (.lit (.ofNat 6)) 6 trivial rfl) .nil) h
  · obtain ⟨H', h⟩ := of_run lit0_7
    exact law_calls (X := X0 (vals 0)) (call_ok noFacts (funs3_ok noFacts) 300) h1 h2 (fun ρ => .cons _ _ _ _ (.int .i64 (.lit (.ofNat 7)) 7 trivial rfl) .nil) h
  · obtain ⟨H', h⟩ := of_run lit0_8
    exact law_calls (X := X0 (vals 0)) (call_ok noFacts (funs3_ok noFacts) 300) h1 h2 (fun ρ => .cons _ _ _ _ (.int .i64 (.lit (.ofNat 8)) 8 trivial rfl) .nil) h
end Ds.Text
end
