/- The deterministic evaluator D and what is proved with it, part Mach of the claim on YtpopgcbejolepaaGreatDoor. -/
import Derived.Test.YtpopgcbejolepaaGreatDoorCoreF
import Derived.Test.YtpopgcbejolepaaGreatDoorSym
set_option maxRecDepth 100000
noncomputable section
namespace Ds.Text
open Go (IntKind Value World Addr Program)
def runBody : Code := match dcr with | .seq (.block _ (.loop b)) _ => b | _ => .skip
def runRest : Code := match dcr with | .seq _ r => r | _ => .skip
def goLoop : Option Go.Code → Go.Code | some (.block _ (.loop a)) => a | _ => .skip
def rr12 : Go.Code := sqB (some (sqB fn12.body))
def rb12 : Go.Code := goLoop (some (sqA (some rr12)))
def r212 : Go.Code := sqB (some rr12)
theorem rr12_eq : rr12 = .seq (.block 0 (.loop rb12)) r212 := by kernel_rfl
theorem rb12_ok : cCode prog methNames fn12.ntmps rb12 = some runBody := by kernel_rfl
theorem r212_ok : cCode prog methNames fn12.ntmps r212 = some runRest := by kernel_rfl
theorem iota_id {n : Nat} {m : List (P5 × P5)} {id j : P5} (h : iota n n m id = some j) : j = id ∧ id.num < n := by
  unfold iota at h
  cases hb : Nat.ble (Nat.succ id.num) n with
  | true => rw [hb] at h; cases h; exact ⟨rfl, Nat.le_of_ble_eq_true hb⟩
  | false => rw [hb] at h; cases h
theorem sb0_ok (σ : Val) : SubOk σ (sbOf [] []) σ := ⟨fun _ => rfl, fun _ => rfl⟩
theorem HR.forget {X : Cx} {pd : P5 → Prop} {ρ : Rho} {H : Hp} {w : World} (h : HR X pd ρ H w) {nx : P5} (hnx : H.nx = nx) {l : List (P5 × Obj)} (hl : objsM (sbOf [] []) (iota nx.num nx.num []) H l = true) :
    HR X pd ρ (Hp.of nx l) w ∧ ∀ id, Live (Hp.of nx l) id → Live H id := by
  have key : ∀ id, Live (Hp.of nx l) id → Objm (sbOf [] []) (iota nx.num nx.num []) ((Hp.of nx l).get id) (H.get id) = true := by
    intro id hli
    obtain ⟨j, e, ho⟩ := objsM_mem hl (id, (Hp.of nx l).get id) (Hp.of_live hli)
    obtain ⟨rfl, _⟩ := iota_id e
    exact ho
  have lives : ∀ id, Live (Hp.of nx l) id → Live H id := fun id hli => Objm_live (key id hli) hli
  refine ⟨⟨⟨fun id => ?_, fun i j hi hj => h.inj i j (lives i hi) (lives j hj), fun id hid => ?_, h.below, fun id hp => ?_⟩, fun b o e => ?_⟩, lives⟩
  · by_cases hli : Live (Hp.of nx l) id
    · have hlt : id.num < nx.num := by
        rcases Nat.lt_or_ge id.num nx.num with c | c
        · exact c
        · rw [← hnx] at c; exact absurd (lives id hli) (h.fresh id c).2
      refine ObjR.weak (ι := iota nx.num nx.num []) (id := id) (sb0_ok X.σ) rfl (fun i j e => by rw [(iota_id e).1]) ?_ (key id hli) (h.obj id)
      unfold iota
      rw [Nat.ble_eq_true_of_le (show Nat.succ id.num ≤ nx.num from hlt)]
    · have : (Hp.of nx l).get id = .none := Classical.byContradiction hli
      rw [this]; trivial
  · have hid : H.nx.num ≤ id.num := by rw [hnx]; exact hid
    exact ⟨(h.fresh id hid).1, fun hli => (h.fresh id hid).2 (lives id hli)⟩
  · obtain ⟨B, base, C, e, hm, hno, hnl, hu⟩ := h.pend id hp
    exact ⟨B, base, C, e, hm, fun j hj => hno j (lives j hj), fun hli => hnl (lives id hli), hu⟩
  · obtain ⟨g1, g2, g3⟩ := h.fixd b o e
    exact ⟨g1, fun id hli => g2 id (lives id hli), g3⟩
def runG (as0 : List AV) (nx0 : P5) (l0 : List (P5 × Obj)) (v1 : AV) (nx1 : P5) (l1 : List (P5 × Obj)) (ys : List AV) (H : Hp) : Option (AV × Hp) :=
  match AV.eqbs ys as0 with
  | true => (match P5.beq H.nx nx0 with
    | true => (match objsM (sbOf [] []) (iota nx0.num nx0.num []) H l0 with | true => some (v1, Hp.of nx1 l1) | false => none)
    | false => none)
  | false => none
def isPtrs : List AV → Bool
  | [] => true
  | .ptr _ _ :: l => isPtrs l
  | _ => false
theorem ptrs_any {X Y : Cx} : ∀ {l : List AV}, isPtrs l = true → ∀ (ρ1 ρ3 : Rho) (us : List Value), ρ1.le ρ3 → VRs X ρ1 l us → VRs Y ρ3 l us
  | [], _, ρ1, ρ3, us, _, h => by cases h; exact .nil
  | a :: l, hp, ρ1, ρ3, us, hle, h => by
    cases a <;> simp only [isPtrs, Bool.false_eq_true] at hp
    cases h with
    | cons _ _ v vs r1 r2 =>
      cases r1 with
      | ptr _ _ B base C e => exact .cons _ _ _ _ (.ptr _ _ B base C (hle _ _ e)) (ptrs_any hp ρ1 ρ3 vs hle r2)
theorem run_told {σ : Val} {fx : Nat → Option Go.Obj} {E' : Env} {E : Env} {call : CallF} (hok : EnvOk prog (X0 σ fx) E) (hcall : CallOk prog (X0 σ fx) call) {as0 : List AV} {nx0 : P5} {l0 : List (P5 × Obj)} {v1 : AV} {nx1 : P5} {l1 : List (P5 × Obj)} (hla : as0.length < 512)
    {t1 : T3 AV} {H2 : Hp} (e1 : Code.ev E call dca (enterL anym 0 as0) (Hp.of nx0 l0) = .normal t1 H2) {caps : List AV} (hcaps : evs t1 [q2, q4] = caps) (hptr : isPtrs caps = true)
    (hrch : Rch prog nm0 fx H2.nx.num runBody (fun σ' t' H' id => id = 0 ∧ ∃ E' call' t3 H3 v H4, EnvOk prog ⟨σ', nm0, fx⟩ E' ∧ CallOk prog ⟨σ', nm0, fx⟩ call' ∧ (Code.ev E' call' runRest t' H' = .normal t3 H3 ∨ Code.ev E' call' runRest t' H' = .ret t3 H3) ∧
      endD E' call' [.celln p4 4] (.func 40 caps) 40 [] (.seq (.seq (.reg (.q (P3.ofNat 5) (.mv (.c .nili)) :: dml)) dcd) dcd2) t3 H3 = .ok v H4 ∧
      Weak nx0.num σ' (set3 anym (P3.ofNat 0) v) H4 σ (set3 anym (P3.ofNat 0) v1) (Hp.of nx1 l1)) σ (set3 t1 (P3.ofNat 5) (.func 40 caps)) H2) :
    FunOk prog (X0 σ fx) E' methNames 24 (.mem (runG as0 nx0 l0 v1 nx1 l1)) := by
  intro pd ρ H w ys vs v H' hG hH hv hm
  unfold runG at hm
  cases c1 : AV.eqbs ys as0 with
  | false => rw [c1] at hm; cases hm
  | true =>
    rw [c1] at hm
    have e := AV.eqbs_eq _ _ c1
    subst e
    simp only [] at hm
    cases c2 : P5.beq H.nx nx0 with
    | false => rw [c2] at hm; cases hm
    | true =>
      rw [c2] at hm
      have hnx := (P5.beq_iff _ _).1 c2
      simp only [] at hm
      cases c3 : objsM (sbOf [] []) (iota nx0.num nx0.num []) H l0 with
      | false => rw [c3] at hm; cases hm
      | true =>
        rw [c3] at hm
        simp only [Option.some.injEq, Prod.mk.injEq] at hm
        obtain ⟨rfl, rfl⟩ := hm
        obtain ⟨hH', lives⟩ := HR.forget hH hnx c3
        obtain ⟨hf, hC⟩ := dfr_loop (names := methNames) hmix0 hok hcall (hnm0 (σ := σ) (fx := fx)) shape12 rr12_eq rb12_ok r212_ok hG hH' hv hla e1 rfl
          (fun σ' v H4 => Weak nx0.num σ' (set3 anym (P3.ofNat 0) v) H4 σ (set3 anym (P3.ofNat 0) v1) (Hp.of nx1 l1)) hcaps (fun σ' ρ1 ρ3 us hle r => ptrs_any hptr ρ1 ρ3 us hle r) hrch
        refine ⟨hf, hC.mono (fun e w' he => ?_)⟩
        obtain ⟨σ', ρ', v', v2, H4, rfl, hs, hr, hQ⟩ := he
        have hs' : Stp ⟨σ', nm0, fx⟩ pd ρ H w ρ' H4 w' := by
          refine ⟨hs.le, hs.hr, ⟨fun b hb hn => hs.fr.keeps b hb (fun id hl => hn id (lives id hl)), hs.fr.size, hs.fr.os, hs.fr.output, hs.fr.tape, fun id B hl e => ?_, ?_, fun id hid => hs.fr.old id ?_⟩⟩
          · rcases hs.fr.live id B hl e with h | ⟨j, hj, ej⟩
            · exact .inl h
            · exact .inr ⟨j, lives j hj, ej⟩
          · have := hs.fr.nx; rw [hnx]; exact this
          · rw [hnx] at hid; exact hid
        have hT : TR ⟨σ', nm0, fx⟩ ρ' (set3 anym (P3.ofNat 0) v2) #[v'] := by
          refine ⟨fun i hi => ?_, by simp⟩
          rw [get3_set3]
          by_cases c : P3.ofNat 0 = P3.ofNat i
          · rw [if_pos c]
            have : i = 0 := (P3.ofNat_inj (by omega) (by omega) c).symm
            subst this
            exact hr
          · rw [if_neg c]
            have : get3 anym (P3.ofNat i) = .any := get3_all _ _
            rw [this]; exact .any _
        obtain ⟨ρ'', hs2, hT2⟩ := Stp.weak (Y := X0 σ fx) hs' hT hH.dom hH.pdom rfl rfl (by rw [hnx]; exact hQ)
        refine ⟨ρ'', v', rfl, hs2, ?_⟩
        have := hT2.get 0 (by omega)
        rw [get3_set3, if_pos rfl] at this
        exact this
def iterF (body : T3 AV → Hp → Rc) : Nat → T3 AV → Hp → Rc := fun n => Nat.rec (motive := fun _ => T3 AV → Hp → Rc) (fun t h => .normal t h) (fun _ ih t h => Rc.rec (motive := fun _ => Rc) .no (fun t' h' => ih t' h') (fun _ _ _ => .no) (fun _ _ => .no) (body t h)) n
theorem iterF_eq (body : T3 AV → Hp → Rc) : ∀ n, iterF body n = iterN body n
  | 0 => rfl
  | n + 1 => by
    funext t h
    show Rc.rec (motive := fun _ => Rc) .no (fun t' h' => iterF body n t' h') (fun _ _ _ => .no) (fun _ _ => .no) (body t h) = _
    simp only [iterN, iterF_eq body n]
    cases body t h <;> rfl
def rcN (r : Rc) (k : T3 AV → Hp → Bool) : Bool := match r with | .normal t h => k t h | _ => false
theorem rcN_ok {r : Rc} {k : T3 AV → Hp → Bool} (h : rcN r k = true) : ∃ t H, r = .normal t H ∧ k t H = true := by
  cases r <;> simp only [rcN, Bool.false_eq_true] at h
  exact ⟨_, _, rfl, h⟩
def body300 (K : Kn) : T3 AV → Hp → Rc := CodeF runBody (mkE K funsA) (callF (mkE K funsA) 300)
theorem body300_eq (K : Kn) (t : T3 AV) (h : Hp) : body300 K t h = Code.ev (mkE K funsA) (callN (mkE K funsA) 300) runBody t h := by
  unfold body300
  rw [CodeF_eq, callF_eq]
def segB (K : Kn) (n : Nat) (fr : List (Nat × AV)) (nx : P5) (l : List (P5 × Obj)) (nx1 kid : Nat) (li : List (Nat × SI)) (ls : List (Nat × SS)) (m : List (P5 × P5)) (fr' : List (Nat × AV)) (nx' : P5) (l' : List (P5 × Obj)) : Bool :=
  rcN (iterF (body300 K) n (fOf fr) (Hp.of nx l)) (fun t h => stFits nx1 kid li ls m fr' nx' l' t h)
theorem seg_rch {σ τ : Val} {fx : Nat → Option Go.Obj} {K : Kn} (hK : KnOk σ fx K) (hr : Rng σ) (hfx : FixTab fx) {n : Nat} {fr fr' : List (Nat × AV)} {nx nx' : P5} {l l' : List (P5 × Obj)} {nx1 kid : Nat} {li : List (Nat × SI)} {ls : List (Nat × SS)} {m : List (P5 × P5)} {R : Val → T3 AV → Hp → Nat → Prop}
    (h : segB K n fr nx l nx1 kid li ls m fr' nx' l' = true) (hi : ∀ n, (lookS li n).ev σ = τ.i n) (hs : ∀ n, (lookT ls n).ev σ = τ.s n) (k : Rch prog nm0 fx nx1 runBody R τ (fOf fr') (Hp.of nx' l')) : Rch prog nm0 fx nx1 runBody R σ (fOf fr) (Hp.of nx l) := by
  obtain ⟨t, H, h1, h2⟩ := rcN_ok h
  rw [iterF_eq, show body300 K = Code.ev (mkE K funsA) (callN (mkE K funsA) 300) runBody from funext fun t => funext fun h => body300_eq K t h] at h1
  exact Rch.iter (envOk hK) (call_ok hK (funsA_ok hK hr hfx) 300) n h1 (.weak (stFits_weak h2 hi hs) k)
def rcX (r : Rc) (k : T3 AV → Hp → Bool) : Bool := match r with | .exit 0 t h => k t h | _ => false
theorem rcX_ok {r : Rc} {k : T3 AV → Hp → Bool} (h : rcX r k = true) : ∃ t H, r = .exit 0 t H ∧ k t H = true := by
  cases r with
  | exit i t H =>
    cases i with
    | zero => exact ⟨_, _, rfl, h⟩
    | succ i => simp [rcX] at h
  | no => simp [rcX] at h
  | normal => simp [rcX] at h
  | ret => simp [rcX] at h
def rcE (r : Rc) (k : T3 AV → Hp → Bool) : Bool := match r with | .normal t h => k t h | .ret t h => k t h | _ => false
theorem rcE_ok {r : Rc} {k : T3 AV → Hp → Bool} (h : rcE r k = true) : ∃ t H, (r = .normal t H ∨ r = .ret t H) ∧ k t H = true := by
  cases r <;> simp only [rcE, Bool.false_eq_true] at h
  · exact ⟨_, _, .inl rfl, h⟩
  · exact ⟨_, _, .inr rfl, h⟩
def rrK (r : Rr) (k : AV → Hp → Bool) : Bool := match r with | .ok v h => k v h | .no => false
theorem rrK_ok {r : Rr} {k : AV → Hp → Bool} (h : rrK r k = true) : ∃ v H, r = .ok v H ∧ k v H = true := by
  cases r with
  | no => simp [rrK] at h
  | ok v H => exact ⟨v, H, rfl, h⟩
def endC : Code := .seq (.seq (.reg (.q (P3.ofNat 5) (.mv (.c .nili)) :: dml)) dcd) dcd2
def finB (K : Kn) (n : Nat) (fr : List (Nat × AV)) (nx : P5) (l : List (P5 × Obj)) (caps : List AV) (nx0 : P5) (li : List (Nat × SI)) (ls : List (Nat × SS)) (v1 : AV) (nx1 : P5) (l1 : List (P5 × Obj)) : Bool :=
  rcN (iterF (body300 K) n (fOf fr) (Hp.of nx l)) (fun t h => rcX (body300 K t h) (fun t h => rcE (CodeF runRest (mkE K funsA) (callF (mkE K funsA) 300) t h) (fun t h =>
    rrK (endD (mkE K funsA) (callF (mkE K funsA) 300) [.celln p4 4] (.func 40 caps) 40 [] endC t h) (fun v h => stFits nx0.num nx0.num li ls [] [(0, v1)] nx1 l1 (set3 anym (P3.ofNat 0) v) h))))
abbrev RunR (fx : Nat → Option Go.Obj) (σ : Val) (caps : List AV) (nx0 : P5) (v1 : AV) (nx1 : P5) (l1 : List (P5 × Obj)) : Val → T3 AV → Hp → Nat → Prop := fun σ' t' H' id => id = 0 ∧ ∃ E' call' t3 H3 v H4, EnvOk prog ⟨σ', nm0, fx⟩ E' ∧ CallOk prog ⟨σ', nm0, fx⟩ call' ∧ (Code.ev E' call' runRest t' H' = .normal t3 H3 ∨ Code.ev E' call' runRest t' H' = .ret t3 H3) ∧
      endD E' call' [.celln p4 4] (.func 40 caps) 40 [] (.seq (.seq (.reg (.q (P3.ofNat 5) (.mv (.c .nili)) :: dml)) dcd) dcd2) t3 H3 = .ok v H4 ∧
      Weak nx0.num σ' (set3 anym (P3.ofNat 0) v) H4 σ (set3 anym (P3.ofNat 0) v1) (Hp.of nx1 l1)
theorem fin_rch {σ τ : Val} {fx : Nat → Option Go.Obj} {K : Kn} (hK : KnOk σ fx K) (hr : Rng σ) (hfx : FixTab fx) {n : Nat} {fr : List (Nat × AV)} {nx : P5} {l : List (P5 × Obj)} {caps : List AV} {nx0 : P5} {li : List (Nat × SI)} {ls : List (Nat × SS)} {v1 : AV} {nx1 : P5} {l1 : List (P5 × Obj)} {n1 : Nat}
    (h : finB K n fr nx l caps nx0 li ls v1 nx1 l1 = true) (hi : ∀ n, (lookS li n).ev σ = τ.i n) (hs : ∀ n, (lookT ls n).ev σ = τ.s n) : Rch prog nm0 fx n1 runBody (RunR fx τ caps nx0 v1 nx1 l1) σ (fOf fr) (Hp.of nx l) := by
  have hcall := call_ok hK (funsA_ok hK hr hfx) 300
  obtain ⟨t, H, h1, h2⟩ := rcN_ok h
  rw [iterF_eq, show body300 K = Code.ev (mkE K funsA) (callN (mkE K funsA) 300) runBody from funext fun t => funext fun h => body300_eq K t h] at h1
  refine Rch.iter (envOk hK) hcall n h1 ?_
  obtain ⟨t2, H2, h3, h4⟩ := rcX_ok h2
  rw [body300_eq] at h3
  obtain ⟨t3, H3, h5, h6⟩ := rcE_ok h4
  rw [CodeF_eq, callF_eq] at h5
  obtain ⟨v, H4, h7, h8⟩ := rrK_ok h6
  rw [callF_eq] at h7
  refine .done (envOk hK) hcall h3 ⟨rfl, _, _, t3, H3, v, H4, envOk hK, hcall, h5, h7, ?_⟩
  have hw := stFits_weak h8 hi hs
  refine ⟨?_, hw.nx⟩
  obtain ⟨b, ι, x1, x2, x3, x4, x5, x6⟩ := hw.ex
  exact ⟨b, ι, x1, x2, x3, x4, x5, x6⟩
def preB (K : Kn) (as0 : List AV) (nx0 : P5) (l0 : List (P5 × Obj)) (caps : List AV) (n1 : Nat) (fr : List (Nat × AV)) (nx : P5) (l : List (P5 × Obj)) : Bool :=
  rcN (CodeF dca (mkE K funsA) (callF (mkE K funsA) 300) (enterL anym 0 as0) (Hp.of nx0 l0)) (fun t1 H2 => AV.eqbs (evs t1 [q2, q4]) caps && Nat.beq H2.nx.num n1 && stFits n1 n1 [] [] [] fr nx l (set3 t1 (P3.ofNat 5) (.func 40 caps)) H2)
theorem run_told2 {σ : Val} {fx : Nat → Option Go.Obj} {E' : Env} {K : Kn} (hK : KnOk σ fx K) (hr : Rng σ) (hfx : FixTab fx) {as0 : List AV} {nx0 : P5} {l0 : List (P5 × Obj)} {v1 : AV} {nx1 : P5} {l1 : List (P5 × Obj)} (hla : as0.length < 512) {caps : List AV} (hptr : isPtrs caps = true)
    {n1 : Nat} {fr : List (Nat × AV)} {nx : P5} {l : List (P5 × Obj)} (h : preB K as0 nx0 l0 caps n1 fr nx l = true) (hrch : Rch prog nm0 fx n1 runBody (RunR fx σ caps nx0 v1 nx1 l1) σ (fOf fr) (Hp.of nx l)) :
    FunOk prog (X0 σ fx) E' methNames 24 (.mem (runG as0 nx0 l0 v1 nx1 l1)) := by
  obtain ⟨t1, H2, h1, h2⟩ := rcN_ok h
  rw [CodeF_eq, callF_eq] at h1
  simp only [Bool.and_eq_true] at h2
  obtain ⟨⟨h3, h4⟩, h5⟩ := h2
  have h3 := AV.eqbs_eq _ _ h3
  have h4 := Nat.eq_of_beq_eq_true h4
  subst h4
  exact run_told (envOk hK) (call_ok hK (funsA_ok hK hr hfx) 300) hla h1 h3 hptr (.weak (stFits_weak h5 (fun _ => rfl) (fun _ => rfl)) hrch)
def knM (bd : List (Nat × Int × Int)) (fl : List (Cond × Bool)) : Kn := { facts := fun c => orB (bndF bd c) (symF0 fl c), ix := fun _ _ => none, sl := fun _ _ _ => none, soft := softD }
theorem knM_ok {σ : Val} {fx : Nat → Option Go.Obj} (hr : Rng σ) {bd : List (Nat × Int × Int)} (hb : BdOk σ bd) {fl : List (Cond × Bool)} (hf : FactsL σ fl) : KnOk σ fx (knM bd fl) := by
  refine ⟨fun c b h => ?_, (fun _ _ _ _ h => nomatch h), (fun _ _ _ _ _ h => nomatch h), softD_ok hr⟩
  have h : orB (bndF bd c) (symF0 fl c) = some b := h
  cases hx : bndF bd c with
  | some r => rw [hx] at h; exact bndF_ok hb c b (by rw [hx]; exact h)
  | none => rw [hx] at h; exact symF0_ok hr hf c b h
abbrev x (n : Nat) : P5 := P5.ofNat n
def funsM (Sr : Src) (g : List AV → Hp → Option (AV × Hp)) : T3 Fun := set3 (funsT Sr) (P3.ofNat 24) (.mem g)
theorem told_srcM {σ : Val} {fx : Nat → Option Go.Obj} {h : List Nat} {tl : List (SI × List Nat)} {fl : List (Cond × Bool)} (hfx : FixTab fx) (hr : Rng σ) (hf : FactsL σ fl) (hfb : fl.all (fun x => match x.1 with | .eqi a b => SI.base a && SI.base b | .lti a b => SI.base a && SI.base b | _ => false) = true)
    (hs : srcShape h tl = true) (hsh : numShape tl = true) (hn : NumsOk σ tl) {g : List AV → Hp → Option (AV × Hp)} (hg : Rng (extV σ (mkSrc h tl)) → ∀ E', FunOk prog (X0 (extV σ (mkSrc h tl)) fx) E' methNames 24 (.mem g)) {v : AV} (h1 : SS.base (srcS (.lit h) tl) = true) (h2 : AV.base v = true)
    (hrun : okIs' (callF (mkE (knT (mkSrc h tl) fl) (funsM (mkSrc h tl) g)) 300 16 [.str (.var 1), .nils] emptyH) v = true) : Told1 prog (X0 σ fx) 16 [.str (srcS (.lit h) tl), .nils] v :=
  told_srcG hfx hr hf hfb hs hsh hn (fun hK ok hr' hlen hwf hn' => set_ok (by decide) (funsT_ok (Sr := mkSrc h tl) hK ok hr' hfx hlen hsh hwf hn') (hg hr' _)) h1 h2 hrun
end Ds.Text
end
set_option maxRecDepth 1000000
noncomputable section
namespace Ds.Text
def hP : List Nat := [102,117,110,99,32,109,97,105,110,40,41,32,123,10,115,32,58,61,32,34,97,98,34,10,102,111,114,32,105,32,58,61,32,48,59,32,105,32,60,32]
def tlP : List (SI × List Nat) := [((.var 0), [59,32,105,43,43,32,123,10,115,32,43,61,32,115,10,125,10,102,111,114,32,105,32,58,61,32,48,59,32,105,32,60,32]), ((.var 1), [59,32,105,43,43,32,123,10,112,114,105,110,116,40,115,41,10,125,10,125,10])]
def asP : List AV := [(.ptr (x 1242) 0), (I 50000000)]
def nx_P : P5 := x 1294
def l_P : List (P5 × Obj) := [(x 64,.cells 4 (Cells.ofl [(I 0),(I 0),(S []),(S [])])),
  (x 1021,.grown 1 (Cells.ofl [(S [97,98])])),
  (x 1218,.grown 15 (Cells.ofl [(.bool true),(.bool true),(.bool false),(.bool false),(.bool false),(.bool false),(.bool true),(.bool false),(.bool false),(.bool false),(.bool false),(.bool false),(.bool false),(.bool false),(.bool false)])),
  (x 1232,.grown 162 (Cells.ofl [(I 56),(I 0),(I 0),(I 0),(I 0),.nils,(I 2),(I 0),(I 0),(I 0),(I 0),.nils,(I 5),(I 1),(I 0),(I 0),(I 0),.nils,(I 1),(I 2),(I 0),(I 0),(I 0),.nils,(I 5),(I 3),(I 2),(I 0),(I 0),.nils,(I 56),(I 0),(I 0),(I 0),(I 0),.nils,(I 1),(I 4),(.int .i64 (.var 0)),(I 0),(I 0),.nils,(I 18),(I 5),(I 3),(I 4),(I 0),.nils,(I 27),(I 15),(I 5),(I 0),(I 0),.nils,(I 22),(I 6),(I 1),(I 1),(I 0),.nils,(I 5),(I 1),(I 6),(I 0),(I 0),.nils,(I 1),(I 7),(I 1),(I 0),(I 0),.nils,(I 13),(I 8),(I 3),(I 7),(I 0),.nils,(I 5),(I 3),(I 8),(I 0),(I 0),.nils,(I 26),(I 5),(I 0),(I 0),(I 0),.nils,(I 1),(I 9),(I 0),(I 0),(I 0),.nils,(I 5),(I 10),(I 9),(I 0),(I 0),.nils,(I 56),(I 0),(I 0),(I 0),(I 0),.nils,(I 1),(I 11),(.int .i64 (.var 1)),(I 0),(I 0),.nils,(I 18),(I 12),(I 10),(I 11),(I 0),.nils,(I 27),(I 26),(I 12),(I 0),(I 0),.nils,(I 53),(I 1),(I 2),(I 0),(I 0),.nils,(I 1),(I 13),(I 1),(I 0),(I 0),.nils,(I 13),(I 14),(I 10),(I 13),(I 0),.nils,(I 5),(I 10),(I 14),(I 0),(I 0),.nils,(I 26),(I 17),(I 0),(I 0),(I 0),.nils,(I 48),(.int .i64 (.lit (.negSucc 0))),(I 0),(I 0),(I 0),.nils])),
  (x 1234,.grown 6 (Cells.ofl [(S [109,97,105,110]),(.su (x 1218) 0 15 1),(I 0),(I 0),(.bool false),(.su (x 1232) 0 27 6)])),
  (x 1236,.cells 4 (Cells.ofl [(I 0),(I 0),(S []),(S [])])),
  (x 1237,.cells 5 (Cells.ofl [(I 0),(I 0),(I 0),(I 0),(I 0)])),
  (x 1238,.cells 11 (Cells.ofl [(.su (x 1021) 0 1 1),.nils,.nils,(.su (x 1234) 0 1 6),(I 1),(I 0),(I 0),(I 0),(I 0),(I 0),(I 0)])),
  (x 1240,.map []),
  (x 1241,.cells 2 (Cells.ofl [.nils,.nils])),
  (x 1242,.cells 16 (Cells.ofl [(.su (x 1021) 0 1 1),.nils,.nils,(.su (x 1234) 0 1 6),(I 1),(.ifc 67 (.ptr (x 1238) 0)),(.ptr (x 1241) 0),.nils,(.sl (x 1293) 0 1 1),(I 0),(.map (x 1240)),.nils,(I 0),(S []),(I 0),.nilf])),
  (x 1245,.cells 18 (Cells.ofl [(I 1),(I 0),(.su (x 1290) 0 15 8),(.int .i64 (.lit (.negSucc 0))),.nils,(.bool false),(.bool false),(S []),(.bool false),(I 0),(S []),.nilp,(I 0),(I 0),(I 0),.nilp,.nilp,(.bool false)])),
  (x 1290,.grown 120 (Cells.ofl [(I 0),(S []),.nilp,(I 0),(I 0),(I 0),.nilp,.nilp,(I 0),(S []),.nilp,(I 0),(I 0),(I 0),.nilp,.nilp,(I 0),(S []),.nilp,(I 0),(I 0),(I 0),.nilp,.nilp,(I 0),(S []),.nilp,(I 0),(I 0),(I 0),.nilp,.nilp,(I 0),(S []),.nilp,(I 0),(I 0),(I 0),.nilp,.nilp,(I 0),(S []),.nilp,(I 0),(I 0),(I 0),.nilp,.nilp,(I 0),(S []),.nilp,(I 0),(I 0),(I 0),.nilp,.nilp,(I 0),(S []),.nilp,(I 0),(I 0),(I 0),.nilp,.nilp,(I 0),(S []),.nilp,(I 0),(I 0),(I 0),.nilp,.nilp,(I 0),(S []),.nilp,(I 0),(I 0),(I 0),.nilp,.nilp,(I 0),(S []),.nilp,(I 0),(I 0),(I 0),.nilp,.nilp,(I 0),(S []),.nilp,(I 0),(I 0),(I 0),.nilp,.nilp,(I 0),(S []),.nilp,(I 0),(I 0),(I 0),.nilp,.nilp,(I 0),(S []),.nilp,(I 0),(I 0),(I 0),.nilp,.nilp,(I 0),(S []),.nilp,(I 0),(I 0),(I 0),.nilp,.nilp])),
  (x 1291,.cells 1 (Cells.ofl [(.ptr (x 1245) 0)])),
  (x 1292,.cells 4 (Cells.ofl [(.sl (x 1291) 0 1 1),.nils,(S []),(.bool false)])),
  (x 1293,.cells 1 (Cells.ofl [(.ptr (x 1292) 0)]))]
def fr_S0 : List (Nat × AV) := [(0,(.ptr (x 1242) 0)),(1,(I 50000000)),(2,(.ptr (x 1294) 0)),(4,(.ptr (x 1295) 0)),(5,(.func 40 [(.ptr (x 1294) 0),(.ptr (x 1295) 0)]))]
def nx_S0 : P5 := x 1296
def l_S0 : List (P5 × Obj) := [(x 64,.cells 4 (Cells.ofl [(I 0),(I 0),(S []),(S [])])),
  (x 1021,.grown 1 (Cells.ofl [(S [97,98])])),
  (x 1218,.grown 15 (Cells.ofl [(.bool true),(.bool true),(.bool false),(.bool false),(.bool false),(.bool false),(.bool true),(.bool false),(.bool false),(.bool false),(.bool false),(.bool false),(.bool false),(.bool false),(.bool false)])),
  (x 1232,.grown 162 (Cells.ofl [(I 56),(I 0),(I 0),(I 0),(I 0),.nils,(I 2),(I 0),(I 0),(I 0),(I 0),.nils,(I 5),(I 1),(I 0),(I 0),(I 0),.nils,(I 1),(I 2),(I 0),(I 0),(I 0),.nils,(I 5),(I 3),(I 2),(I 0),(I 0),.nils,(I 56),(I 0),(I 0),(I 0),(I 0),.nils,(I 1),(I 4),(.int .i64 (.var 0)),(I 0),(I 0),.nils,(I 18),(I 5),(I 3),(I 4),(I 0),.nils,(I 27),(I 15),(I 5),(I 0),(I 0),.nils,(I 22),(I 6),(I 1),(I 1),(I 0),.nils,(I 5),(I 1),(I 6),(I 0),(I 0),.nils,(I 1),(I 7),(I 1),(I 0),(I 0),.nils,(I 13),(I 8),(I 3),(I 7),(I 0),.nils,(I 5),(I 3),(I 8),(I 0),(I 0),.nils,(I 26),(I 5),(I 0),(I 0),(I 0),.nils,(I 1),(I 9),(I 0),(I 0),(I 0),.nils,(I 5),(I 10),(I 9),(I 0),(I 0),.nils,(I 56),(I 0),(I 0),(I 0),(I 0),.nils,(I 1),(I 11),(.int .i64 (.var 1)),(I 0),(I 0),.nils,(I 18),(I 12),(I 10),(I 11),(I 0),.nils,(I 27),(I 26),(I 12),(I 0),(I 0),.nils,(I 53),(I 1),(I 2),(I 0),(I 0),.nils,(I 1),(I 13),(I 1),(I 0),(I 0),.nils,(I 13),(I 14),(I 10),(I 13),(I 0),.nils,(I 5),(I 10),(I 14),(I 0),(I 0),.nils,(I 26),(I 17),(I 0),(I 0),(I 0),.nils,(I 48),(.int .i64 (.lit (.negSucc 0))),(I 0),(I 0),(I 0),.nils])),
  (x 1234,.grown 6 (Cells.ofl [(S [109,97,105,110]),(.su (x 1218) 0 15 1),(I 0),(I 0),(.bool false),(.su (x 1232) 0 27 6)])),
  (x 1236,.cells 4 (Cells.ofl [(I 0),(I 0),(S []),(S [])])),
  (x 1237,.cells 5 (Cells.ofl [(I 0),(I 0),(I 0),(I 0),(I 0)])),
  (x 1238,.cells 11 (Cells.ofl [(.su (x 1021) 0 1 1),.nils,.nils,(.su (x 1234) 0 1 6),(I 1),(I 0),(I 0),(I 0),(I 0),(I 0),(I 0)])),
  (x 1240,.map []),
  (x 1241,.cells 2 (Cells.ofl [.nils,.nils])),
  (x 1242,.cells 16 (Cells.ofl [(.su (x 1021) 0 1 1),.nils,.nils,(.su (x 1234) 0 1 6),(I 1),(.ifc 67 (.ptr (x 1238) 0)),(.ptr (x 1241) 0),.nils,(.sl (x 1293) 0 1 1),(I 0),(.map (x 1240)),.nils,(I 0),(S []),(I 0),.nilf])),
  (x 1245,.cells 18 (Cells.ofl [(I 1),(I 0),(.su (x 1290) 0 15 8),(.int .i64 (.lit (.negSucc 0))),.nils,(.bool false),(.bool false),(S []),(.bool false),(I 0),(S []),.nilp,(I 0),(I 0),(I 0),.nilp,.nilp,(.bool false)])),
  (x 1290,.grown 120 (Cells.ofl [(I 0),(S []),.nilp,(I 0),(I 0),(I 0),.nilp,.nilp,(I 0),(S []),.nilp,(I 0),(I 0),(I 0),.nilp,.nilp,(I 0),(S []),.nilp,(I 0),(I 0),(I 0),.nilp,.nilp,(I 0),(S []),.nilp,(I 0),(I 0),(I 0),.nilp,.nilp,(I 0),(S []),.nilp,(I 0),(I 0),(I 0),.nilp,.nilp,(I 0),(S []),.nilp,(I 0),(I 0),(I 0),.nilp,.nilp,(I 0),(S []),.nilp,(I 0),(I 0),(I 0),.nilp,.nilp,(I 0),(S []),.nilp,(I 0),(I 0),(I 0),.nilp,.nilp,(I 0),(S []),.nilp,(I 0),(I 0),(I 0),.nilp,.nilp,(I 0),(S []),.nilp,(I 0),(I 0),(I 0),.nilp,.nilp,(I 0),(S []),.nilp,(I 0),(I 0),(I 0),.nilp,.nilp,(I 0),(S []),.nilp,(I 0),(I 0),(I 0),.nilp,.nilp,(I 0),(S []),.nilp,(I 0),(I 0),(I 0),.nilp,.nilp,(I 0),(S []),.nilp,(I 0),(I 0),(I 0),.nilp,.nilp,(I 0),(S []),.nilp,(I 0),(I 0),(I 0),.nilp,.nilp])),
  (x 1291,.cells 1 (Cells.ofl [(.ptr (x 1245) 0)])),
  (x 1292,.cells 4 (Cells.ofl [(.sl (x 1291) 0 1 1),.nils,(S []),(.bool false)])),
  (x 1293,.cells 1 (Cells.ofl [(.ptr (x 1292) 0)])),
  (x 1294,.cells 1 (Cells.ofl [(.ptr (x 1242) 0)])),
  (x 1295,.cells 4 (Cells.ofl [(I 0),(I 0),(S []),(S [])]))]
def fr_S1 : List (Nat × AV) := [(0,(.ptr (x 1242) 0)),(1,(.int .i64 (.var 452))),(2,(.ptr (x 1294) 0)),(4,(.ptr (x 1295) 0)),(5,(.func 40 [(.ptr (x 1294) 0),(.ptr (x 1295) 0)]))]
def nx_S1 : P5 := x 1296
def l_S1 : List (P5 × Obj) := [(x 64,.cells 4 (Cells.ofl [(I 0),(I 0),(S []),(S [])])),
  (x 1021,.grown 1 (Cells.ofl [(S [97,98])])),
  (x 1218,.grown 15 (Cells.ofl [(.bool true),(.bool true),(.bool false),(.bool false),(.bool false),(.bool false),(.bool true),(.bool false),(.bool false),(.bool false),(.bool false),(.bool false),(.bool false),(.bool false),(.bool false)])),
  (x 1232,.grown 162 (Cells.ofl [(I 56),(I 0),(I 0),(I 0),(I 0),.nils,(I 2),(I 0),(I 0),(I 0),(I 0),.nils,(I 5),(I 1),(I 0),(I 0),(I 0),.nils,(I 1),(I 2),(I 0),(I 0),(I 0),.nils,(I 5),(I 3),(I 2),(I 0),(I 0),.nils,(I 56),(I 0),(I 0),(I 0),(I 0),.nils,(I 1),(I 4),(.int .i64 (.var 0)),(I 0),(I 0),.nils,(I 18),(I 5),(I 3),(I 4),(I 0),.nils,(I 27),(I 15),(I 5),(I 0),(I 0),.nils,(I 22),(I 6),(I 1),(I 1),(I 0),.nils,(I 5),(I 1),(I 6),(I 0),(I 0),.nils,(I 1),(I 7),(I 1),(I 0),(I 0),.nils,(I 13),(I 8),(I 3),(I 7),(I 0),.nils,(I 5),(I 3),(I 8),(I 0),(I 0),.nils,(I 26),(I 5),(I 0),(I 0),(I 0),.nils,(I 1),(I 9),(I 0),(I 0),(I 0),.nils,(I 5),(I 10),(I 9),(I 0),(I 0),.nils,(I 56),(I 0),(I 0),(I 0),(I 0),.nils,(I 1),(I 11),(.int .i64 (.var 1)),(I 0),(I 0),.nils,(I 18),(I 12),(I 10),(I 11),(I 0),.nils,(I 27),(I 26),(I 12),(I 0),(I 0),.nils,(I 53),(I 1),(I 2),(I 0),(I 0),.nils,(I 1),(I 13),(I 1),(I 0),(I 0),.nils,(I 13),(I 14),(I 10),(I 13),(I 0),.nils,(I 5),(I 10),(I 14),(I 0),(I 0),.nils,(I 26),(I 17),(I 0),(I 0),(I 0),.nils,(I 48),(.int .i64 (.lit (.negSucc 0))),(I 0),(I 0),(I 0),.nils])),
  (x 1234,.grown 6 (Cells.ofl [(S [109,97,105,110]),(.su (x 1218) 0 15 1),(I 0),(I 0),(.bool false),(.su (x 1232) 0 27 6)])),
  (x 1236,.cells 4 (Cells.ofl [(I 0),(I 0),(S []),(S [])])),
  (x 1237,.cells 5 (Cells.ofl [(I 0),(I 0),(I 0),(I 0),(I 0)])),
  (x 1238,.cells 11 (Cells.ofl [(.su (x 1021) 0 1 1),.nils,.nils,(.su (x 1234) 0 1 6),(I 1),(I 0),(I 0),(I 0),(I 0),(I 0),(I 0)])),
  (x 1240,.map []),
  (x 1241,.cells 2 (Cells.ofl [.nils,.nils])),
  (x 1242,.cells 16 (Cells.ofl [(.su (x 1021) 0 1 1),.nils,.nils,(.su (x 1234) 0 1 6),(I 1),(.ifc 67 (.ptr (x 1238) 0)),(.ptr (x 1241) 0),.nils,(.sl (x 1293) 0 1 1),(I 0),(.map (x 1240)),.nils,(I 0),(S []),(.int .i64 (.var 453)),.nilf])),
  (x 1245,.cells 18 (Cells.ofl [(I 1),(I 5),(.su (x 1290) 0 15 8),(.int .i64 (.lit (.negSucc 0))),.nils,(.bool false),(.bool false),(S []),(.bool false),(I 0),(S []),.nilp,(I 0),(I 0),(I 0),.nilp,.nilp,(.bool false)])),
  (x 1290,.grown 120 (Cells.ofl [(I 0),(S [97,98]),.nilp,(I 0),(I 0),(I 0),.nilp,.nilp,(I 0),(.str (.cat (.lit [97]) (.var 405))),.nilp,(I 0),(I 0),(I 0),.nilp,.nilp,.any,.any,.nilp,(I 0),(I 0),(I 0),.nilp,.nilp,(.int .i64 (.var 450)),(S []),.nilp,(I 0),(I 0),(I 0),.nilp,.nilp,.any,.any,.nilp,(I 0),(I 0),(I 0),.nilp,.nilp,.any,.any,.nilp,(I 0),(I 0),(I 0),.nilp,.nilp,.any,.any,.nilp,(I 0),(I 0),(I 0),.nilp,.nilp,.any,.any,.nilp,(I 0),(I 0),(I 0),.nilp,.nilp,.any,.any,.nilp,(I 0),(I 0),(I 0),.nilp,.nilp,.any,.any,.nilp,(I 0),(I 0),(I 0),.nilp,.nilp,.any,.any,.nilp,(I 0),(I 0),(I 0),.nilp,.nilp,.any,.any,.nilp,(I 0),(I 0),(I 0),.nilp,.nilp,.any,.any,.nilp,(I 0),(I 0),(I 0),.nilp,.nilp,.any,.any,.nilp,(I 0),(I 0),(I 0),.nilp,.nilp,.any,.any,.nilp,(I 0),(I 0),(I 0),.nilp,.nilp])),
  (x 1291,.cells 1 (Cells.ofl [(.ptr (x 1245) 0)])),
  (x 1292,.cells 4 (Cells.ofl [(.sl (x 1291) 0 1 1),.nils,(S []),(.bool false)])),
  (x 1293,.cells 1 (Cells.ofl [(.ptr (x 1292) 0)])),
  (x 1294,.cells 1 (Cells.ofl [(.ptr (x 1242) 0)])),
  (x 1295,.cells 4 (Cells.ofl [(I 0),(I 0),(S []),(S [])]))]
def fr_S2a : List (Nat × AV) := [(0,(.ptr (x 1242) 0)),(1,(.int .i64 (.var 452))),(2,(.ptr (x 1294) 0)),(4,(.ptr (x 1295) 0)),(5,(.func 40 [(.ptr (x 1294) 0),(.ptr (x 1295) 0)]))]
def nx_S2a : P5 := x 1296
def l_S2a : List (P5 × Obj) := [(x 64,.cells 4 (Cells.ofl [(I 0),(I 0),(S []),(S [])])),
  (x 1021,.grown 1 (Cells.ofl [(S [97,98])])),
  (x 1218,.grown 15 (Cells.ofl [(.bool true),(.bool true),(.bool false),(.bool false),(.bool false),(.bool false),(.bool true),(.bool false),(.bool false),(.bool false),(.bool false),(.bool false),(.bool false),(.bool false),(.bool false)])),
  (x 1232,.grown 162 (Cells.ofl [(I 56),(I 0),(I 0),(I 0),(I 0),.nils,(I 2),(I 0),(I 0),(I 0),(I 0),.nils,(I 5),(I 1),(I 0),(I 0),(I 0),.nils,(I 1),(I 2),(I 0),(I 0),(I 0),.nils,(I 5),(I 3),(I 2),(I 0),(I 0),.nils,(I 56),(I 0),(I 0),(I 0),(I 0),.nils,(I 1),(I 4),(.int .i64 (.var 0)),(I 0),(I 0),.nils,(I 18),(I 5),(I 3),(I 4),(I 0),.nils,(I 27),(I 15),(I 5),(I 0),(I 0),.nils,(I 22),(I 6),(I 1),(I 1),(I 0),.nils,(I 5),(I 1),(I 6),(I 0),(I 0),.nils,(I 1),(I 7),(I 1),(I 0),(I 0),.nils,(I 13),(I 8),(I 3),(I 7),(I 0),.nils,(I 5),(I 3),(I 8),(I 0),(I 0),.nils,(I 26),(I 5),(I 0),(I 0),(I 0),.nils,(I 1),(I 9),(I 0),(I 0),(I 0),.nils,(I 5),(I 10),(I 9),(I 0),(I 0),.nils,(I 56),(I 0),(I 0),(I 0),(I 0),.nils,(I 1),(I 11),(.int .i64 (.var 1)),(I 0),(I 0),.nils,(I 18),(I 12),(I 10),(I 11),(I 0),.nils,(I 27),(I 26),(I 12),(I 0),(I 0),.nils,(I 53),(I 1),(I 2),(I 0),(I 0),.nils,(I 1),(I 13),(I 1),(I 0),(I 0),.nils,(I 13),(I 14),(I 10),(I 13),(I 0),.nils,(I 5),(I 10),(I 14),(I 0),(I 0),.nils,(I 26),(I 17),(I 0),(I 0),(I 0),.nils,(I 48),(.int .i64 (.lit (.negSucc 0))),(I 0),(I 0),(I 0),.nils])),
  (x 1234,.grown 6 (Cells.ofl [(S [109,97,105,110]),(.su (x 1218) 0 15 1),(I 0),(I 0),(.bool false),(.su (x 1232) 0 27 6)])),
  (x 1236,.cells 4 (Cells.ofl [(I 0),(I 0),(S []),(S [])])),
  (x 1237,.cells 5 (Cells.ofl [(I 0),(I 0),(I 0),(I 0),(I 0)])),
  (x 1238,.cells 11 (Cells.ofl [(.su (x 1021) 0 1 1),.nils,.nils,(.su (x 1234) 0 1 6),(I 1),(I 0),(I 0),(I 0),(I 0),(I 0),(I 0)])),
  (x 1240,.map []),
  (x 1241,.cells 2 (Cells.ofl [.nils,.nils])),
  (x 1242,.cells 16 (Cells.ofl [(.su (x 1021) 0 1 1),.nils,.nils,(.su (x 1234) 0 1 6),(I 1),(.ifc 67 (.ptr (x 1238) 0)),(.ptr (x 1241) 0),.nils,(.sl (x 1293) 0 1 1),(I 0),(.map (x 1240)),.nils,(I 0),(S []),(.int .i64 (.var 453)),.nilf])),
  (x 1245,.cells 18 (Cells.ofl [(I 1),(I 17),(.su (x 1290) 0 15 8),(.int .i64 (.lit (.negSucc 0))),.nils,(.bool false),(.bool false),(S []),(.bool false),(I 0),(S []),.nilp,(I 0),(I 0),(I 0),.nilp,.nilp,(.bool false)])),
  (x 1290,.grown 120 (Cells.ofl [.any,.any,.nilp,(I 0),(I 0),(I 0),.nilp,.nilp,(I 0),(.str (.cat (.lit [97]) (.var 405))),.nilp,(I 0),(I 0),(I 0),.nilp,.nilp,.any,.any,.nilp,(I 0),(I 0),(I 0),.nilp,.nilp,.any,.any,.nilp,(I 0),(I 0),(I 0),.nilp,.nilp,.any,.any,.nilp,(I 0),(I 0),(I 0),.nilp,.nilp,.any,.any,.nilp,(I 0),(I 0),(I 0),.nilp,.nilp,.any,.any,.nilp,(I 0),(I 0),(I 0),.nilp,.nilp,.any,.any,.nilp,(I 0),(I 0),(I 0),.nilp,.nilp,.any,.any,.nilp,(I 0),(I 0),(I 0),.nilp,.nilp,.any,.any,.nilp,(I 0),(I 0),(I 0),.nilp,.nilp,(.int .i64 (.var 450)),(S []),.nilp,(I 0),(I 0),(I 0),.nilp,.nilp,.any,.any,.nilp,(I 0),(I 0),(I 0),.nilp,.nilp,.any,.any,.nilp,(I 0),(I 0),(I 0),.nilp,.nilp,.any,.any,.nilp,(I 0),(I 0),(I 0),.nilp,.nilp,.any,.any,.nilp,(I 0),(I 0),(I 0),.nilp,.nilp])),
  (x 1291,.cells 1 (Cells.ofl [(.ptr (x 1245) 0)])),
  (x 1292,.cells 4 (Cells.ofl [(.sl (x 1291) 0 1 1),.nils,(S []),(.bool false)])),
  (x 1293,.cells 1 (Cells.ofl [(.ptr (x 1292) 0)])),
  (x 1294,.cells 1 (Cells.ofl [(.ptr (x 1242) 0)])),
  (x 1295,.cells 4 (Cells.ofl [(I 0),(I 0),(S []),(S [])]))]
def fr_S2b : List (Nat × AV) := [(0,(.ptr (x 1242) 0)),(1,(.int .i64 (.var 452))),(2,(.ptr (x 1294) 0)),(4,(.ptr (x 1295) 0)),(5,(.func 40 [(.ptr (x 1294) 0),(.ptr (x 1295) 0)]))]
def nx_S2b : P5 := x 1297
def l_S2b : List (P5 × Obj) := [(x 64,.cells 4 (Cells.ofl [(I 0),(I 0),(S []),(S [])])),
  (x 1021,.grown 1 (Cells.ofl [(S [97,98])])),
  (x 1218,.grown 15 (Cells.ofl [(.bool true),(.bool true),(.bool false),(.bool false),(.bool false),(.bool false),(.bool true),(.bool false),(.bool false),(.bool false),(.bool false),(.bool false),(.bool false),(.bool false),(.bool false)])),
  (x 1232,.grown 162 (Cells.ofl [(I 56),(I 0),(I 0),(I 0),(I 0),.nils,(I 2),(I 0),(I 0),(I 0),(I 0),.nils,(I 5),(I 1),(I 0),(I 0),(I 0),.nils,(I 1),(I 2),(I 0),(I 0),(I 0),.nils,(I 5),(I 3),(I 2),(I 0),(I 0),.nils,(I 56),(I 0),(I 0),(I 0),(I 0),.nils,(I 1),(I 4),(.int .i64 (.var 0)),(I 0),(I 0),.nils,(I 18),(I 5),(I 3),(I 4),(I 0),.nils,(I 27),(I 15),(I 5),(I 0),(I 0),.nils,(I 22),(I 6),(I 1),(I 1),(I 0),.nils,(I 5),(I 1),(I 6),(I 0),(I 0),.nils,(I 1),(I 7),(I 1),(I 0),(I 0),.nils,(I 13),(I 8),(I 3),(I 7),(I 0),.nils,(I 5),(I 3),(I 8),(I 0),(I 0),.nils,(I 26),(I 5),(I 0),(I 0),(I 0),.nils,(I 1),(I 9),(I 0),(I 0),(I 0),.nils,(I 5),(I 10),(I 9),(I 0),(I 0),.nils,(I 56),(I 0),(I 0),(I 0),(I 0),.nils,(I 1),(I 11),(.int .i64 (.var 1)),(I 0),(I 0),.nils,(I 18),(I 12),(I 10),(I 11),(I 0),.nils,(I 27),(I 26),(I 12),(I 0),(I 0),.nils,(I 53),(I 1),(I 2),(I 0),(I 0),.nils,(I 1),(I 13),(I 1),(I 0),(I 0),.nils,(I 13),(I 14),(I 10),(I 13),(I 0),.nils,(I 5),(I 10),(I 14),(I 0),(I 0),.nils,(I 26),(I 17),(I 0),(I 0),(I 0),.nils,(I 48),(.int .i64 (.lit (.negSucc 0))),(I 0),(I 0),(I 0),.nils])),
  (x 1234,.grown 6 (Cells.ofl [(S [109,97,105,110]),(.su (x 1218) 0 15 1),(I 0),(I 0),(.bool false),(.su (x 1232) 0 27 6)])),
  (x 1236,.cells 4 (Cells.ofl [(I 0),(I 0),(S []),(S [])])),
  (x 1237,.cells 5 (Cells.ofl [(I 0),(I 0),(I 0),(I 0),(I 0)])),
  (x 1238,.cells 11 (Cells.ofl [(.su (x 1021) 0 1 1),.nils,.nils,(.su (x 1234) 0 1 6),(I 1),(I 0),(I 0),(I 0),(I 0),(I 0),(I 0)])),
  (x 1240,.map []),
  (x 1241,.cells 2 (Cells.ofl [.nils,.nils])),
  (x 1242,.cells 16 (Cells.ofl [(.su (x 1021) 0 1 1),.nils,.nils,(.su (x 1234) 0 1 6),(I 1),(.ifc 67 (.ptr (x 1238) 0)),(.ptr (x 1241) 0),.nils,(.sl (x 1293) 0 1 1),(I 0),(.map (x 1240)),(.buf (x 1296) (.slen (.var 406))),(I 0),(S []),(.int .i64 (.var 453)),.nilf])),
  (x 1245,.cells 18 (Cells.ofl [(I 1),(I 17),(.su (x 1290) 0 15 8),(.int .i64 (.lit (.negSucc 0))),.nils,(.bool false),(.bool false),(S []),(.bool false),(I 0),(S []),.nilp,(I 0),(I 0),(I 0),.nilp,.nilp,(.bool false)])),
  (x 1290,.grown 120 (Cells.ofl [.any,.any,.nilp,(I 0),(I 0),(I 0),.nilp,.nilp,(I 0),(.str (.cat (.lit [97]) (.var 405))),.nilp,(I 0),(I 0),(I 0),.nilp,.nilp,.any,.any,.nilp,(I 0),(I 0),(I 0),.nilp,.nilp,.any,.any,.nilp,(I 0),(I 0),(I 0),.nilp,.nilp,.any,.any,.nilp,(I 0),(I 0),(I 0),.nilp,.nilp,.any,.any,.nilp,(I 0),(I 0),(I 0),.nilp,.nilp,.any,.any,.nilp,(I 0),(I 0),(I 0),.nilp,.nilp,.any,.any,.nilp,(I 0),(I 0),(I 0),.nilp,.nilp,.any,.any,.nilp,(I 0),(I 0),(I 0),.nilp,.nilp,.any,.any,.nilp,(I 0),(I 0),(I 0),.nilp,.nilp,(.int .i64 (.var 450)),(S []),.nilp,(I 0),(I 0),(I 0),.nilp,.nilp,.any,.any,.nilp,(I 0),(I 0),(I 0),.nilp,.nilp,.any,.any,.nilp,(I 0),(I 0),(I 0),.nilp,.nilp,.any,.any,.nilp,(I 0),(I 0),(I 0),.nilp,.nilp,.any,.any,.nilp,(I 0),(I 0),(I 0),.nilp,.nilp])),
  (x 1291,.cells 1 (Cells.ofl [(.ptr (x 1245) 0)])),
  (x 1292,.cells 4 (Cells.ofl [(.sl (x 1291) 0 1 1),.nils,(S []),(.bool false)])),
  (x 1293,.cells 1 (Cells.ofl [(.ptr (x 1292) 0)])),
  (x 1294,.cells 1 (Cells.ofl [(.ptr (x 1242) 0)])),
  (x 1295,.cells 4 (Cells.ofl [(I 0),(I 0),(S []),(S [])])),
  (x 1296,.bytes (.var 406))]
end Ds.Text
end
set_option maxRecDepth 1000000
set_option Elab.async false
noncomputable section
namespace Ds.Text
def capsP : List AV := [.ptr (x 1294) 0, .ptr (x 1295) 0]
def decN : Nat → SI → SI
  | 0, e => e
  | n + 1, e => .bin .sub .i64 (decN n e) (.lit 1)
def incE (i : Nat) : SI := .bin .add .i64 (.var i) (.lit 1)
def bdP : List (Nat × Int × Int) := [(452, 1000, 50000000), (453, 0, 1000000), (450, 0, 1000)]
def sT : SS := .cat (.lit [97]) (.var 405)
def made0 : List (P5 × Obj) := [(x 64, .cells 4 (Cells.ofl [I 0, I 0, S [], S []])), (x 1236, .cells 4 (Cells.ofl [I 0, I 0, S [], S []])), (x 1237, .cells 5 (Cells.ofl [I 0, I 0, I 0, I 0, I 0])), (x 1238, .cells 11 (Cells.ofl [.any, .any, .any, .any, .any, I 0, I 0, I 0, I 0, I 0, I 0]))]
def vN : AV := .agg [I 1, I 0, .str (.var 407), S []]
def vO : AV := .agg [I 2, I 2, .str (.var 407), S [102,97,116,97,108,58,32,116,111,111,32,109,117,99,104,32,111,117,116,112,117,116]]
theorem pre_P : preB (knM [] []) asP nx_P l_P capsP 1296 fr_S0 nx_S0 l_S0 = true := by decide +kernel
theorem seg_A : segB (knM [] []) 5 fr_S0 nx_S0 l_S0 1296 1296 [(450, .lit 0), (452, .lit 49999995), (453, .lit 1)] [(405, .lit [98])] [] fr_S1 nx_S1 l_S1 = true := by decide +kernel
def flB : List (Cond × Bool) := [(.lti (.var 450) (.var 0), true), (.lti (.lit 16384) (.bin .add .i64 (.slen sT) (.slen sT)), false)]
theorem seg_B : segB (knM bdP flB) 10 fr_S1 nx_S1 l_S1 1296 1296 [(450, incE 450), (452, decN 10 (.var 452)), (453, incE 453)] [(405, .cat (.var 405) (.cat (.lit [97]) (.var 405)))] [] fr_S1 nx_S1 l_S1 = true := by decide +kernel
theorem seg_C : segB (knM bdP [(.lti (.var 450) (.var 0), false)]) 6 fr_S1 nx_S1 l_S1 1296 1296 [(450, .lit 0), (452, decN 6 (.var 452)), (453, incE 453)] [] [] fr_S2a nx_S2a l_S2a = true := by decide +kernel
def flD0 : List (Cond × Bool) := [(.lti (.var 450) (.var 1), true), (.lti (.lit 65536) (.bin .add .i64 (.lit 0) (.slen sT)), false)]
theorem seg_D0 : segB (knM bdP flD0) 9 fr_S2a nx_S2a l_S2a 1296 1296 [(450, incE 450), (452, decN 9 (.var 452)), (453, incE 453)] [(406, sT)] [(x 1296, x 1316)] fr_S2b nx_S2b l_S2b = true := by decide +kernel
def flD (b : Bool) : List (Cond × Bool) := [(.lti (.var 450) (.var 1), true), (.lti (.lit 65536) (.bin .add .i64 (.slen (.var 406)) (.slen sT)), b)]
theorem seg_D : segB (knM bdP (flD false)) 9 fr_S2b nx_S2b l_S2b 1296 1296 [(450, incE 450), (452, decN 9 (.var 452)), (453, incE 453)] [(406, .cat (.var 406) sT)] [(x 1296, x 1317)] fr_S2b nx_S2b l_S2b = true := by decide +kernel
def liF : List (Nat × SI) := [(450, .lit 0), (452, .lit 0), (453, .lit 0)]
theorem fin_E : finB (knM bdP (flD true)) 5 fr_S2b nx_S2b l_S2b capsP nx_P liF [(405, .lit []), (406, .lit []), (407, .var 406)] vO nx_P made0 = true := by decide +kernel
theorem fin_F0 : finB (knM bdP [(.lti (.var 450) (.var 1), false)]) 6 fr_S2a nx_S2a l_S2a capsP nx_P liF [(405, .lit []), (406, .lit []), (407, .lit [])] (.agg [I 1, I 0, .str (.var 407), S []]) nx_P made0 = true := by decide +kernel
theorem fin_F : finB (knM bdP [(.lti (.var 450) (.var 1), false)]) 6 fr_S2b nx_S2b l_S2b capsP nx_P liF [(405, .lit []), (406, .lit []), (407, .var 406)] vN nx_P made0 = true := by decide +kernel
theorem told_N : okIs' (callF (mkE (knT (mkSrc hP tlP) []) (funsM (mkSrc hP tlP) (runG asP nx_P l_P vN nx_P made0))) 300 16 [.str (.var 1), .nils] emptyH) (.tup [vN, .bool true]) = true := by decide +kernel
theorem told_O : okIs' (callF (mkE (knT (mkSrc hP tlP) []) (funsM (mkSrc hP tlP) (runG asP nx_P l_P vO nx_P made0))) 300 16 [.str (.var 1), .nils] emptyH) (.tup [vO, .bool true]) = true := by decide +kernel
end Ds.Text
end
noncomputable section
namespace Ds.Text
open Go (IntKind Value World Addr Program)
theorem lkI {σ τ : Val} {e0 e2 e3 : SI} (h0 : e0.ev σ = τ.i 450) (h2 : e2.ev σ = τ.i 452) (h3 : e3.ev σ = τ.i 453) (ho : ∀ n, n ≠ 450 → n ≠ 452 → n ≠ 453 → σ.i n = τ.i n) : ∀ n, (lookS [(450, e0), (452, e2), (453, e3)] n).ev σ = τ.i n := by
  intro n
  by_cases c0 : n = 450
  · subst c0; exact h0
  by_cases c2 : n = 452
  · subst c2; exact h2
  by_cases c3 : n = 453
  · subst c3; exact h3
  have b0 : Nat.beq 450 n = false := by rw [Bool.eq_false_iff]; intro h; exact c0 (Nat.eq_of_beq_eq_true h).symm
  have b2 : Nat.beq 452 n = false := by rw [Bool.eq_false_iff]; intro h; exact c2 (Nat.eq_of_beq_eq_true h).symm
  have b3 : Nat.beq 453 n = false := by rw [Bool.eq_false_iff]; intro h; exact c3 (Nat.eq_of_beq_eq_true h).symm
  simp only [lookS, b0, b2, b3]
  exact ho n c0 c2 c3
theorem lkT0 {σ τ : Val} (ho : ∀ n, σ.s n = τ.s n) : ∀ n, (lookT [] n).ev σ = τ.s n := fun n => ho n
theorem lkT1 {σ τ : Val} {j : Nat} {e : SS} (h : e.ev σ = τ.s j) (ho : ∀ n, n ≠ j → σ.s n = τ.s n) : ∀ n, (lookT [(j, e)] n).ev σ = τ.s n := by
  intro n
  by_cases c : n = j
  · subst c
    have : Nat.beq n n = true := Nat.beq_refl n
    simp only [lookT, this]; exact h
  have b : Nat.beq j n = false := by rw [Bool.eq_false_iff]; intro h; exact c (Nat.eq_of_beq_eq_true h).symm
  simp only [lookT, b]
  exact ho n c
theorem lkT3 {σ τ : Val} {e : SS} (h5 : τ.s 405 = []) (h6 : τ.s 406 = []) (h : e.ev σ = τ.s 407) (ho : ∀ n, n ≠ 405 → n ≠ 406 → n ≠ 407 → σ.s n = τ.s n) : ∀ n, (lookT [(405, .lit []), (406, .lit []), (407, e)] n).ev σ = τ.s n := by
  intro n
  by_cases c0 : n = 405
  · subst c0; rw [h5]; rfl
  by_cases c2 : n = 406
  · subst c2; rw [h6]; rfl
  by_cases c3 : n = 407
  · subst c3; exact h
  have b0 : Nat.beq 405 n = false := by rw [Bool.eq_false_iff]; intro h; exact c0 (Nat.eq_of_beq_eq_true h).symm
  have b2 : Nat.beq 406 n = false := by rw [Bool.eq_false_iff]; intro h; exact c2 (Nat.eq_of_beq_eq_true h).symm
  have b3 : Nat.beq 407 n = false := by rw [Bool.eq_false_iff]; intro h; exact c3 (Nat.eq_of_beq_eq_true h).symm
  simp only [lookT, b0, b2, b3]
  exact ho n c0 c2 c3
theorem decN_ev {σ : Val} {e : SI} {v : Int} (he : e.ev σ = v) (h1 : v ≤ 9223372036854775807) : ∀ n : Nat, -9223372036854775808 ≤ v - n → (decN n e).ev σ = v - n
  | 0, _ => by rw [show decN 0 e = e from rfl, he]; simp
  | n + 1, h => by
    have ih := decN_ev he h1 n (by omega)
    show IntKind.wrap .i64 ((decN n e).ev σ - 1) = _
    rw [ih, wrap_id (by omega)]
    omega
theorem incE_ev {σ : Val} {i : Nat} {v : Int} (he : σ.i i = v) (h1 : v < 9223372036854775807) (h2 : 0 ≤ v) : (incE i).ev σ = v + 1 := by
  show IntKind.wrap .i64 (σ.i i + 1) = _
  rw [he, wrap_id (by omega)]
def pv (σ : Val) (i F p : Int) (t5 t6 : List UInt8) : Val where
  i n := if n = 450 then i else if n = 452 then F else if n = 453 then p else σ.i n
  s n := if n = 405 then t5.take 1000000 else if n = 406 then t6.take 1000000 else σ.s n
  ok n := by
    split
    · rw [List.length_take]; omega
    · split
      · rw [List.length_take]; omega
      · exact σ.ok n
theorem pv_s5 {σ : Val} {i F p : Int} {t5 t6 : List UInt8} (h : t5.length ≤ 1000000) : (pv σ i F p t5 t6).s 405 = t5 := by
  show t5.take 1000000 = t5
  exact List.take_of_length_le h
theorem pv_s6 {σ : Val} {i F p : Int} {t5 t6 : List UInt8} (h : t6.length ≤ 1000000) : (pv σ i F p t5 t6).s 406 = t6 := by
  show t6.take 1000000 = t6
  exact List.take_of_length_le h
theorem pv_so {σ : Val} {i F p : Int} {t5 t6 : List UInt8} {n : Nat} (h5 : n ≠ 405) (h6 : n ≠ 406) : (pv σ i F p t5 t6).s n = σ.s n := by
  show (if n = 405 then _ else if n = 406 then _ else σ.s n) = _
  rw [if_neg h5, if_neg h6]
theorem pv_io {σ : Val} {i F p : Int} {t5 t6 : List UInt8} {n : Nat} (h0 : n ≠ 450) (h2 : n ≠ 452) (h3 : n ≠ 453) : (pv σ i F p t5 t6).i n = σ.i n := by
  show (if n = 450 then _ else if n = 452 then _ else if n = 453 then _ else σ.i n) = _
  rw [if_neg h0, if_neg h2, if_neg h3]
structure At (σ : Val) (i F p : Int) (t5 t6 : List UInt8) : Prop where
  rng : Rng σ
  i0 : 0 ≤ i
  i1 : i ≤ 400
  F0 : 1000 ≤ F
  F1 : F ≤ 50000000
  p0 : 0 ≤ p
  p1 : p ≤ 900000
  l5 : t5.length ≤ 70000
  l6 : t6.length ≤ 70000
theorem At.rg {σ : Val} {i F p : Int} {t5 t6 : List UInt8} (h : At σ i F p t5 t6) : Rng (pv σ i F p t5 t6) := by
  intro n
  show _ ≤ (if n = 450 then i else if n = 452 then F else if n = 453 then p else σ.i n) ∧ (if n = 450 then i else if n = 452 then F else if n = 453 then p else σ.i n) ≤ _
  have := h.rng n
  have := h.i0; have := h.i1; have := h.F0; have := h.F1; have := h.p0; have := h.p1
  split
  · omega
  · split
    · omega
    · split
      · omega
      · exact h.rng n
theorem At.bd {σ : Val} {i F p : Int} {t5 t6 : List UInt8} (h : At σ i F p t5 t6) : BdOk (pv σ i F p t5 t6) bdP := by
  have := h.i0; have := h.i1; have := h.F0; have := h.F1; have := h.p0; have := h.p1
  intro y hy
  simp only [bdP, List.mem_cons, List.not_mem_nil, or_false] at hy
  rcases hy with rfl | rfl | rfl
  · show (1000 : Int) ≤ F ∧ F ≤ 50000000
    omega
  · show (0 : Int) ≤ p ∧ p ≤ 1000000
    omega
  · show (0 : Int) ≤ i ∧ i ≤ 1000
    omega
theorem sT_len {σ : Val} {i F p : Int} {t5 t6 : List UInt8} (h : At σ i F p t5 t6) : (SI.slen sT).ev (pv σ i F p t5 t6) = t5.length + 1 := by
  have := h.l5
  show ((([97] : List Nat).map UInt8.ofNat ++ (pv σ i F p t5 t6).s 405).length : Int) = _
  rw [pv_s5 (by omega)]
  simp
theorem sT_ev {σ : Val} {i F p : Int} {t5 t6 : List UInt8} (h : At σ i F p t5 t6) : SS.ev (pv σ i F p t5 t6) sT = 97 :: t5 := by
  have := h.l5
  show ([97] : List Nat).map UInt8.ofNat ++ (pv σ i F p t5 t6).s 405 = _
  rw [pv_s5 (by omega)]
  rfl
theorem len6 {σ : Val} {i F p : Int} {t5 t6 : List UInt8} (h : At σ i F p t5 t6) : (SI.slen (.var 406)).ev (pv σ i F p t5 t6) = t6.length := by
  have := h.l6
  show (((pv σ i F p t5 t6).s 406).length : Int) = _
  rw [pv_s6 (by omega)]
theorem nextI {σ : Val} {i F p : Int} {t5 t6 u5 u6 : List UInt8} (h : At σ i F p t5 t6) (n : Nat) (hn : n ≤ 100) (e0 : SI) (i' : Int) (he : e0.ev (pv σ i F p t5 t6) = i') : ∀ m, (lookS [(450, e0), (452, decN n (.var 452)), (453, incE 453)] m).ev (pv σ i F p t5 t6) = (pv σ i' (F - n) (p + 1) u5 u6).i m := by
  have := h.F0; have := h.F1; have := h.p0; have := h.p1
  refine lkI he ?_ ?_ (fun m c0 c2 c3 => ?_)
  · exact decN_ev (v := F) rfl (by omega) n (by omega)
  · exact incE_ev (v := p) rfl (by omega) (by omega)
  · rw [pv_io c0 c2 c3, pv_io c0 c2 c3]
theorem endI {σ : Val} {i F p : Int} {t5 t6 : List UInt8} (h0 : σ.i 450 = 0) (h2 : σ.i 452 = 0) (h3 : σ.i 453 = 0) : ∀ m, (lookS liF m).ev (pv σ i F p t5 t6) = σ.i m :=
  lkI h0.symm h2.symm h3.symm (fun _m c0 c2 c3 => pv_io c0 c2 c3)
theorem endT {σ : Val} {i F p : Int} {t5 t6 : List UInt8} {e : SS} (h5 : σ.s 405 = []) (h6 : σ.s 406 = []) (he : e.ev (pv σ i F p t5 t6) = σ.s 407) : ∀ m, (lookT [(405, .lit []), (406, .lit []), (407, e)] m).ev (pv σ i F p t5 t6) = σ.s m :=
  lkT3 h5 h6 he (fun _m c5 c6 _ => pv_so c5 c6)
def rep (s : List UInt8) (k : Nat) : List UInt8 := (List.replicate k s).flatten
theorem rep_succ (s : List UInt8) (k : Nat) : rep s (k + 1) = rep s k ++ s := by
  unfold rep
  rw [List.replicate_succ', List.flatten_append]
  simp
theorem rep_len (s : List UInt8) : ∀ k, (rep s k).length = k * s.length
  | 0 => by simp [rep]
  | k + 1 => by rw [rep_succ, List.length_append, rep_len s k, Nat.succ_mul]
theorem f1 {σ : Val} {r : Nat} (hr1 : σ.i 1 = r) {i F p : Int} {t5 t6 : List UInt8} (b : Bool) (h : decide (i < r) = b) : Cond.val (pv σ i F p t5 t6) (.lti (.var 450) (.var 1)) = b := by
  show decide (i < σ.i 1) = b
  rw [hr1, h]
def dblS : Nat → List UInt8
  | 0 => [97, 98]
  | n + 1 => dblS n ++ dblS n
theorem dblS_len : ∀ n, (dblS n).length = 2 ^ (n + 1)
  | 0 => rfl
  | n + 1 => by rw [dblS, List.length_append, dblS_len n, Nat.pow_succ 2 (n + 1)]; omega
section
variable {σ : Val} {fx : Nat → Option Go.Obj} (hr : Rng σ) (hfx : FixTab fx)
  (z0 : σ.i 450 = 0) (z2 : σ.i 452 = 0) (z3 : σ.i 453 = 0) (z5 : σ.s 405 = []) (z6 : σ.s 406 = [])
include hr hfx z0 z2 z3 z5 z6
variable {r : Nat} (hr1 : σ.i 1 = r) (hr2 : r ≤ 300)
include hr1 hr2
theorem loopN {t5 : List UInt8} {L : Nat} (hL : t5.length + 1 = L) (hL2 : L ≤ 16384) (hfit : r * L ≤ 65536) (ho : σ.s 407 = rep (97 :: t5) r) :
    ∀ (m k : Nat) (F p : Int), k + m = r → 1 ≤ k → F + 9 * k ≥ 49990000 → F ≤ 50000000 → 0 ≤ p → p ≤ 100 + k → Rch prog nm0 fx 1296 runBody (RunR fx σ capsP nx_P vN nx_P made0) (pv σ k F p t5 (rep (97 :: t5) k)) (fOf fr_S2b) (Hp.of nx_S2b l_S2b)
  | 0, k, F, p, hk, h1, hF, hF1, hp0, hp1 => by
    have hk : k = r := by omega
    subst hk
    have hlen : (rep (97 :: t5) k).length = k * L := by rw [rep_len, List.length_cons, hL]
    have hA : At σ k F p t5 (rep (97 :: t5) k) := ⟨hr, by omega, by omega, by omega, hF1, hp0, by omega, by omega, by omega⟩
    refine fin_rch (knM_ok hA.rg hA.bd (fl := [(.lti (.var 450) (.var 1), false)]) ?_) hA.rg hfx fin_F (endI z0 z2 z3) (endT z5 z6 ?_)
    · intro c b hc
      simp only [List.mem_cons, List.not_mem_nil, or_false, Prod.mk.injEq] at hc
      obtain ⟨rfl, rfl⟩ := hc
      exact f1 hr1 false (by simp)
    · show (pv σ k F p t5 (rep (97 :: t5) k)).s 406 = _
      rw [pv_s6 (by omega), ho]
  | m + 1, k, F, p, hk, h1, hF, hF1, hp0, hp1 => by
    have hlen : (rep (97 :: t5) k).length = k * L := by rw [rep_len, List.length_cons, hL]
    have hle : (k + 1) * L ≤ r * L := Nat.mul_le_mul_right L (by omega)
    have hsm : (k + 1) * L = k * L + L := Nat.succ_mul k L
    have hA : At σ k F p t5 (rep (97 :: t5) k) := ⟨hr, by omega, by omega, by omega, hF1, hp0, by omega, by omega, by omega⟩
    have ih := loopN hL hL2 hfit ho m (k + 1) (F - 9) (p + 1) (by omega) (by omega) (by omega) (by omega) (by omega) (by omega)
    refine seg_rch (knM_ok hA.rg hA.bd (fl := flD false) ?_) hA.rg hfx seg_D (nextI hA 9 (by omega) _ _ (incE_ev (v := k) rfl (by omega) (by omega))) (lkT1 (τ := pv σ ((k : Int) + 1) (F - (9 : Nat)) (p + 1) t5 (rep (97 :: t5) (k + 1))) ?_ (fun n hn => ?_)) ?_
    · intro c b hc
      simp only [flD, List.mem_cons, List.not_mem_nil, or_false, Prod.mk.injEq] at hc
      rcases hc with ⟨rfl, rfl⟩ | ⟨rfl, rfl⟩
      · exact f1 hr1 true (by simp; omega)
      · show decide ((65536 : Int) < IntKind.wrap .i64 ((SI.slen (.var 406)).ev _ + (SI.slen sT).ev _)) = false
        rw [len6 hA, sT_len hA, wrap_id (by omega)]
        simp; omega
    · show (pv σ k F p t5 (rep (97 :: t5) k)).s 406 ++ SS.ev _ sT = _
      rw [pv_s6 (by omega), sT_ev hA, pv_s6 (by rw [rep_len, List.length_cons, hL]; omega), rep_succ]
    · by_cases c : n = 405
      · subst c; rw [pv_s5 (by omega), pv_s5 (by omega)]
      · rw [pv_so c hn, pv_so c hn]
    · have e : ((k + 1 : Nat) : Int) = (k : Int) + 1 := by omega
      rw [e] at ih
      exact ih
theorem loopO {t5 : List UInt8} {L K : Nat} (hL : t5.length + 1 = L) (hL2 : L ≤ 16384) (hK : K < r) (hK1 : K * L ≤ 65536) (hK2 : 65536 < (K + 1) * L) (ho : σ.s 407 = rep (97 :: t5) K) :
    ∀ (m k : Nat) (F p : Int), k + m = K → 1 ≤ k → F + 9 * k ≥ 49990000 → F ≤ 50000000 → 0 ≤ p → p ≤ 100 + k → Rch prog nm0 fx 1296 runBody (RunR fx σ capsP nx_P vO nx_P made0) (pv σ k F p t5 (rep (97 :: t5) k)) (fOf fr_S2b) (Hp.of nx_S2b l_S2b)
  | 0, k, F, p, hk, h1, hF, hF1, hp0, hp1 => by
    have hk : k = K := by omega
    subst hk
    have hlen : (rep (97 :: t5) k).length = k * L := by rw [rep_len, List.length_cons, hL]
    have hsm : (k + 1) * L = k * L + L := Nat.succ_mul k L
    have hA : At σ k F p t5 (rep (97 :: t5) k) := ⟨hr, by omega, by omega, by omega, hF1, hp0, by omega, by omega, by omega⟩
    refine fin_rch (knM_ok hA.rg hA.bd (fl := flD true) ?_) hA.rg hfx fin_E (endI z0 z2 z3) (endT z5 z6 ?_)
    · intro c b hc
      simp only [flD, List.mem_cons, List.not_mem_nil, or_false, Prod.mk.injEq] at hc
      rcases hc with ⟨rfl, rfl⟩ | ⟨rfl, rfl⟩
      · exact f1 hr1 true (by simp; omega)
      · show decide ((65536 : Int) < IntKind.wrap .i64 ((SI.slen (.var 406)).ev _ + (SI.slen sT).ev _)) = true
        rw [len6 hA, sT_len hA, wrap_id (by omega)]
        simp; omega
    · show (pv σ k F p t5 (rep (97 :: t5) k)).s 406 = _
      rw [pv_s6 (by omega), ho]
  | m + 1, k, F, p, hk, h1, hF, hF1, hp0, hp1 => by
    have hlen : (rep (97 :: t5) k).length = k * L := by rw [rep_len, List.length_cons, hL]
    have hle : (k + 1) * L ≤ K * L := Nat.mul_le_mul_right L (by omega)
    have hsm : (k + 1) * L = k * L + L := Nat.succ_mul k L
    have hA : At σ k F p t5 (rep (97 :: t5) k) := ⟨hr, by omega, by omega, by omega, hF1, hp0, by omega, by omega, by omega⟩
    have ih := loopO hL hL2 hK hK1 hK2 ho m (k + 1) (F - 9) (p + 1) (by omega) (by omega) (by omega) (by omega) (by omega) (by omega)
    refine seg_rch (knM_ok hA.rg hA.bd (fl := flD false) ?_) hA.rg hfx seg_D (nextI hA 9 (by omega) _ _ (incE_ev (v := k) rfl (by omega) (by omega))) (lkT1 (τ := pv σ ((k : Int) + 1) (F - (9 : Nat)) (p + 1) t5 (rep (97 :: t5) (k + 1))) ?_ (fun n hn => ?_)) ?_
    · intro c b hc
      simp only [flD, List.mem_cons, List.not_mem_nil, or_false, Prod.mk.injEq] at hc
      rcases hc with ⟨rfl, rfl⟩ | ⟨rfl, rfl⟩
      · exact f1 hr1 true (by simp; omega)
      · show decide ((65536 : Int) < IntKind.wrap .i64 ((SI.slen (.var 406)).ev _ + (SI.slen sT).ev _)) = false
        rw [len6 hA, sT_len hA, wrap_id (by omega)]
        simp; omega
    · show (pv σ k F p t5 (rep (97 :: t5) k)).s 406 ++ SS.ev _ sT = _
      rw [pv_s6 (by omega), sT_ev hA, pv_s6 (by rw [rep_len, List.length_cons, hL]; omega), rep_succ]
    · by_cases c : n = 405
      · subst c; rw [pv_s5 (by omega), pv_s5 (by omega)]
      · rw [pv_so c hn, pv_so c hn]
    · have e : ((k + 1 : Nat) : Int) = (k : Int) + 1 := by omega
      rw [e] at ih
      exact ih
theorem partN {t5 : List UInt8} {L : Nat} (hL : t5.length + 1 = L) (hL2 : L ≤ 16384) (hfit : r * L ≤ 65536) (ho : σ.s 407 = rep (97 :: t5) r) (F p : Int) (hF : F ≥ 49990100) (hF1 : F ≤ 50000000) (hp0 : 0 ≤ p) (hp1 : p ≤ 50) :
    Rch prog nm0 fx 1296 runBody (RunR fx σ capsP nx_P vN nx_P made0) (pv σ 0 F p t5 (σ.s 406)) (fOf fr_S2a) (Hp.of nx_S2a l_S2a) := by
  have hA : At σ 0 F p t5 (σ.s 406) := ⟨hr, by omega, by omega, by omega, hF1, hp0, by omega, by omega, by rw [z6]; simp⟩
  rcases Nat.eq_zero_or_pos r with rfl | hpos
  · refine fin_rch (knM_ok hA.rg hA.bd (fl := [(.lti (.var 450) (.var 1), false)]) ?_) hA.rg hfx fin_F0 (endI z0 z2 z3) (endT z5 z6 ?_)
    · intro c b hc
      simp only [List.mem_cons, List.not_mem_nil, or_false, Prod.mk.injEq] at hc
      obtain ⟨rfl, rfl⟩ := hc
      exact f1 hr1 false (by simp)
    · rw [ho]; rfl
  · have h2 := loopN hr hfx z0 z2 z3 z5 z6 hr1 hr2 hL hL2 hfit ho (r - 1) 1 (F - 9) (p + 1) (by omega) (by omega) (by omega) (by omega) (by omega) (by omega)
    refine seg_rch (knM_ok hA.rg hA.bd (fl := flD0) ?_) hA.rg hfx seg_D0 (nextI hA 9 (by omega) _ _ (incE_ev (v := 0) rfl (by omega) (by omega))) (lkT1 (τ := pv σ (0 + 1) (F - (9 : Nat)) (p + 1) t5 (rep (97 :: t5) 1)) ?_ (fun n hn => ?_)) h2
    · intro c b hc
      simp only [flD0, List.mem_cons, List.not_mem_nil, or_false, Prod.mk.injEq] at hc
      rcases hc with ⟨rfl, rfl⟩ | ⟨rfl, rfl⟩
      · exact f1 hr1 true (by simp; omega)
      · show decide ((65536 : Int) < IntKind.wrap .i64 (0 + (SI.slen sT).ev _)) = false
        rw [sT_len hA, wrap_id (by omega)]
        simp; omega
    · rw [sT_ev hA, pv_s6 (by rw [rep_len, List.length_cons, hL]; omega)]; simp [rep]
    · by_cases c : n = 405
      · subst c; rw [pv_s5 (by omega), pv_s5 (by omega)]
      · rw [pv_so c hn, pv_so c hn]
theorem partO {t5 : List UInt8} {L K : Nat} (hL : t5.length + 1 = L) (hL2 : L ≤ 16384) (hK : K < r) (hK0 : 1 ≤ K) (hK1 : K * L ≤ 65536) (hK2 : 65536 < (K + 1) * L) (ho : σ.s 407 = rep (97 :: t5) K) (F p : Int) (hF : F ≥ 49990100) (hF1 : F ≤ 50000000) (hp0 : 0 ≤ p) (hp1 : p ≤ 50) :
    Rch prog nm0 fx 1296 runBody (RunR fx σ capsP nx_P vO nx_P made0) (pv σ 0 F p t5 (σ.s 406)) (fOf fr_S2a) (Hp.of nx_S2a l_S2a) := by
  have hA : At σ 0 F p t5 (σ.s 406) := ⟨hr, by omega, by omega, by omega, hF1, hp0, by omega, by omega, by rw [z6]; simp⟩
  have h2 := loopO hr hfx z0 z2 z3 z5 z6 hr1 hr2 hL hL2 hK hK1 hK2 ho (K - 1) 1 (F - 9) (p + 1) (by omega) (by omega) (by omega) (by omega) (by omega) (by omega)
  refine seg_rch (knM_ok hA.rg hA.bd (fl := flD0) ?_) hA.rg hfx seg_D0 (nextI hA 9 (by omega) _ _ (incE_ev (v := 0) rfl (by omega) (by omega))) (lkT1 (τ := pv σ (0 + 1) (F - (9 : Nat)) (p + 1) t5 (rep (97 :: t5) 1)) ?_ (fun n hn => ?_)) h2
  · intro c b hc
    simp only [flD0, List.mem_cons, List.not_mem_nil, or_false, Prod.mk.injEq] at hc
    rcases hc with ⟨rfl, rfl⟩ | ⟨rfl, rfl⟩
    · exact f1 hr1 true (by simp; omega)
    · show decide ((65536 : Int) < IntKind.wrap .i64 (0 + (SI.slen sT).ev _)) = false
      rw [sT_len hA, wrap_id (by omega)]
      simp; omega
  · rw [sT_ev hA, pv_s6 (by rw [rep_len, List.length_cons, hL]; omega)]; simp [rep]
  · by_cases c : n = 405
    · subst c; rw [pv_s5 (by omega), pv_s5 (by omega)]
    · rw [pv_so c hn, pv_so c hn]
omit z0 z2 z3 z5 hr1 hr2 in
theorem dbl {d : Nat} (hd1 : σ.i 0 = d) (hd2 : d ≤ 13) {R : Val → T3 AV → Hp → Nat → Prop}
    (k : ∀ (t5 : List UInt8) (F p : Int), t5.length + 1 = 2 ^ (d + 1) → F ≥ 49990100 → F ≤ 50000000 → 0 ≤ p → p ≤ 50 → dblS d = 97 :: t5 → Rch prog nm0 fx 1296 runBody R (pv σ 0 F p t5 (σ.s 406)) (fOf fr_S2a) (Hp.of nx_S2a l_S2a)) :
    ∀ (m i : Nat) (t5 : List UInt8) (F p : Int), i + m = d → t5.length + 1 = 2 ^ (i + 1) → dblS i = 97 :: t5 → F + 10 * i ≥ 49999900 → F ≤ 50000000 → 0 ≤ p → p ≤ 1 + i → Rch prog nm0 fx 1296 runBody R (pv σ i F p t5 (σ.s 406)) (fOf fr_S1) (Hp.of nx_S1 l_S1)
  | 0, i, t5, F, p, hi, hl, hS, hF, hF1, hp0, hp1 => by
    have hi : i = d := by omega
    subst hi
    have hle : 2 ^ (i + 1) ≤ 2 ^ 14 := Nat.pow_le_pow_right (by decide) (by omega)
    have hA : At σ i F p t5 (σ.s 406) := ⟨hr, by omega, by omega, by omega, hF1, hp0, by omega, by omega, by rw [z6]; simp⟩
    refine seg_rch (knM_ok hA.rg hA.bd (fl := [(.lti (.var 450) (.var 0), false)]) ?_) hA.rg hfx seg_C (nextI hA 6 (by omega) _ _ rfl) (lkT0 (τ := pv σ 0 (F - (6 : Nat)) (p + 1) t5 (σ.s 406)) (fun n => rfl)) (k t5 (F - 6) (p + 1) hl (by omega) (by omega) (by omega) (by omega) hS)
    intro c b hc
    simp only [List.mem_cons, List.not_mem_nil, or_false, Prod.mk.injEq] at hc
    obtain ⟨rfl, rfl⟩ := hc
    show decide ((i : Int) < σ.i 0) = false
    rw [hd1]; simp
  | m + 1, i, t5, F, p, hi, hl, hS, hF, hF1, hp0, hp1 => by
    have hle : 2 ^ (i + 1 + 1) ≤ 2 ^ 14 := Nat.pow_le_pow_right (by decide) (by omega)
    have h2 : 2 ^ (i + 1 + 1) = 2 ^ (i + 1) * 2 := Nat.pow_succ ..
    have hA : At σ i F p t5 (σ.s 406) := ⟨hr, by omega, by omega, by omega, hF1, hp0, by omega, by omega, by rw [z6]; simp⟩
    have ih := dbl hd1 hd2 k m (i + 1) (t5 ++ (97 :: t5)) (F - 10) (p + 1) (by omega) (by simp; omega) (by show dblS i ++ dblS i = _; rw [hS]; rfl) (by omega) (by omega) (by omega) (by omega)
    have e : ((i + 1 : Nat) : Int) = (i : Int) + 1 := by omega
    rw [e] at ih
    refine seg_rch (knM_ok hA.rg hA.bd (fl := flB) ?_) hA.rg hfx seg_B (nextI hA 10 (by omega) _ _ (incE_ev (v := i) rfl (by omega) (by omega))) (lkT1 (τ := pv σ ((i : Int) + 1) (F - (10 : Nat)) (p + 1) (t5 ++ (97 :: t5)) (σ.s 406)) ?_ (fun n hn => ?_)) ih
    · intro c b hc
      simp only [flB, List.mem_cons, List.not_mem_nil, or_false, Prod.mk.injEq] at hc
      rcases hc with ⟨rfl, rfl⟩ | ⟨rfl, rfl⟩
      · show decide ((i : Int) < σ.i 0) = true
        rw [hd1]; simp; omega
      · show decide ((16384 : Int) < IntKind.wrap .i64 ((SI.slen sT).ev _ + (SI.slen sT).ev _)) = false
        rw [sT_len hA, wrap_id (by omega)]
        simp; omega
    · show (pv σ i F p t5 (σ.s 406)).s 405 ++ (([97] : List Nat).map UInt8.ofNat ++ (pv σ i F p t5 (σ.s 406)).s 405) = _
      rw [pv_s5 (by omega), pv_s5 (by simp; omega)]
      rfl
    · by_cases c : n = 406
      · subst c; rfl
      · rw [pv_so hn c, pv_so hn c]
end
end Ds.Text
end
