/- The deterministic evaluator D and what is proved with it, part Sym of the claim on YtpopgcbejolepaaGreatDoor. -/
import Derived.Test.YtpopgcbejolepaaGreatDoorCoreD
import Derived.Test.YtpopgcbejolepaaGreatDoorCoreE
import Derived.Test.YtpopgcbejolepaaGreatDoorTextC
import Derived.Test.YtpopgcbejolepaaGreatDoorOk
import Derived.Shelf.LaysM
import Derived.Shelf.Strconv.Itoa3
import Derived.Test.YtpopgcbejolepaaGreatDoorProg
import Derived.LaidMore
import Derived.OpenShut
import Derived.Stop.Joined
import Derived.ProofKit
namespace Go.Proofs
open Go.Shelf
def Tryz.laysM171_ren : Go.Shelf.Ren := ⟨fun | 171 => 137 | 243 => 188 | 246 => 222 | 283 => 241 | 284 => 242 | 285 => 243 | 286 => 244 | 129 => 158 | 317 => 256 | 318 => 257 | 319 => 258 | 320 => 259 | 337 => 263 | 338 => 264 | n => n, fun | 3 => 3 | 9 => 9 | 2 => 2 | 4 => 4 | 171 => 312 | 0 => 0 | 53 => 242 | 37 => 100 | 5 => 5 | 173 => 314 | 212 => 324 | 51 => 240 | 20 => 20 | 213 => 325 | 46 => 202 | 232 => 329 | 233 => 330 | n => n, fun | 17 => 1 | 18 => 2 | 19 => 3 | n => n⟩
theorem Tryz.laysM171 : Go.Proofs.LaysM.n171 Tryz.prog Tryz.laysM171_ren := {
  mixed := by kernel_rfl
  f129 := Tryz.func158.trans (congrArg some (by kernel_rfl))
  f171 := Tryz.func137.trans (congrArg some (by kernel_rfl))
  f243 := Tryz.func188.trans (congrArg some (by kernel_rfl))
  f246 := Tryz.func222.trans (congrArg some (by kernel_rfl))
  f283 := Tryz.func241.trans (congrArg some (by kernel_rfl))
  f284 := Tryz.func242.trans (congrArg some (by kernel_rfl))
  f285 := Tryz.func243.trans (congrArg some (by kernel_rfl))
  f286 := Tryz.func244.trans (congrArg some (by kernel_rfl))
  f317 := Tryz.func256.trans (congrArg some (by kernel_rfl))
  f318 := Tryz.func257.trans (congrArg some (by kernel_rfl))
  f319 := Tryz.func258.trans (congrArg some (by kernel_rfl))
  f320 := Tryz.func259.trans (congrArg some (by kernel_rfl))
  f337 := Tryz.func263.trans (congrArg some (by kernel_rfl))
  f338 := Tryz.func264.trans (congrArg some (by kernel_rfl))
  t0 := Tryz.underlying0
  a0 := Tryz.isAgg0
  z0 := Tryz.sizeOf0
  v0 := Tryz.zeroValue0
  t2 := Tryz.underlying2
  a2 := Tryz.isAgg2
  z2 := Tryz.sizeOf2
  v2 := Tryz.zeroValue2
  t3 := Tryz.underlying3
  a3 := Tryz.isAgg3
  z3 := Tryz.sizeOf3
  v3 := Tryz.zeroValue3
  t4 := Tryz.underlying4
  a4 := Tryz.isAgg4
  z4 := Tryz.sizeOf4
  v4 := Tryz.zeroValue4
  t5 := Tryz.underlying5
  a5 := Tryz.isAgg5
  z5 := Tryz.sizeOf5
  v5 := Tryz.zeroValue5
  t9 := Tryz.underlying9
  a9 := Tryz.isAgg9
  z9 := Tryz.sizeOf9
  v9 := Tryz.zeroValue9
  t20 := Tryz.underlying20
  a20 := Tryz.isAgg20
  z20 := Tryz.sizeOf20
  v20 := Tryz.zeroValue20
  t37 := Tryz.underlying100
  a37 := Tryz.isAgg100
  z37 := Tryz.sizeOf100
  v37 := Tryz.zeroValue100
  t46 := Tryz.underlying202
  a46 := Tryz.isAgg202
  z46 := Tryz.sizeOf202
  v46 := Tryz.zeroValue202
  t51 := Tryz.underlying240
  a51 := Tryz.isAgg240
  z51 := Tryz.sizeOf240
  v51 := Tryz.zeroValue240
  t53 := Tryz.underlying242
  a53 := Tryz.isAgg242
  z53 := Tryz.sizeOf242
  v53 := Tryz.zeroValue242
  t171 := Tryz.underlying312
  a171 := Tryz.isAgg312
  z171 := Tryz.sizeOf312
  v171 := Tryz.zeroValue312
  t173 := Tryz.underlying314
  a173 := Tryz.isAgg314
  z173 := Tryz.sizeOf314
  v173 := Tryz.zeroValue314
  t212 := Tryz.underlying324
  a212 := Tryz.isAgg324
  z212 := Tryz.sizeOf324
  v212 := Tryz.zeroValue324
  t213 := Tryz.underlying325
  a213 := Tryz.isAgg325
  z213 := Tryz.sizeOf325
  t232 := Tryz.underlying329
  a232 := Tryz.isAgg329
  z232 := Tryz.sizeOf329
  v232 := Tryz.zeroValue329
  t233 := Tryz.underlying330
  a233 := Tryz.isAgg330
  z233 := Tryz.sizeOf330
  v233 := Tryz.zeroValue330
  g17 := by kernel_rfl
  g18 := by kernel_rfl
  g19 := by kernel_rfl
  i0 := by kernel_rfl
  i2 := by kernel_rfl
  i3 := by kernel_rfl
  i4 := by kernel_rfl
  i5 := by kernel_rfl
  i9 := by kernel_rfl
  i20 := by kernel_rfl
  i37 := by kernel_rfl
  i46 := by kernel_rfl
  i51 := by kernel_rfl
  i53 := by kernel_rfl
  i171 := by kernel_rfl
  i173 := by kernel_rfl
  i212 := by kernel_rfl
  i232 := by kernel_rfl
  i233 := by kernel_rfl
  m17 := by kernel_rfl
  m18 := by kernel_rfl
  m19 := by kernel_rfl }
open Go.RowKit Go.Sort Go.Lib in
theorem Tryz.strconv_Itoa (n : Int) (h0 : -9223372036854775808 ≤ n) (h1 : n ≤ 9223372036854775807) (w : World) (htab : Lib.TabIs Tryz.prog w "internal/strconv.uint64pow10" .u64 Lib.pow10Tab) :
    Calls Tryz.prog 137 #[.int .i64 n] w fun e w' => e = .returned (.string ⟨(Lib.itoa n).toArray⟩) ∧ ∃ k os, w' = grow (w.drewN k) os := Any.strconv_Itoa Tryz.laysM171 n h0 h1 w htab
end Go.Proofs
set_option maxRecDepth 100000
noncomputable section
namespace Ds.Text
open Go (IntKind Value World Addr Program)
def natL (l : List UInt8) : List Nat := l.map UInt8.toNat
theorem b8_natL (l : List UInt8) : b8 (natL l) = l := by
  induction l with
  | nil => rfl
  | cons a l ih =>
    show UInt8.ofNat a.toNat :: b8 (natL l) = a :: l
    rw [ih]; simp
theorem natL_lt (l : List UInt8) : ∀ c ∈ natL l, c < 256 := by
  intro c hc
  obtain ⟨a, _, rfl⟩ := List.mem_map.1 hc
  exact a.toNat_lt
theorem natL_b8 {l : List Nat} (h : ∀ c ∈ l, c < 256) : natL (b8 l) = l := by
  induction l with
  | nil => rfl
  | cons a l ih =>
    show (UInt8.ofNat a).toNat :: natL (b8 l) = a :: l
    rw [ih (fun c hc => h c (List.mem_cons_of_mem _ hc)), u8n (h a (List.mem_cons_self ..))]
theorem natL_append (a b : List UInt8) : natL (a ++ b) = natL a ++ natL b := List.map_append ..
theorem natL_length (a : List UInt8) : (natL a).length = a.length := List.length_map ..
section
variable {X Y : Cx} {ρ ρ' : Rho}
theorem VR.strTo {s : SS} {v : Value} (h : VR X ρ (.str s) v) {t : SS} (w : t.wf) (e : t.ev Y.σ = s.ev X.σ) : VR Y ρ' (.str t) v := by
  cases h with
  | str _ b _ hb => exact .str _ b w (by rw [hb, e])
theorem VR.intTo {k : IntKind} {a : SI} {v : Value} (h : VR X ρ (.int k a) v) {b : SI} (w : b.wf) (e : b.ev Y.σ = a.ev X.σ) : VR Y ρ' (.int k b) v := by
  cases h with
  | int _ _ n _ hn => exact .int _ _ n w (by rw [hn, e])
theorem VR.lits {s : SS} {v : Value} (h : VR X ρ (.str s) v) : VR X ρ (S (natL (s.ev X.σ))) v := VR.strTo (Y := X) h (natL_lt _) (b8_natL _)
theorem VR.liti {k : IntKind} {a : SI} {v : Value} (h : VR X ρ (.int k a) v) : VR X ρ (.int k (.lit (a.ev X.σ))) v := VR.intTo (Y := X) h trivial rfl
end
mutual
def AV.base : AV → Bool
  | .bool _ | .nilp | .nils | .nilm | .nilf | .nili => true
  | .int _ e => SI.base e
  | .str s => SS.base s
  | .agg l => AV.bases l
  | .tup l => AV.bases l
  | _ => false
def AV.bases : List AV → Bool
  | [] => true
  | a :: l => AV.base a && AV.bases l
end
mutual
theorem AV.base_free : ∀ {a : AV}, AV.base a = true → AV.free a = true
  | .any, h => by simp [AV.base] at h
  | .bool _, _ => rfl
  | .int _ _, _ => rfl
  | .str _, _ => rfl
  | .nilp, _ => rfl
  | .nils, _ => rfl
  | .nilm, _ => rfl
  | .nilf, _ => rfl
  | .nili, _ => rfl
  | .agg l, h => by simp only [AV.base] at h; simp only [AV.free, AV.bases_free h]
  | .tup l, h => by simp only [AV.base] at h; simp only [AV.free, AV.bases_free h]
  | .ptr .., h => by simp [AV.base] at h
  | .sl .., h => by simp [AV.base] at h
  | .su .., h => by simp [AV.base] at h
  | .buf .., h => by simp [AV.base] at h
  | .map _, h => by simp [AV.base] at h
  | .func .., h => by simp [AV.base] at h
  | .meth .., h => by simp [AV.base] at h
  | .ifc .., h => by simp [AV.base] at h
theorem AV.bases_free : ∀ {l : List AV}, AV.bases l = true → AV.frees l = true
  | [], _ => rfl
  | a :: l, h => by
    simp only [AV.bases, Bool.and_eq_true] at h
    simp only [AV.frees, AV.base_free h.1, AV.bases_free h.2, Bool.and_true]
end
section
variable {X Y : Cx} {ρ ρ' : Rho}
mutual
theorem VR.base (hσ : ∀ i, i ≤ 99 ∨ 400 ≤ i → X.σ.i i = Y.σ.i i) (hs : ∀ i, 400 ≤ i → X.σ.s i = Y.σ.s i) : ∀ {a : AV} {v : Value}, VR X ρ a v → AV.base a = true → VR Y ρ' a v
  | _, _, .any v, h => by simp [AV.base] at h
  | _, _, .bool b, _ => .bool b
  | _, _, .int k e n w x, h => by
    simp only [AV.base] at h
    exact .int k e n w (by rw [x]; exact SI.base_ev hσ e h)
  | _, _, .str s b w x, h => by
    simp only [AV.base] at h
    exact .str s b w (by rw [x]; exact SS.base_ev hσ hs s h)
  | _, _, .nilp, _ => .nilp
  | _, _, .nils, _ => .nils
  | _, _, .nilm, _ => .nilm
  | _, _, .nilf, _ => .nilf
  | _, _, .nili, _ => .nili
  | _, _, .agg l vs k, h => .agg l vs (VRs.base hσ hs k (by simpa [AV.base] using h))
  | _, _, .tup l vs k, h => .tup l vs (VRs.base hσ hs k (by simpa [AV.base] using h))
  | _, _, .ptr .., h => by simp [AV.base] at h
  | _, _, .sl .., h => by simp [AV.base] at h
  | _, _, .su .., h => by simp [AV.base] at h
  | _, _, .buf .., h => by simp [AV.base] at h
  | _, _, .map .., h => by simp [AV.base] at h
  | _, _, .func .., h => by simp [AV.base] at h
  | _, _, .meth .., h => by simp [AV.base] at h
  | _, _, .ifc .., h => by simp [AV.base] at h
theorem VRs.base (hσ : ∀ i, i ≤ 99 ∨ 400 ≤ i → X.σ.i i = Y.σ.i i) (hs : ∀ i, 400 ≤ i → X.σ.s i = Y.σ.s i) : ∀ {l : List AV} {vs : List Value}, VRs X ρ l vs → AV.bases l = true → VRs Y ρ' l vs
  | _, _, .nil, _ => .nil
  | _, _, .cons a l v vs k m, h => by
    simp only [AV.bases, Bool.and_eq_true] at h
    exact .cons _ _ _ _ (VR.base hσ hs k h.1) (VRs.base hσ hs m h.2)
end
end
open Classical in
theorem told1_of_run {X : Cx} {call : CallF} (hcall : CallOk prog X call) {f : Nat} {xs : List AV} {v : AV} {H1 : Hp} (h1 : AV.frees xs = true) (h2 : AV.free v = true) (h3 : call f xs emptyH = .ok v H1) : Told1 prog X f xs v := by
  intro pd ρ H w vs hG hH hv
  refine told_ok' (E := mkE kn0 funs) (names := methNames) hcall (f := f) (g := fun ys => if ys = xs then some v else none) (fun ys u hu => ?_) pd ρ H w xs vs v hG hH hv ?_
  · by_cases c : ys = xs
    · subst c
      rw [if_pos rfl] at hu; cases hu
      exact ⟨h1, h2, H1, h3⟩
    · rw [if_neg c] at hu; cases hu
  · show (if xs = xs then some v else none) = some v
    rw [if_pos rfl]
theorem told1_base {σ τ : Val} {fx : Nat → Option Go.Obj} {call : CallF} (hσ : ∀ i, i ≤ 99 ∨ 400 ≤ i → σ.i i = τ.i i) (hst : ∀ i, 400 ≤ i → σ.s i = τ.s i) (hcall : CallOk prog (X0 τ fx) call) {f : Nat} {xs ys : List AV} {v : AV} {H1 : Hp} (h1 : ∀ ρ ρ' vs, VRs (X0 σ fx) ρ ys vs → VRs (X0 τ fx) ρ' xs vs) (_h0 : AV.frees xs = true) (h2 : AV.base v = true) (h3 : call f xs emptyH = .ok v H1) : Told1 prog (X0 σ fx) f ys v := by
  intro pd ρ H w vs hG hH hv
  have hG' : GR prog (fun id => if id.num < 64 then ρ id else none) := by
    intro g hg hg64
    obtain ⟨C, e⟩ := hG g hg hg64
    refine ⟨C, ?_⟩
    have : (P5.ofNat g).num < 64 := by rw [P5.num_ofNat (by omega)]; exact hg64
    simp only [this, if_true, e]
  obtain ⟨hf, hC⟩ := hcall _ _ emptyH w f xs vs v H1 hG' (HR.empty hH.below (fun b o e => (hH.fixd b o e).1)) (h1 _ _ _ hv) h3
  refine ⟨hf, hC.mono (fun e w' he => ?_)⟩
  obtain ⟨ρ', v', rfl, hs, hr⟩ := he
  have keep : ∀ b, b < w.heap.size → w'.heap[b]? = w.heap[b]? := fun b hb => hs.fr.keeps b hb (fun id hl => absurd (emptyH_get id) hl)
  refine ⟨ρ, v', rfl, Stp.of hH (Rho.le_refl _) ⟨fun id => ObjR.keep (Rho.le_refl _) (fun B e => keep B (blk_lt hH e)) (hH.obj id), hH.inj, hH.fresh, fun id B base C e => Nat.lt_of_lt_of_le (hH.below id B base C e) hs.fr.size, fun id hp => ?_⟩
    ⟨fun b hb _ => keep b hb, hs.fr.size, hs.fr.os, hs.fr.output, hs.fr.tape, fun id B hl e => .inr ⟨id, hl, e⟩, Nat.le_refl _, fun _ _ => rfl⟩, VR.base (X := X0 τ fx) (Y := X0 σ fx) (fun i hi => (hσ i hi).symm) (fun i hi => (hst i hi).symm) hr h2⟩
  obtain ⟨B, base, C, e, hm', hno, hnl, hu⟩ := hH.pend id hp
  exact ⟨B, base, C, e, by rw [keep B (hH.below id B base C e)]; exact hm', hno, hnl, hu⟩
theorem told_of_told1 {X : Cx} {E : Env} {f : Nat} {g : List AV → Option AV} (h : ∀ xs v, g xs = some v → Told1 prog X f xs v) : FunOk prog X E methNames f (.told g) :=
  fun pd ρ H w xs vs v hG hH hv hm => h xs v hm pd ρ H w vs hG hH hv
theorem both_of_told1 {X : Cx} {E : Env} {f : Nat} {g : List AV → Option AV} {rs : List Rv} {c : Code} (h : ∀ xs v, g xs = some v → Told1 prog X f xs v) (hc : FunOk prog X E methNames f (.code rs c)) : FunOk prog X E methNames f (.both g rs c) :=
  ⟨fun pd ρ H w xs vs v hG hH hv hm => h xs v hm pd ρ H w vs hG hH hv, hc⟩
theorem Told1.as {X : Cx} {f : Nat} {xs ys : List AV} {v u : AV} (h : Told1 prog X f ys v) (ha : ∀ ρ vs, VRs X ρ xs vs → VRs X ρ ys vs) (hv : ∀ ρ x, VR X ρ v x → VR X ρ u x) : Told1 prog X f xs u := by
  intro pd ρ H w vs hG hH hvs
  obtain ⟨h1, h2⟩ := h pd ρ H w vs hG hH (ha ρ vs hvs)
  refine ⟨h1, h2.mono (fun e w' he => ?_)⟩
  obtain ⟨ρ', v', e1, e2, e3⟩ := he
  exact ⟨ρ', v', e1, e2, hv _ _ e3⟩
def softU (m : Nat) : Nat → List AV → Option AV := fun f xs => match xs with
  | [.int .i64 (.lit (.negSucc q))] => (match Nat.beq f 27 && Nat.beq q ((m + 1) / 10 - 1) && Nat.ble 9 m with | true => some (S (digL ((m + 1) / 10))) | false => none)
  | _ => none
def knU (m : Nat) : Kn := { facts := fun _ => none, ix := fun _ _ => none, sl := fun _ _ _ => none, soft := softU m }
theorem und_told1 {σ : Val} {fx : Nat → Option Go.Obj} : ∀ (m : Nat), m ≤ 9223372036854775807 → Told1 prog (X0 σ fx) 27 [NI m] (S (digL (m + 1))) := by
  intro m
  induction m using Nat.strongRecOn with
  | _ m ih =>
    intro hm
    have hsoft : ∀ f xs v, softU m f xs = some v → Told1 prog (X0 σ fx) f xs v := by
      intro f xs v h
      unfold softU at h
      split at h
      · rename_i q
        cases hb : (Nat.beq f 27 && Nat.beq q ((m + 1) / 10 - 1) && Nat.ble 9 m) with
        | false => rw [hb] at h; cases h
        | true =>
          rw [hb] at h
          simp only [Option.some.injEq] at h
          simp only [Bool.and_eq_true] at hb
          obtain ⟨⟨h1, h2⟩, h3⟩ := hb
          have h1 := Nat.eq_of_beq_eq_true h1
          have h2 := Nat.eq_of_beq_eq_true h2
          have h3 := Nat.le_of_ble_eq_true h3
          subst h1 h2 h
          have := ih ((m + 1) / 10 - 1) (by omega) (by omega)
          rw [show (m + 1) / 10 - 1 + 1 = (m + 1) / 10 by omega] at this
          exact this
      · cases h
    have hK : KnOk σ fx (knU m) := ⟨(kn0_ok (σ := σ) (fx := fx)).facts, (kn0_ok (σ := σ) (fx := fx)).ix, (kn0_ok (σ := σ) (fx := fx)).sl, hsoft⟩
    have hcall := call_ok hK (base_ok' hK) 1
    obtain ⟨H1, hr⟩ := und_run (E := mkE (knU m) funs) (m := m) (f := 27) rfl rfl hm (fun c => by
      show softU m 27 [NI ((m + 1) / 10 - 1)] = _
      have hb : (Nat.beq 27 27 && Nat.beq ((m + 1) / 10 - 1) ((m + 1) / 10 - 1) && Nat.ble 9 m) = true := by
        rw [Nat.beq_refl, Nat.beq_refl, Nat.ble_eq_true_of_le (by omega)]; rfl
      simp only [softU, hb]) 0
    exact told1_of_run hcall rfl rfl hr
open Classical in
theorem dig_told1I {σ : Val} {fx : Nat → Option Go.Obj} (n : Int) (h1 : -9223372036854775808 ≤ n) (h2 : n ≤ 9223372036854775807) : Told1 prog (X0 σ fx) 20 [.int .i64 (.lit n)] (S (itoL n)) := by
  cases n with
  | ofNat n => exact dig_told1 n (by have h2 : (n : Int) ≤ 9223372036854775807 := h2; omega)
  | negSucc m =>
    have hm : m ≤ 9223372036854775807 := by omega
    let g : List AV → Option AV := fun ys => if ys = [NI m] then some (S (digL (m + 1))) else none
    have hg : ∀ ys u, g ys = some u → Told1 prog (X0 σ fx) 27 ys u := by
      intro ys u hu
      by_cases c : ys = [NI m]
      · simp only [g, c, if_true, Option.some.injEq] at hu; subst hu; subst c; exact und_told1 m hm
      · simp only [g, c, if_false] at hu; cases hu
    have hfs : ∀ f, f < 512 → FunOk prog (X0 σ fx) (mkE kn0 (set3 funs (P3.ofNat 27) (.told g))) methNames f (get3 (set3 funs (P3.ofNat 27) (.told g)) (P3.ofNat f)) :=
      set_ok (by decide) (base_ok' kn0_ok) (told_of_told1 hg)
    have hcall := call_ok (K := kn0) kn0_ok hfs 2
    have hu : callN (mkE kn0 (set3 funs (P3.ofNat 27) (.told g))) 1 27 [NI m] emptyH = .ok (S (digL (m + 1))) emptyH := by
      have hb : (Nat.ble 512 27 || Nat.ble 512 [NI m].length) = false := rfl
      have hg' : get3 (mkE kn0 (set3 funs (P3.ofNat 27) (.told g))).funs (P3.ofNat 27) = .told g := by
        show get3 (set3 funs (P3.ofNat 27) (.told g)) (P3.ofNat 27) = _
        rw [get3_set3, if_pos rfl]
      simp only [callN, hb, hg', g, if_true]
    have hf : get3 (mkE kn0 (set3 funs (P3.ofNat 27) (.told g))).funs (P3.ofNat 20) = f20 := by
      show get3 (set3 funs (P3.ofNat 27) (.told g)) (P3.ofNat 20) = _
      rw [get3_set3, if_neg (by decide)]
      rfl
    exact told1_of_run hcall rfl rfl (dig_neg rfl hf hm 1 hu)
def digE (e : SI) : Option AV := match e with
  | .lit (.ofNat n) => (match Nat.ble n 9223372036854775807 with | true => some (S (digQ n)) | false => none)
  | .lit (.negSucc m) => (match Nat.ble m 9223372036854775807 with | true => some (S (45 :: digQ (Nat.succ m))) | false => none)
  | e => (match SI.rng e with | true => some (.str (.dig e)) | false => none)
def digS (xs : List AV) : Option AV := match xs with
  | [.int .i64 e] => digE e
  | _ => none
theorem itoL_lt (n : Int) : ∀ c ∈ itoL n, c < 256 := by
  cases n with
  | ofNat n => intro c hc; have := digL_digs n c hc; omega
  | negSucc m =>
    intro c hc
    rcases List.mem_cons.1 hc with rfl | hc
    · decide
    · have := digL_digs (m + 1) c hc; omega
theorem dig_sym {σ : Val} {fx : Nat → Option Go.Obj} (hr : Rng σ) {f : Nat} (h : ∀ n : Int, -9223372036854775808 ≤ n → n ≤ 9223372036854775807 → Told1 prog (X0 σ fx) f [.int .i64 (.lit n)] (S (itoL n))) :
    ∀ xs v, digS xs = some v → Told1 prog (X0 σ fx) f xs v := by
  intro xs v hm
  unfold digS at hm
  split at hm
  · rename_i e
    unfold digE at hm
    split at hm
    · rename_i n
      cases hb : Nat.ble n 9223372036854775807 with
      | false => rw [hb] at hm; cases hm
      | true =>
        rw [hb] at hm; simp only [Option.some.injEq] at hm; subst hm
        have hb := Nat.le_of_ble_eq_true hb
        rw [digQ_eq]
        exact h (Int.ofNat n) (by show -9223372036854775808 ≤ (n : Int); omega) (by show (n : Int) ≤ _; omega)
    · rename_i m
      cases hb : Nat.ble m 9223372036854775807 with
      | false => rw [hb] at hm; cases hm
      | true =>
        rw [hb] at hm; simp only [Option.some.injEq] at hm; subst hm
        have hb := Nat.le_of_ble_eq_true hb
        rw [digQ_eq]
        exact h (Int.negSucc m) (by omega) (by omega)
    · cases hb : SI.rng e with
      | false => rw [hb] at hm; cases hm
      | true =>
        rw [hb] at hm; simp only [Option.some.injEq] at hm; subst hm
        have hb := rng_ok hr e hb
        intro pd ρ H w vs hG hH hvs
        obtain ⟨we, hw⟩ : e.wf ∧ True := by
          cases hvs with
          | cons _ _ _ _ a _ => cases a with | int _ _ _ w _ => exact ⟨w, trivial⟩
        refine Told1.as (h (e.ev σ) hb.1 hb.2) (fun ρ vs hv => ?_) (fun ρ x hx => VR.strTo (Y := X0 σ fx) hx (t := .dig e) we ?_) pd ρ H w vs hG hH hvs
        · cases hv with
          | cons _ _ _ _ a b => cases b with | nil => exact .cons _ _ _ _ (VR.liti a) .nil
        · show Go.Lib.itoa (IntKind.wrap .i64 (e.ev σ)) = b8 (itoL (e.ev σ))
          rw [wrap_id hb, itoa_itoL]
  · cases hm
theorem digs_told {σ : Val} {fx : Nat → Option Go.Obj} (hr : Rng σ) : ∀ xs v, digS xs = some v → Told1 prog (X0 σ fx) 20 xs v := dig_sym hr (fun n h1 h2 => dig_told1I n h1 h2)
def FixTab (fx : Nat → Option Go.Obj) : Prop := ∀ w : World, (∀ b o, fx b = some o → w.heap[b]? = some o) → Go.Lib.TabIs prog w "internal/strconv.uint64pow10" .u64 Go.Lib.pow10Tab
theorem itoa_told1 {σ : Val} {fx : Nat → Option Go.Obj} (hfx : FixTab fx) (n : Int) (h1 : -9223372036854775808 ≤ n) (h2 : n ≤ 9223372036854775807) : Told1 prog (X0 σ fx) 137 [.int .i64 (.lit n)] (S (itoL n)) := by
  intro pd ρ H w vs hG hH hvs
  have htab := hfx w (fun b o e => (hH.fixd b o e).1)
  have hv : vs = [.int .i64 n] := by
    cases hvs with
    | cons _ _ _ _ a b =>
      cases b with
      | nil => cases a with | int _ _ m _ hm => rw [hm]; rfl
  subst hv
  refine ⟨?_, (Go.Proofs.Tryz.strconv_Itoa n h1 h2 w htab).mono (fun e w' he => ?_)⟩
  · obtain ⟨fn, h3, h4, h5⟩ : FunOk prog (X0 σ fx) (mkE kn0 funs) methNames 137 f137 := base_ok' kn0_ok 137 (by decide)
    unfold cFun at h5
    split at h5
    · cases h5
    · rename_i body hb
      exact ⟨fn, h3, h4, by rw [hb]; rfl⟩
  · obtain ⟨rfl, k, os, rfl⟩ := he
    have keep : ∀ b, b < w.heap.size → (Go.Sort.grow (w.drewN k) os).heap[b]? = w.heap[b]? := by
      intro b hb
      show ((w.drewN k).heap ++ os)[b]? = _
      have : (w.drewN k).heap = w.heap := by simp
      rw [this, Array.getElem?_append_left hb]
    have hsz : w.heap.size ≤ (Go.Sort.grow (w.drewN k) os).heap.size := by
      show _ ≤ ((w.drewN k).heap ++ os).size
      have : (w.drewN k).heap = w.heap := by simp
      rw [this, Array.size_append]; omega
    refine ⟨ρ, _, rfl, Stp.of hH (Rho.le_refl _) ⟨fun id => ObjR.keep (Rho.le_refl _) (fun B e => keep B (blk_lt hH e)) (hH.obj id), hH.inj, hH.fresh, fun id B base C e => Nat.lt_of_lt_of_le (hH.below id B base C e) hsz, fun id hp => ?_⟩
      ⟨fun b hb _ => keep b hb, hsz, rfl, rfl, rfl, fun id B hl e => .inr ⟨id, hl, e⟩, Nat.le_refl _, fun _ _ => rfl⟩, .str _ _ (itoL_lt n) ?_⟩
    · obtain ⟨B, base, C, e, hm', hno, hnl, hu⟩ := hH.pend id hp
      exact ⟨B, base, C, e, by rw [keep B (hH.below id B base C e)]; exact hm', hno, hnl, hu⟩
    · show (Go.Lib.itoa n).toArray.toList = b8 (itoL n)
      rw [itoa_itoL]
theorem itoas_told {σ : Val} {fx : Nat → Option Go.Obj} (hr : Rng σ) (hfx : FixTab fx) : ∀ xs v, digS xs = some v → Told1 prog (X0 σ fx) 137 xs v := dig_sym hr (fun n h1 h2 => itoa_told1 hfx n h1 h2)
def nthT : List (SI × List Nat) → Nat → Option (SI × List Nat)
  | [], _ => none
  | a :: _, 0 => some a
  | _ :: l, n + 1 => nthT l n
def numShape (tl : List (SI × List Nat)) : Bool := tl.all (fun x => match x.2 with | [] => false | c :: _ => (match digB c with | true => false | false => (match letB c with | true => false | false => Nat.ble c 255)))
def numS (Sr : Src) (xs : List AV) : Option AV := match xs with
  | [.str s, .int .i64 i] => (match SS.eqb s Sr.s with
    | true => (match linOf Sr i with
      | .at k o => (match nthLL Sr.lits k, nthT Sr.tail k with
        | some l, some x => (match Nat.beq o l.length with
          | true => some (.tup [.agg [I 2, .str (.dig x.1), .int .i64 x.1, .int .i64 i], .int .i64 (.var (Nat.add 101 k)), .int .i64 (.lit (.negSucc 0))])
          | false => none)
        | _, _ => none)
      | .no => none)
    | false => none)
  | _ => none
theorem num_lit {σ : Val} {fx : Nat → Option Go.Obj} {pre ds post : List Nat} (hds : isDigs ds) (h1 : 1 ≤ ds.length) (h18 : ds.length ≤ 18) (hz : ds.length = 1 ∨ ds.head? ≠ some 48) (hp : post = [] ∨ ∃ c m, post = c :: m ∧ c < 256 ∧ digB c = false ∧ letB c = false)
    (hs : (pre ++ (ds ++ post)).length ≤ 1000000) :
    Told1 prog (X0 σ fx) 85 [S (pre ++ (ds ++ post)), I pre.length] (.tup [.agg [I 2, S ds, I (accV 0 ds), I pre.length], I (pre.length + ds.length), .int .i64 (.lit (.negSucc 0))]) := by
  let dgG : List AV → Option AV := fun xs => match xs with | [.int .u8 (.lit (.ofNat c))] => (match Nat.ble c 255 with | true => some (.bool (digB c)) | false => none) | _ => none
  have hdg : ∀ xs v, dgG xs = some v → Told1 prog (X0 σ fx) 84 xs v := by
    intro xs v h
    simp only [dgG] at h
    split at h
    · rename_i c
      cases hb : Nat.ble c 255 with
      | false => rw [hb] at h; cases h
      | true =>
        rw [hb] at h; simp only [Option.some.injEq] at h; subst h
        have hb := Nat.le_of_ble_eq_true hb
        have hrun : (List.range 256).all (fun c => okIs' (callF (mkE kn0 funs) 10 84 [.int .u8 (.lit (.ofNat c))] emptyH) (.bool (digB c))) = true := by decide +kernel
        have := List.all_eq_true.1 hrun c (List.mem_range.2 (by omega))
        rw [callF_eq] at this
        unfold okIs' at this
        cases hr : callN (mkE kn0 funs) 10 84 [.int .u8 (.lit (.ofNat c))] emptyH with
        | no => rw [hr] at this; cases this
        | ok u H1 =>
          rw [hr] at this
          have e := AV.eqb_eq _ _ this
          rw [e] at hr
          exact told1_of_run (call_ok kn0_ok (base_ok' kn0_ok) 10) rfl rfl hr
    · cases h
  have hfs : ∀ f, f < 512 → FunOk prog (X0 σ fx) (mkE kn0 (set3 funs2 (P3.ofNat 84) (.told dgG))) methNames f (get3 (set3 funs2 (P3.ofNat 84) (.told dgG)) (P3.ofNat f)) :=
    set_ok (by decide) (funs2_ok kn0_ok) (told_of_told1 hdg)
  have hcall := call_ok (K := kn0) kn0_ok hfs 2
  have hd : ∀ c h, c < 256 → callN (mkE kn0 (set3 funs2 (P3.ofNat 84) (.told dgG))) 1 84 [B c] h = .ok (.bool (digB c)) h := by
    intro c h hc
    have hb : (Nat.ble 512 84 || Nat.ble 512 [AV.int .u8 (.lit (.ofNat c))].length) = false := rfl
    have hg' : get3 (mkE kn0 (set3 funs2 (P3.ofNat 84) (.told dgG))).funs (P3.ofNat 84) = .told dgG := by
      show get3 (set3 funs2 (P3.ofNat 84) (.told dgG)) (P3.ofNat 84) = _
      rw [get3_set3, if_pos rfl]
    simp only [callN, hb, hg', dgG, B, Nat.ble_eq_true_of_le (show c ≤ 255 by omega)]
  have hl : ∀ c h, c < 256 → callN (mkE kn0 (set3 funs2 (P3.ofNat 84) (.told dgG))) 1 82 [B c] h = .ok (.bool (letB c)) h := by
    intro c h hc
    have hb : (Nat.ble 512 82 || Nat.ble 512 [AV.int .u8 (.lit (.ofNat c))].length) = false := rfl
    have hg' : get3 (mkE kn0 (set3 funs2 (P3.ofNat 84) (.told dgG))).funs (P3.ofNat 82) = .told letG := by
      show get3 (set3 funs2 (P3.ofNat 84) (.told dgG)) (P3.ofNat 82) = _
      rw [get3_set3, if_neg (by decide)]
      show get3 funs2 (P3.ofNat 82) = _
      unfold funs2
      rw [get3_set3, if_neg (by decide), get3_set3, if_pos rfl]
    simp only [callN, hb, hg', letG, B, Nat.ble_eq_true_of_le (show c ≤ 255 by omega)]
  have hf : get3 (mkE kn0 (set3 funs2 (P3.ofNat 84) (.told dgG))).funs (P3.ofNat 85) = f85 := by
    show get3 (set3 funs2 (P3.ofNat 84) (.told dgG)) (P3.ofNat 85) = _
    rw [get3_set3, if_neg (by decide)]
    unfold funs2
    rw [get3_set3, if_neg (by decide), get3_set3, if_neg (by decide), get3_set3, if_neg (by decide), get3_set3, if_neg (by decide), get3_set3, if_neg (by decide)]
    rfl
  obtain ⟨H1, hr⟩ := num_call (E := mkE kn0 (set3 funs2 (P3.ofNat 84) (.told dgG))) (f := 85) (n := 1) hf (by decide) hd hl hds h1 h18 hz hp hs
  exact told1_of_run hcall rfl rfl hr
theorem nthT_suf : ∀ (k : Nat) (h : List Nat) (tl : List (SI × List Nat)) (x : SI × List Nat), nthT tl k = some x → ∃ r, (sufF h tl k).2 = x :: r ∧ k < tl.length ∧ x ∈ tl
  | _, h, [], x, hx => by unfold nthT at hx; cases hx
  | 0, h, y :: tl, x, hx => by simp only [nthT, Option.some.injEq] at hx; subst hx; exact ⟨tl, rfl, by simp, List.mem_cons_self ..⟩
  | k + 1, h, (e, l) :: tl, x, hx => by
    obtain ⟨r, h1, h2, h3⟩ := nthT_suf k l tl x (by simpa [nthT] using hx)
    exact ⟨r, by simpa [sufF] using h1, by simpa using h2, List.mem_cons_of_mem _ h3⟩
theorem posF_succ (σ : Val) : ∀ (k : Nat) (h : List Nat) (tl : List (SI × List Nat)) (x : SI × List Nat), nthT tl k = some x → posF σ h tl (k + 1) = posF σ h tl k + (sufF h tl k).1.length + (digs σ x.1).length
  | _, h, [], x, hx => by unfold nthT at hx; cases hx
  | 0, h, (e, l) :: tl, x, hx => by simp only [nthT, Option.some.injEq] at hx; subst hx; simp [posF, sufF]
  | k + 1, h, (e, l) :: tl, x, hx => by
    have := posF_succ σ k l tl x (by simpa [nthT] using hx)
    simp only [posF, sufF] at this ⊢
    omega
theorem nums_told {σ : Val} {fx : Nat → Option Go.Obj} {Sr : Src} (ok : SrcOk σ Sr) (hsh : numShape Sr.tail = true) (hwf : ∀ x ∈ Sr.tail, x.1.wf) (hn : NumsOk σ Sr.tail) : ∀ xs v, numS Sr xs = some v → Told1 prog (X0 σ fx) 85 xs v := by
  intro xs v hm
  unfold numS at hm
  split at hm
  · rename_i s i
    cases hs : SS.eqb s Sr.s with
    | false => rw [hs] at hm; cases hm
    | true =>
      rw [hs] at hm
      simp only [] at hm
      cases hlin : linOf Sr i with
      | no => rw [hlin] at hm; cases hm
      | «at» k o =>
        rw [hlin] at hm
        simp only [] at hm
        cases hL : nthLL Sr.lits k with
        | none => rw [hL] at hm; cases hm
        | some l =>
          cases hT : nthT Sr.tail k with
          | none => rw [hL, hT] at hm; cases hm
          | some x =>
            rw [hL, hT] at hm
            simp only [] at hm
            cases ho : Nat.beq o l.length with
            | false => rw [ho] at hm; cases hm
            | true =>
              rw [ho] at hm
              simp only [Option.some.injEq] at hm
              subst hm
              have ho := Nat.eq_of_beq_eq_true ho
              obtain ⟨hk1, hk2, hi⟩ := linOf_ok ok i k o hlin
              obtain ⟨r, hr1, hr2, hr3⟩ := nthT_suf k Sr.head Sr.tail x hT
              obtain ⟨g1, g2, g3, g4⟩ := lit_at ok hL
              have hx := hn x hr3
              have hd := digs_pos hx
              rw [hr1] at g3
              simp only [] at g3
              have hse : s.ev σ = bytesF σ Sr.head Sr.tail := by rw [SS.eqb_ev σ _ _ hs]; exact ok.txt
              let P := posF σ Sr.head Sr.tail k + l.length
              have hdrop : (s.ev σ).drop P = digs σ x.1 ++ bytesF σ x.2 r := by
                rw [hse, ← List.drop_drop, g3, show l.length = (b8 l).length by simp [b8_len], List.drop_left]
              let pre := natL ((s.ev σ).take P)
              let N := (x.1.ev σ).toNat
              have hN : (N : Int) = x.1.ev σ := by show (((x.1.ev σ).toNat : Nat) : Int) = _; omega
              have hNlt : N < 10 ^ 18 := by have := hx.2; show (x.1.ev σ).toNat < _; omega
              have hdl : natL (digs σ x.1) = digL N := by
                rw [hd, decDigits_digL]
                exact natL_b8 (fun c hc => by have := digL_digs N c hc; omega)
              have hpl : pre.length = P := by
                show (natL _).length = _
                rw [natL_length, List.length_take, hse]
                exact Nat.min_eq_left g4
              have hsplit : natL (s.ev σ) = pre ++ (digL N ++ natL (bytesF σ x.2 r)) := by
                have e1 : s.ev σ = (s.ev σ).take P ++ (digs σ x.1 ++ bytesF σ x.2 r) := by rw [← hdrop, List.take_append_drop]
                conv => lhs; rw [e1]
                rw [natL_append, natL_append, hdl]
              have hpost : natL (bytesF σ x.2 r) = [] ∨ ∃ c m, natL (bytesF σ x.2 r) = c :: m ∧ c < 256 ∧ digB c = false ∧ letB c = false := by
                have hxs := List.all_eq_true.1 hsh x hr3
                cases hx2 : x.2 with
                | nil => rw [hx2] at hxs; cases hxs
                | cons c m =>
                  rw [hx2] at hxs
                  simp only [] at hxs
                  cases hdc : digB c with
                  | true => rw [hdc] at hxs; cases hxs
                  | false =>
                    rw [hdc] at hxs
                    simp only [] at hxs
                    cases hlc : letB c with
                    | true => rw [hlc] at hxs; cases hxs
                    | false =>
                      rw [hlc] at hxs
                      simp only [] at hxs
                      have hc := Nat.le_of_ble_eq_true hxs
                      have hb : ∃ q, bytesF σ (c :: m) r = UInt8.ofNat c :: q := by
                        cases r with
                        | nil => exact ⟨b8 m, rfl⟩
                        | cons y r => exact ⟨b8 m ++ (digs σ y.1 ++ bytesF σ y.2 r), rfl⟩
                      obtain ⟨q, hq⟩ := hb
                      refine .inr ⟨c, natL q, ?_, by omega, hdc, hlc⟩
                      rw [hq]
                      show (UInt8.ofNat c).toNat :: natL q = _
                      rw [u8n (by omega)]
              have hlen : (pre ++ (digL N ++ natL (bytesF σ x.2 r))).length ≤ 1000000 := by
                rw [← hsplit, natL_length, hse]; exact ok.small
              have ht := num_lit (σ := σ) (fx := fx) (pre := pre) (ds := digL N) (post := natL (bytesF σ x.2 r)) (digL_digs N) (List.length_pos_iff.2 (digL_ne N)) (digL_len N 17 hNlt)
                (by
                  by_cases c : N < 10
                  · left; rw [digL_small c]; rfl
                  · right; exact digL_head N (by omega)) hpost hlen
              rw [accV_digL, ← hsplit, hpl] at ht
              have hiP : i.ev σ = (P : Int) := by rw [hi, ho]
              intro pd ρ H w vs hG hH hvs
              have wi : i.wf := by
                cases hvs with
                | cons _ _ _ _ _ b => cases b with | cons _ _ _ _ c _ => cases c with | int _ _ _ w _ => exact w
              refine Told1.as ht (fun ρ vs hv => ?_) (fun ρ u hu => ?_) pd ρ H w vs hG hH hvs
              · cases hv with
                | cons _ _ _ _ a b =>
                  cases b with
                  | cons _ _ _ _ c d =>
                    cases d with
                    | nil => exact .cons _ _ _ _ (VR.lits a) (.cons _ _ _ _ (VR.intTo (Y := X0 σ fx) c trivial hiP.symm) .nil)
              · cases hu with
                | tup _ us hus =>
                  cases hus with
                  | cons _ _ _ _ a b =>
                    cases b with
                    | cons _ _ _ _ c d =>
                      refine .tup _ _ (.cons _ _ _ _ ?_ (.cons _ _ _ _ (VR.intTo (Y := X0 σ fx) c trivial ?_) d))
                      · cases a with
                        | agg _ ws hws =>
                          cases hws with
                          | cons _ _ _ _ a1 b1 =>
                            cases b1 with
                            | cons _ _ _ _ a2 b2 =>
                              cases b2 with
                              | cons _ _ _ _ a3 b3 =>
                                cases b3 with
                                | cons _ _ _ _ a4 b4 =>
                                  cases b4 with
                                  | nil =>
                                    refine .agg _ _ (.cons _ _ _ _ a1 (.cons _ _ _ _ (VR.strTo (Y := X0 σ fx) a2 (hwf x hr3) ?_) (.cons _ _ _ _ (VR.intTo (Y := X0 σ fx) a3 (hwf x hr3) hN.symm) (.cons _ _ _ _ (VR.intTo (Y := X0 σ fx) a4 wi hiP) .nil))))
                                    show digs σ x.1 = b8 (digL N)
                                    rw [hd, decDigits_digL]
                      · show σ.i (101 + k) = ((P + (digL N).length : Nat) : Int)
                        rw [show 101 + k = 100 + (k + 1) by omega, ok.pos (k + 1) (by omega), posF_succ σ k _ _ x hT, ← g2, ← hdl, natL_length]
  · cases hm
theorem preL_mem : ∀ (p l : List Nat), preL p l = true → ∀ c ∈ p, c ∈ l
  | [], l, _, c, hc => by cases hc
  | a :: p, [], h, c, hc => by simp [preL] at h
  | a :: p, b :: l, h, c, hc => by
    simp only [preL] at h
    cases hb : Nat.beq a b with
    | false => rw [hb] at h; cases h
    | true =>
      rw [hb] at h
      have e := Nat.eq_of_beq_eq_true hb
      subst e
      rcases List.mem_cons.1 hc with rfl | hc
      · exact List.mem_cons_self ..
      · exact List.mem_cons_of_mem _ (preL_mem p l h c hc)
theorem inL_mem (p : List Nat) : ∀ (l : List Nat), inL p l = true → ∀ c ∈ p, c ∈ l
  | [], h, c, hc => preL_mem p [] h c hc
  | b :: l, h, c, hc => by
    simp only [inL] at h
    cases hb : preL p (b :: l) with
    | true => exact preL_mem p (b :: l) hb c hc
    | false => rw [hb] at h; exact List.mem_cons_of_mem _ (inL_mem p l h c hc)
def inS (Sr : Src) (xs : List AV) : Option AV := match xs with
  | [.str (.var i), .str (.lit b)] => (match isMix Sr (.var i) && noDigit b && Nat.ble b.length 80000 with | true => some (.bool false) | false => none)
  | xs => inG xs
theorem noDigit_not : ∀ {l : List Nat}, noDigit l = true → ∀ c ∈ l, ¬ (48 ≤ c ∧ c ≤ 57)
  | [], _, c, hc => by cases hc
  | a :: l, h, c, hc => by
    simp only [noDigit] at h
    cases hb : ((Nat.ble 48 a && Nat.ble a 57) || Nat.ble 256 a) with
    | true => rw [hb] at h; cases h
    | false =>
      rw [hb] at h
      rcases List.mem_cons.1 hc with rfl | hc
      · simp only [Bool.or_eq_false_iff, Bool.and_eq_false_iff] at hb
        intro hc
        rcases hb.1 with x | x
        · rw [Nat.ble_eq_true_of_le hc.1] at x; cases x
        · rw [Nat.ble_eq_true_of_le hc.2] at x; cases x
      · exact noDigit_not h c hc
theorem ins_told {σ : Val} {fx : Nat → Option Go.Obj} {Sr : Src} (ok : SrcOk σ Sr) (hlen : ∀ i, 2 ≤ i → i / 2 ≤ Sr.tail.length → (σ.s i).length ≤ 2) : ∀ xs v, inS Sr xs = some v → Told1 prog (X0 σ fx) 52 xs v := by
  intro xs v hm
  unfold inS at hm
  have hbase : ∀ xs v, inG xs = some v → Told1 prog (X0 σ fx) 52 xs v := by
    intro xs v hm pd ρ H w vs hG hH hvs
    have h : FunOk prog (X0 σ fx) (mkE kn0 funs) methNames 52 (.told inG) := by
      rw [inG_eq]; exact in_told (E1 := mkE kn0 funs) (n := 0) rfl (by decide) (call_ok kn0_ok (base_ok' kn0_ok) 1)
    exact h pd ρ H w xs vs v hG hH hvs hm
  split at hm
  · rename_i i b
    cases hb : (isMix Sr (.var i) && noDigit b && Nat.ble b.length 80000) with
    | false => rw [hb] at hm; cases hm
    | true =>
      rw [hb] at hm
      simp only [Option.some.injEq] at hm
      subst hm
      simp only [Bool.and_eq_true] at hb
      obtain ⟨⟨h1, h2⟩, h3⟩ := hb
      have h3 := Nat.le_of_ble_eq_true h3
      simp only [isMix, Bool.and_eq_true] at h1
      obtain ⟨c, hc1, hc2⟩ := ok.mixD i (Nat.le_of_ble_eq_true h1.1) (Nat.le_of_ble_eq_true h1.2)
      have ht : Told1 prog (X0 σ fx) 52 [S (natL (σ.s i)), S b] (.bool false) := by
        have hh : fromL (natL (σ.s i)) (32 :: (natL (σ.s i) ++ [32])) b 0 = false := by
          cases hf : fromL (natL (σ.s i)) (32 :: (natL (σ.s i) ++ [32])) b 0 with
          | false => rfl
          | true =>
            exfalso
            have hne : natL (σ.s i) ≠ [] := by
              intro e
              have : c.toNat ∈ natL (σ.s i) := List.mem_map_of_mem hc1
              rw [e] at this; cases this
            unfold fromL at hf
            cases hn : natL (σ.s i) with
            | nil => exact hne hn
            | cons x y =>
              rw [hn] at hf
              simp only [List.drop_zero] at hf
              have hmem : c.toNat ∈ (x :: y) := by rw [← hn]; exact List.mem_map_of_mem hc1
              have := inL_mem _ _ hf c.toNat (by
                rcases List.mem_cons.1 hmem with e | e
                · rw [e]; simp
                · simp [e])
              exact noDigit_not h2 _ this hc2
        have := in_call (E := mkE kn0 funs) (a := natL (σ.s i)) (b := b) (f := 52) rfl (by decide) (by rw [natL_length]; have := hlen i (Nat.le_of_ble_eq_true h1.1) (Nat.le_of_ble_eq_true h1.2); omega) 0 emptyH
        rw [hh] at this
        exact told1_of_run (call_ok kn0_ok (base_ok' kn0_ok) 1) rfl rfl this
      refine Told1.as ht (fun ρ vs hv => ?_) (fun ρ u hu => hu)
      cases hv with
      | cons _ _ _ _ a d => exact .cons _ _ _ _ (VR.lits a) d
  · exact hbase _ _ hm
def letS (Sr : Src) (xs : List AV) : Option AV := match xs with
  | [.int .u8 (.var i)] => (match isByte Sr (.var i) with | true => some (.bool false) | false => none)
  | xs => letG xs
theorem lets_told {σ : Val} {fx : Nat → Option Go.Obj} {Sr : Src} (ok : SrcOk σ Sr) : ∀ xs v, letS Sr xs = some v → Told1 prog (X0 σ fx) 82 xs v := by
  intro xs v hm
  have hbase : ∀ xs v, letG xs = some v → Told1 prog (X0 σ fx) 82 xs v := by
    intro xs v hm pd ρ H w vs hG hH hvs
    have h : FunOk prog (X0 σ fx) (mkE kn0 funs) methNames 82 (.told letG) := let_told (E1 := mkE kn0 funs) (call_ok kn0_ok (base_ok' kn0_ok) 10) let_run
    exact h pd ρ H w xs vs v hG hH hvs hm
  unfold letS at hm
  split at hm
  · rename_i i
    cases hb : isByte Sr (.var i) with
    | false => rw [hb] at hm; cases hm
    | true =>
      rw [hb] at hm
      simp only [Option.some.injEq] at hm
      subst hm
      obtain ⟨n, h1, h2, h3⟩ := isByte_ok ok hb
      have ht : Told1 prog (X0 σ fx) 82 [.int .u8 (.lit (.ofNat n))] (.bool false) := by
        have hl : letB n = false := by
          have : (List.range 58).all (fun n => Bool.or (Nat.ble n 47) (Bool.not (letB n))) = true := by decide +kernel
          have := List.all_eq_true.1 this n (List.mem_range.2 (by omega))
          simp only [Bool.or_eq_true, Bool.not_eq_true'] at this
          rcases this with x | x
          · have := Nat.le_of_ble_eq_true x; omega
          · exact x
        refine hbase _ _ ?_
        simp only [letG, Nat.ble_eq_true_of_le (show n ≤ 255 by omega), hl]
      refine Told1.as ht (fun ρ vs hv => ?_) (fun ρ u hu => hu)
      cases hv with
      | cons _ _ _ _ a d => exact .cons _ _ _ _ (VR.intTo (Y := X0 σ fx) a trivial h3.symm) d
  · exact hbase _ _ hm
def softD : Nat → List AV → Option AV := fun f xs => match Nat.beq f 20 with | true => digS xs | false => none
def knT (Sr : Src) (fl : List (Cond × Bool)) : Kn := { facts := symF Sr fl, ix := orcIx Sr, sl := orcSl Sr, soft := softD }
def knL (fl : List (Cond × Bool)) : Kn := { facts := symF0 fl, ix := fun _ _ => none, sl := fun _ _ _ => none, soft := softD }
theorem softD_ok {σ : Val} {fx : Nat → Option Go.Obj} (hr : Rng σ) : ∀ f xs v, softD f xs = some v → Told1 prog (X0 σ fx) f xs v := by
  intro f xs v h
  unfold softD at h
  cases hb : Nat.beq f 20 with
  | false => rw [hb] at h; cases h
  | true =>
    rw [hb] at h
    have e := Nat.eq_of_beq_eq_true hb
    subst e
    exact digs_told hr xs v h
theorem knT_ok {σ : Val} {fx : Nat → Option Go.Obj} {Sr : Src} (ok : SrcOk σ Sr) (hr : Rng σ) {fl : List (Cond × Bool)} (hf : FactsL σ fl) : KnOk σ fx (knT Sr fl) :=
  ⟨symF_ok hr ok hf, fun _s _i _c _ h => orcIx_ok ok h, fun _s _a _b _r _ h => orcSl_ok ok h, softD_ok hr⟩
theorem knL_ok {σ : Val} {fx : Nat → Option Go.Obj} (hr : Rng σ) {fl : List (Cond × Bool)} (hf : FactsL σ fl) : KnOk σ fx (knL fl) :=
  ⟨symF0_ok hr hf, (fun _s _i _c _ h => nomatch h), (fun _s _a _b _r _ h => nomatch h), softD_ok hr⟩
def withCode (g : List AV → Option AV) (F : Fun) : Fun := match F with | .code rs c => .both g rs c | _ => .told g
def funsT (Sr : Src) : T3 Fun := set3 (set3 (set3 (set3 (set3 funs2 (P3.ofNat 82) (.told (letS Sr))) (P3.ofNat 52) (.told (inS Sr))) (P3.ofNat 20) (.told digS)) (P3.ofNat 137) (.told digS)) (P3.ofNat 85) (withCode (numS Sr) f85)
theorem num_code : ∃ rs c, f85 = .code rs c := ⟨_, _, f85_eq⟩
theorem funsT_ok {σ : Val} {fx : Nat → Option Go.Obj} {Sr : Src} {K : Kn} {fs : T3 Fun} (hK : KnOk σ fx K) (ok : SrcOk σ Sr) (hr : Rng σ) (hfx : FixTab fx) (hlen : ∀ i, 2 ≤ i → i / 2 ≤ Sr.tail.length → (σ.s i).length ≤ 2) (hsh : numShape Sr.tail = true) (hwf : ∀ x ∈ Sr.tail, x.1.wf) (hn : NumsOk σ Sr.tail) :
    ∀ f, f < 512 → FunOk prog (X0 σ fx) (mkE K fs) methNames f (get3 (funsT Sr) (P3.ofNat f)) := by
  have hnum : FunOk prog (X0 σ fx) (mkE K fs) methNames 85 f85 := base_ok' hK 85 (by decide)
  refine set_ok (by decide) (set_ok (by decide) (set_ok (by decide) (set_ok (by decide) (set_ok (by decide) (funs2_ok hK) (told_of_told1 (lets_told ok))) (told_of_told1 (ins_told ok hlen))) (told_of_told1 (digs_told hr))) (told_of_told1 (itoas_told hr hfx))) ?_
  obtain ⟨rs, c, e⟩ := num_code
  rw [e] at hnum ⊢
  exact both_of_told1 (nums_told ok hsh hwf hn) hnum
def funsL (memo : List (List AV × AV)) (manc : List (List AV × AV)) : T3 Fun := set3 (set3 (set3 (set3 funs2 (P3.ofNat 20) (.told digS)) (P3.ofNat 137) (.told digS)) (P3.ofNat 16) (.told (memoF memo))) (P3.ofNat 9) (.told (memoF manc))
theorem funsL_ok {σ : Val} {fx : Nat → Option Go.Obj} {K : Kn} {memo manc : List (List AV × AV)} (hK : KnOk σ fx K) (hr : Rng σ) (hfx : FixTab fx) (hm : ∀ x ∈ memo, Told1 prog (X0 σ fx) 16 x.1 x.2) (ha : ∀ x ∈ manc, Told1 prog (X0 σ fx) 9 x.1 x.2) :
    ∀ f, f < 512 → FunOk prog (X0 σ fx) (mkE K (funsL memo manc)) methNames f (get3 (funsL memo manc) (P3.ofNat f)) :=
  set_ok (by decide) (set_ok (by decide) (set_ok (by decide) (set_ok (by decide) (funs2_ok hK) (told_of_told1 (digs_told hr))) (told_of_told1 (itoas_told hr hfx)))
    (told_of_told1 (fun xs v h => hm _ (memoF_mem h)))) (told_of_told1 (fun xs v h => ha _ (memoF_mem h)))
theorem of_run {K : Kn} {fs : T3 Fun} {n f : Nat} {l : List AV} {v : AV} (h : okIs' (callF (mkE K fs) n f l emptyH) v = true) : ∃ H1, callN (mkE K fs) n f l emptyH = .ok v H1 := by
  rw [callF_eq] at h
  unfold okIs' at h
  cases hr : callN (mkE K fs) n f l emptyH with
  | no => rw [hr] at h; cases h
  | ok u H => rw [hr] at h; exact ⟨H, by rw [AV.eqb_eq _ _ h]⟩
theorem told_srcG {fs : T3 Fun} {σ : Val} {fx : Nat → Option Go.Obj} {h : List Nat} {tl : List (SI × List Nat)} {fl : List (Cond × Bool)} (_hfx : FixTab fx) (hr : Rng σ) (hf : FactsL σ fl) (hfb : fl.all (fun x => match x.1 with | .eqi a b => SI.base a && SI.base b | .lti a b => SI.base a && SI.base b | _ => false) = true)
    (hs : srcShape h tl = true) (_hsh : numShape tl = true) (hn : NumsOk σ tl)
    (hfs : ∀ {K : Kn}, KnOk (extV σ (mkSrc h tl)) fx K → SrcOk (extV σ (mkSrc h tl)) (mkSrc h tl) → Rng (extV σ (mkSrc h tl)) → (∀ i, 2 ≤ i → i / 2 ≤ (mkSrc h tl).tail.length → ((extV σ (mkSrc h tl)).s i).length ≤ 2) → (∀ x ∈ tl, x.1.wf) → NumsOk (extV σ (mkSrc h tl)) tl → ∀ f, f < 512 → FunOk prog (X0 (extV σ (mkSrc h tl)) fx) (mkE K fs) methNames f (get3 fs (P3.ofNat f))) {v : AV} (_h1 : SS.base (srcS (.lit h) tl) = true) (h2 : AV.base v = true)
    (hrun : okIs' (callF (mkE (knT (mkSrc h tl) fl) fs) 300 16 [.str (.var 1), .nils] emptyH) v = true) : Told1 prog (X0 σ fx) 16 [.str (srcS (.lit h) tl), .nils] v := by
  have ok := extV_ok hs hn
  have hev : ∀ e : SI, SI.base e = true → e.ev (extV σ (mkSrc h tl)) = e.ev σ := fun e he => SI.base_ev (fun i hi => extV_i hi) e he
  have hbase : ∀ x ∈ tl, SI.base x.1 = true := fun x hx => by
    simp only [srcShape, Bool.and_eq_true] at hs
    have := List.all_eq_true.1 hs.1.1.1.2 x hx
    simp only [Bool.and_eq_true] at this
    exact this.2
  have hr' : Rng (extV σ (mkSrc h tl)) := by
    intro i
    show _ ≤ (if i ≤ 99 then σ.i i else if 400 ≤ i then σ.i i else if i ≤ 100 + (mkSrc h tl).tail.length then (posF σ (mkSrc h tl).head (mkSrc h tl).tail (i - 100) : Int) else if 201 ≤ i ∧ i < 201 + (mkSrc h tl).tail.length then (((bytesF σ (mkSrc h tl).head (mkSrc h tl).tail).getD (posF σ (mkSrc h tl).head (mkSrc h tl).tail (i - 201) + (sufF (mkSrc h tl).head (mkSrc h tl).tail (i - 201)).1.length) 48).toNat : Int) else 0) ∧ (if i ≤ 99 then σ.i i else if 400 ≤ i then σ.i i else if i ≤ 100 + (mkSrc h tl).tail.length then (posF σ (mkSrc h tl).head (mkSrc h tl).tail (i - 100) : Int) else if 201 ≤ i ∧ i < 201 + (mkSrc h tl).tail.length then (((bytesF σ (mkSrc h tl).head (mkSrc h tl).tail).getD (posF σ (mkSrc h tl).head (mkSrc h tl).tail (i - 201) + (sufF (mkSrc h tl).head (mkSrc h tl).tail (i - 201)).1.length) 48).toNat : Int) else 0) ≤ _
    split
    · exact hr i
    · split
      · exact hr i
      rename_i h400
      split
      · rename_i hi2
        have hp := pos_le ok (k := i - 100) (by show i - 100 ≤ (mkSrc h tl).tail.length; omega)
        have : posF (extV σ (mkSrc h tl)) (mkSrc h tl).head (mkSrc h tl).tail (i - 100) = posF σ (mkSrc h tl).head (mkSrc h tl).tail (i - 100) := posF_congr _ _ _ (fun x hx => hev _ (hbase x hx))
        rw [this] at hp
        omega
      · split
        · have := ((bytesF σ (mkSrc h tl).head (mkSrc h tl).tail).getD (posF σ (mkSrc h tl).head (mkSrc h tl).tail (i - 201) + (sufF (mkSrc h tl).head (mkSrc h tl).tail (i - 201)).1.length) 48).toNat_lt
          omega
        · omega
  have hf' : FactsL (extV σ (mkSrc h tl)) fl := by
    intro c b hc
    have h0 := hf c b hc
    have hb := List.all_eq_true.1 hfb _ hc
    cases c with
    | eqi x y => simp only [Bool.and_eq_true] at hb; simp only [Cond.val] at h0 ⊢; rw [hev x hb.1, hev y hb.2]; exact h0
    | lti x y => simp only [Bool.and_eq_true] at hb; simp only [Cond.val] at h0 ⊢; rw [hev x hb.1, hev y hb.2]; exact h0
    | eqs x y => cases hb
    | lts x y => cases hb
  have hn' : NumsOk (extV σ (mkSrc h tl)) tl := fun x hx => by rw [hev _ (hbase x hx)]; exact hn x hx
  have hK := knT_ok (fx := fx) ok hr' hf'
  have hlen : ∀ i, 2 ≤ i → i / 2 ≤ (mkSrc h tl).tail.length → ((extV σ (mkSrc h tl)).s i).length ≤ 2 := fun i h2 hk => extV_s σ (mkSrc h tl) i h2 (by
    simp only [srcShape, Bool.and_eq_true] at hs
    have h90 := Nat.le_of_ble_eq_true hs.1.1.2
    have hk : i / 2 ≤ tl.length := hk
    omega)
  have hfs := hfs hK ok hr' hlen (fun x hx => SI.base_wf _ (hbase x hx)) hn'
  obtain ⟨H1, hrn⟩ := of_run hrun
  refine told1_base (fun i hi => (extV_i hi).symm) (fun i hi => (extV_t hi).symm) (call_ok hK hfs 300) (fun ρ ρ' vs hv => ?_) rfl h2 hrn
  cases hv with
  | cons _ _ _ _ a b =>
    refine .cons _ _ _ _ (VR.strTo a trivial ?_) (VRs.base (fun i hi => (extV_i hi).symm) (fun i hi => (extV_t hi).symm) b rfl)
    show SS.ev (extV σ (mkSrc h tl)) (.var 1) = (srcS (.lit h) tl).ev σ
    rw [srcS_bytes]
    refine ok.txt.trans ?_
    exact bytesF_congr _ _ (fun x hx => hev _ (hbase x hx))
end Ds.Text
end
namespace Ds
open Go (IntKind Value World Addr MapEntry Program Sem Result Operand TypeId)
theorem kept_of_stp {X : Cx} {pd : P5 → Prop} {ρ ρ' : Rho} {w w' : World} {H' : Hp} (h : Stp X pd ρ emptyH w ρ' H' w') (may : Go.MemPlace → Prop) : World.keptBut w w' may := by
  refine ⟨h.fr.os, h.fr.output, fun i hi => ?_⟩
  have e : w'.heap[i]? = w.heap[i]? := h.fr.keeps i hi (fun id hl => absurd (emptyH_get id) hl)
  rw [e]
  cases hx : w.heap[i]? with
  | none => rfl
  | some o => cases o <;> first | exact ⟨rfl, rfl, rfl, fun _ _ => rfl⟩ | exact .inr ⟨rfl, rfl⟩ | rfl
theorem law_calls {P : Program} {X : Cx} {call : CallF} (hcall : CallOk P X call) {w : World} (hg : P.globals.size ≤ w.heap.size) (_h64 : P.globals.size ≤ 64) (hfx : ∀ b o, X.fix b = some o → w.heap[b]? = some o) {f : Nat} {xs : List AV} {vs : List Value} (hv : ∀ ρ, VRs X ρ xs vs) {H' : Hp}
    (hrun : call f xs emptyH = .ok (.bool true) H') : Go.Calls P f vs.toArray w (fun e w' => e = .returned (.bool true) ∧ ∀ may, World.keptBut w w' may) := by
  let ρ : Rho := fun id => if id.num < P.globals.size then some (id.num, 0, 1) else none
  have hb : ∀ id B base C, ρ id = some (B, base, C) → B < w.heap.size := by
    intro id B base C e
    by_cases c : id.num < P.globals.size
    · simp only [ρ, c, if_true, Option.some.injEq, Prod.mk.injEq] at e
      omega
    · simp only [ρ, c, if_false] at e; cases e
  have hG : GR P (fun id => if id.num < 64 then ρ id else none) := by
    intro g h1 h2
    have : (P5.ofNat g).num = g := P5.num_ofNat (by omega)
    exact ⟨1, by simp only [this, h2, if_true, ρ, h1]⟩
  obtain ⟨_, hC⟩ := hcall _ _ emptyH w f xs vs (.bool true) H' hG (HR.empty (X := X) hb hfx) (hv _) hrun
  refine hC.mono (fun e w' he => ?_)
  obtain ⟨ρ', v', rfl, hs, hr⟩ := he
  cases hr with
  | bool b => exact ⟨rfl, kept_of_stp hs⟩
theorem var_lt {P : Program} {W : World} {n : String} {g : Nat} {cs : Array Value} (hg : P.globalNamed n = some g) (hv : W.var? P n = some cs) : g < W.heap.size := by
  simp only [World.var?, hg, Option.bind_some] at hv
  rcases Nat.lt_or_ge g W.heap.size with h | h
  · exact h
  · rw [Array.getElem?_eq_none h] at hv; cases hv
end Ds
set_option maxRecDepth 100000
noncomputable section
namespace Ds.Text
open Go (IntKind Value World Addr Program)
theorem f_nil {σ : Val} : FactsL σ [] := fun _ _ h => by cases h
theorem f_cons {σ : Val} {c : Cond} {b : Bool} {l : List (Cond × Bool)} (h : c.val σ = b) (k : FactsL σ l) : FactsL σ ((c, b) :: l) := by
  intro c' b' hm
  rcases List.mem_cons.1 hm with e | hm
  · cases e; exact h
  · exact k c' b' hm
theorem n_nil {σ : Val} : NumsOk σ [] := fun _ h => by cases h
theorem n_cons {σ : Val} {e : SI} {m : List Nat} {l : List (SI × List Nat)} (h : 0 ≤ e.ev σ ∧ e.ev σ < 1000000000000000000) (k : NumsOk σ l) : NumsOk σ ((e, m) :: l) := by
  intro x hm
  rcases List.mem_cons.1 hm with rfl | hm
  · exact h
  · exact k x hm
theorem t_nil {X : Cx} : ∀ x ∈ ([] : List (List AV × AV)), Told1 prog X 16 x.1 x.2 := fun _ h => by cases h
theorem t_cons {X : Cx} {xs : List AV} {v : AV} {l : List (List AV × AV)} (h : Told1 prog X 16 xs v) (k : ∀ x ∈ l, Told1 prog X 16 x.1 x.2) : ∀ x ∈ (xs, v) :: l, Told1 prog X 16 x.1 x.2 := by
  intro x hm
  rcases List.mem_cons.1 hm with rfl | hm
  · exact h
  · exact k x hm
def vals2 (a b : Int) : Val := { i := fun n => match n with | 0 => a | 1 => b | _ => 0, s := fun _ => [], ok := fun _ => by simp }
theorem vals2_rng {a b : Int} (ha : -9223372036854775808 ≤ a ∧ a ≤ 9223372036854775807) (hb : -9223372036854775808 ≤ b ∧ b ≤ 9223372036854775807) : Rng (vals2 a b) := by
  intro i
  match i with
  | 0 => exact ha
  | 1 => exact hb
  | n + 2 => show _ ≤ (0 : Int) ∧ (0 : Int) ≤ _; omega
def manc : List (List AV × AV) := [([], .bool true)]
def funsA : T3 Fun := set3 (set3 funs2 (P3.ofNat 20) (.told digS)) (P3.ofNat 137) (.told digS)
theorem funsA_ok {σ : Val} {fx : Nat → Option Go.Obj} {K : Kn} (hK : KnOk σ fx K) (hr : Rng σ) (hfx : FixTab fx) : ∀ f, f < 512 → FunOk prog (X0 σ fx) (mkE K funsA) methNames f (get3 funsA (P3.ofNat f)) :=
  set_ok (by decide) (set_ok (by decide) (funs2_ok hK) (told_of_told1 (digs_told hr))) (told_of_told1 (itoas_told hr hfx))
theorem run_anchor : okIs' (callF (mkE kn0 funsA) 300 9 [] emptyH) (.bool true) = true := by decide +kernel
theorem fix_of_tab {w : World} (h : Go.Lib.TabIs prog w "internal/strconv.uint64pow10" .u64 Go.Lib.pow10Tab) : ∃ fx, FixTab fx ∧ ∀ b o, fx b = some o → w.heap[b]? = some o := by
  unfold Go.Lib.TabIs World.var? at h
  cases hg : prog.globalNamed "internal/strconv.uint64pow10" with
  | none => rw [hg] at h; cases h
  | some g =>
    rw [hg] at h
    simp only [Option.bind_some] at h
    cases ho : w.heap[g]? with
    | none => rw [ho] at h; cases h
    | some o =>
      refine ⟨fun b => if b = g then some o else none, fun w' hw' => ?_, fun b o' hb => ?_⟩
      · have := hw' g o (if_pos rfl)
        unfold Go.Lib.TabIs World.var?
        rw [hg]
        simp only [Option.bind_some]
        rw [this, ← ho]; exact h
      · simp only [] at hb
        by_cases c : b = g
        · subst c; rw [if_pos rfl] at hb; rw [ho]; exact hb
        · rw [if_neg c] at hb; cases hb
theorem leaf {σ : Val} {fx : Nat → Option Go.Obj} (hfx : FixTab fx) {w : World} (hfw : ∀ b o, fx b = some o → w.heap[b]? = some o) (hw : 4 ≤ w.heap.size) (hr : Rng σ) {law : Nat} {xs : List AV} {vs : List Value} {fl : List (Cond × Bool)} {memo : List (List AV × AV)} (hf : FactsL σ fl)
    (hm : ∀ x ∈ memo, Told1 prog (X0 σ fx) 16 x.1 x.2) (hrun : okIs' (callF (mkE (knL fl) (funsL memo manc)) 300 law xs emptyH) (.bool true) = true) (hv : ∀ ρ, VRs (X0 σ fx) ρ xs vs) :
    Go.Calls prog law vs.toArray w (fun e w' => e = .returned (.bool true) ∧ ∀ may, Go.World.keptBut w w' may) := by
  have hs : prog.globals.size = 4 := by decide +kernel
  have ha : ∀ x ∈ manc, Told1 prog (X0 σ fx) 9 x.1 x.2 := by
    intro x hx
    simp only [manc, List.mem_singleton] at hx
    subst hx
    obtain ⟨H1, hr1⟩ := of_run run_anchor
    exact told1_of_run (call_ok kn0_ok (funsA_ok kn0_ok hr hfx) 300) rfl rfl hr1
  have hK := knL_ok (fx := fx) hr hf
  obtain ⟨H', h⟩ := of_run hrun
  exact law_calls (call_ok hK (funsL_ok hK hr hfx hm ha) 300) (by rw [hs]; exact hw) (by rw [hs]; decide) hfw hv h
end Ds.Text
end
