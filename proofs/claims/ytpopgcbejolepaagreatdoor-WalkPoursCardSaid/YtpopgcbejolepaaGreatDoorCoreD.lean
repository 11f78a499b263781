/- The deterministic evaluator D and what is proved with it, part CoreD of the claim on YtpopgcbejolepaaGreatDoor. -/
import Derived.Test.YtpopgcbejolepaaGreatDoorCoreC
import Derived.Recover
namespace Ds
open Go (IntKind Value World Addr MapEntry Program Sem Result Operand TypeId)
def Ls (listed : Array Bool) (i : Nat) : Prop := listed.getD i false = true
theorem Ls_set {listed : Array Bool} {i : Nat} (hi : i < listed.size) (j : Nat) : Ls (listed.setIfInBounds i true) j ↔ j = i ∨ Ls listed j := by
  unfold Ls
  by_cases c : j = i
  · subst c; simp [hi]
  · simp only [c, false_or]
    by_cases hj : j < listed.size
    · simp [hj, Ne.symm c]
    · simp [hj]
section
variable {E : Env} {call : CallF} {m : List Op} {t0 tn : T3 AV} {H0 Hn : Hp}
theorem text_old (he : ops E call m t0 H0 = .ok tn Hn) {p : P3} : ∀ (i : Nat), i ≤ m.length → (∀ k o, k < i → m[k]? = some o → o.dst ≠ some p) → get3 (runs E call m t0 H0 i).1 p = get3 t0 p
  | 0, _, _ => by rw [runs_zero]
  | i + 1, hi, h => by
    have hm : m[i]? = some m[i] := List.getElem?_eq_getElem (by omega)
    obtain ⟨v, _, h2⟩ := runs_step he i _ hm
    rw [h2, get3_putO_ne _ _ _ (h i _ (by omega) hm)]
    exact text_old he i (by omega) (fun k o hk => h k o (by omega))
theorem text_new (he : ops E call m t0 H0 = .ok tn Hn) {p : P3} {k : Nat} {o : Op} (hk : m[k]? = some o) (hd : o.dst = some p) {v : AV} {h' : Hp} (hv : Op.val E call o (runs E call m t0 H0 k).1 (runs E call m t0 H0 k).2 = some (v, h'))
    (hdd : ∀ i x, i ≠ k → m[i]? = some x → x.dst ≠ some p) : ∀ (i : Nat), k < i → i ≤ m.length → get3 (runs E call m t0 H0 i).1 p = v
  | 0, hki, _ => by omega
  | i + 1, hki, hi => by
    have hm : m[i]? = some m[i] := List.getElem?_eq_getElem (by omega)
    obtain ⟨u, h1, h2⟩ := runs_step he i _ hm
    by_cases c : i = k
    · subst c
      rw [hk] at hm
      have hm' := Option.some.inj hm
      rw [← hm'] at h1 h2
      rw [hv] at h1
      simp only [Option.some.injEq, Prod.mk.injEq] at h1
      rw [h2, hd, get3_putO_self, h1.1]
    · rw [h2, get3_putO_ne _ _ _ (hdd i _ c hm)]
      exact text_new he hk hd hv hdd i (by omega) (by omega)
theorem runs_length (he : ops E call m t0 H0 = .ok tn Hn) {a b : Nat} (ha : a ≤ m.length) (hb : b ≤ m.length) (h : ∀ i o, m[i]? = some o → o.loud = true → (i < a ↔ i < b)) : (runs E call m t0 H0 a).2 = (runs E call m t0 H0 b).2 := by
  have h1 := loud_at he a 0 ha
  have h2 := loud_at he b 0 hb
  have hle : ∀ (a b : Nat), (∀ i o, m[i]? = some o → o.loud = true → (i < a ↔ i < b)) → cntIf (fun i => Nat.blt i (0 + a)) 0 (m.map Op.loud) ≤ cntIf (fun i => Nat.blt i (0 + b)) 0 (m.map Op.loud) := by
    intro a b h
    refine cntIf_mono _ 0 (fun i hi hf => ?_)
    simp only [List.getElem?_map, Option.map_eq_some_iff] at hi
    obtain ⟨o, ho, hl⟩ := hi
    simp only [Nat.zero_add] at hf ⊢
    have := (h i o ho hl).1 (Nat.le_of_ble_eq_true hf)
    exact Nat.ble_eq_true_of_le this
  have : cntIf (fun i => Nat.blt i (0 + a)) 0 (m.map Op.loud) = cntIf (fun i => Nat.blt i (0 + b)) 0 (m.map Op.loud) :=
    Nat.le_antisymm (hle a b h) (hle b a (fun i o ho hl => (h i o ho hl).symm))
  rw [this, h2] at h1
  exact (Option.some.inj h1).symm
end
structure OI (X : Cx) (pdL : Array Bool → P5 → Prop) (ρ0 : Rho) (h0 : Hp) (w0 : World) (oa : Array Go.Oper) (m : List Op) (E : Env) (call : CallF) (t0 : T3 AV) (H0 : Hp) (a0 : Go.Act) (r : P5) (mk : Option Nat)
    (listed : Array Bool) (a : Go.Act) (w : World) (ρ : Rho) (t : T3 AV) (mm : Nat) : Prop where
  size : listed.size = oa.size
  closed : ∀ j, Ls listed j → ∀ i, Bef oa i j → Ls listed i
  stp : Stp X (pdL listed) ρ0 h0 w0 ρ (runs E call m t0 H0 mm).2 w
  tr : TR X ρ t a.tmps
  tms : a.tmps.size = a0.tmps.size
  dfr : a.defers = a0.defers
  mmle : mm ≤ m.length
  loud : ∀ i o, m[i]? = some o → o.loud = true → (Ls listed i ↔ i < mm)
  new : ∀ i o v h', m[i]? = some o → ∀ p, o.dst = some p → Ls listed i → Op.val E call o (runs E call m t0 H0 i).1 (runs E call m t0 H0 i).2 = some (v, h') → get3 t p = v
  old : ∀ p, (∀ i o, m[i]? = some o → o.dst = some p → ¬ Ls listed i) → get3 t p = get3 t0 p
  late : ∀ i, mk = some i → (¬ Ls listed i → ρ r = none) ∧ r.num < (runs E call m t0 H0 mm).2.nx.num ∧ ∀ B, ρ.blk r = some B → w0.heap.size ≤ B
structure RegFacts (P : Program) (names : List String) (nt : Nat) (oa : Array Go.Oper) (late : Bool) (E : Env) (call : CallF) (m : List Op) (t0 : T3 AV) (H0 : Hp) (tn : T3 AV) (Hn : Hp) : Prop where
  run : ops E call m t0 H0 = .ok tn Hn
  len : m.length = oa.size
  made : ∀ i o, oa[i]? = some o → ∃ op, m[i]? = some op ∧ cOper P names nt oa true late (cntIf (fun j => ((Go.Region.before oa).getD i 0).testBit j) 0 (m.map Op.loud)) (cntIf (fun j => !(((Go.Region.before oa).getD j 0).testBit i)) 0 (m.map Op.loud)) o = some op
  edges : edgesOk oa = true
  order : OrderFacts oa m
  chk : (∃ o ∈ m, o.checked = true) → ∃ cs, (∀ c ∈ chks E call m t0 H0, c ∈ cs) ∧ chkAll E cs 0 (H0 :: loudHs E call m t0 H0) = true
section
variable {P : Program} {X : Cx} {E : Env} {call : CallF} {names : List String} {oa : Array Go.Oper} {nt : Nat} {late : Bool} {m : List Op} {t0 tn : T3 AV} {H0 Hn : Hp}
theorem quiet_move (F : RegFacts P names nt oa late E call m t0 H0 tn Hn) {i : Nat} {o : Go.Oper} {op : Op} (_ho : oa[i]? = some o) (hm : m[i]? = some op)
    (hc : cOper P names nt oa true late (cntIf (fun j => ((Go.Region.before oa).getD i 0).testBit j) 0 (m.map Op.loud)) (cntIf (fun j => !(((Go.Region.before oa).getD j 0).testBit i)) 0 (m.map Op.loud)) o = some op)
    (hl : op.loud = false) {v : AV} {h' : Hp} (hv : Op.val E call op (runs E call m t0 H0 i).1 (runs E call m t0 H0 i).2 = some (v, h')) {mm : Nat} (hmm : mm ≤ m.length)
    (hb : ∀ j x, m[j]? = some x → x.loud = true → (Bef oa j i → j < mm) ∧ (Bef oa i j → ¬ j < mm)) :
    Op.val E call op (runs E call m t0 H0 i).1 (runs E call m t0 H0 mm).2 = some (v, (runs E call m t0 H0 mm).2) := by
  have hh := Op.val_quiet hl hv
  subst hh
  cases hmem : op.mem with
  | false => exact Op.val_still hl hmem hv
  | true =>
    have hi : i ≤ m.length := by have := (List.getElem?_eq_some_iff.1 hm).1; omega
    have bnd : ∀ k, (∀ j x, m[j]? = some x → x.loud = true → (Bef oa j i → j < k) ∧ (Bef oa i j → ¬ j < k)) →
        cntIf (fun j => ((Go.Region.before oa).getD i 0).testBit j) 0 (m.map Op.loud) ≤ cntIf (fun j => Nat.blt j (0 + k)) 0 (m.map Op.loud) ∧
        cntIf (fun j => Nat.blt j (0 + k)) 0 (m.map Op.loud) ≤ cntIf (fun j => !(((Go.Region.before oa).getD j 0).testBit i)) 0 (m.map Op.loud) := by
      intro k hk
      refine ⟨cntIf_mono _ 0 (fun j hj hf => ?_), cntIf_mono _ 0 (fun j hj hf => ?_)⟩
      · simp only [List.getElem?_map, Option.map_eq_some_iff] at hj
        obtain ⟨x, hx, hxl⟩ := hj
        rw [Nat.zero_add] at hf ⊢
        exact Nat.ble_eq_true_of_le (by rw [Nat.zero_add]; exact (hk j x hx hxl).1 (before_spec oa j i hf))
      · simp only [List.getElem?_map, Option.map_eq_some_iff] at hj
        obtain ⟨x, hx, hxl⟩ := hj
        rw [Nat.zero_add] at hf ⊢
        have hlt : j < 0 + k := Nat.le_of_ble_eq_true hf
        cases ht : ((Go.Region.before oa).getD j 0).testBit i with
        | false => rfl
        | true => exact absurd (by omega) ((hk j x hx hxl).2 (before_spec oa i j ht))
    have b1 := bnd mm hb
    have b2 := bnd i (fun j x hx hxl => ⟨fun hbf => Bef.lt F.edges hbf, fun hbf => by have := Bef.lt F.edges hbf; omega⟩)
    have l1 := loud_at F.run mm 0 hmm
    have l2 := loud_at F.run i 0 hi
    obtain ⟨_, _, base, hbase, hg⟩ := cOper_spec hc
    have hbof := (cBase_spec hbase).2
    generalize cntIf (fun j => ((Go.Region.before oa).getD i 0).testBit j) 0 (m.map Op.loud) = lo at *
    generalize cntIf (fun j => !(((Go.Region.before oa).getD j 0).testBit i)) 0 (m.map Op.loud) = hi' at *
    cases hq : lateQ late o ((cOp P names o).getD (.q (.bad 0))) with
    | l x =>
      rw [hq] at hbof; simp only [BaseOf] at hbof; subst hbof
      rcases hg with ⟨_, rfl⟩ | ⟨j, want, n, _, _, _, rfl⟩ <;> simp [softB, Op.loud] at hl
    | k x =>
      rw [hq] at hbof; simp only [BaseOf] at hbof; subst hbof
      exfalso
      have hm0 : (softB P true (.k (o.dst.map P3.ofNat) x)).mem = false := by
        cases x <;> simp only [softB] <;> (try rfl)
        rename_i f as
        cases isSoft P f <;> rfl
      rcases hg with ⟨_, rfl⟩ | ⟨j, want, n, _, _, _, rfl⟩
      · rw [hm0] at hmem; cases hmem
      · have : (Op.g (P3.ofNat n) want (softB P true (.k (o.dst.map P3.ofNat) x))).mem = false := hm0
        rw [this] at hmem; cases hmem
    | q x =>
      rw [hq] at hbof hbase
      have hsb : softB P true base = base := by
        rcases softB_or P true base with h | ⟨_, d, f, as, rfl, _, _⟩
        · exact h
        · have := hbof.1; simp [Op.loud] at this
      rw [hsb] at hg
      have hxm : x.readsMem = true := by
        rw [← hbof.2.2.1]
        rcases hg with ⟨_, rfl⟩ | ⟨j, want, n, _, _, _, rfl⟩
        · exact hmem
        · exact hmem
      by_cases hlh : lo = hi'
      · have : cntIf (fun j => Nat.blt j (0 + mm)) 0 (m.map Op.loud) = cntIf (fun j => Nat.blt j (0 + i)) 0 (m.map Op.loud) := by omega
        rw [this, l2] at l1
        rw [← Option.some.inj l1]
        exact hv
      · -- a checked one
        cases hod : o.dst.map P3.ofNat with
        | none => rw [hod] at hbase; simp [cBase] at hbase
        | some d =>
          rw [hod] at hbase
          have hne : (lo != hi') = true := by simpa using hlh
          simp only [cBase, hxm, hne, Bool.true_and, Option.some.injEq] at hbase
          subst hbase
          have hck : op.checked = true := by rcases hg with ⟨_, rfl⟩ | ⟨j, want, n, _, _, _, rfl⟩ <;> rfl
          obtain ⟨cs, hcs, hall⟩ := F.chk ⟨op, List.mem_of_getElem? hm, hck⟩
          have hat := chkAll_spec hall _ _ l1
          rw [Nat.zero_add] at hat
          have main : ∀ u, Ds.Q.ev E x (runs E call m t0 H0 i).1 (runs E call m t0 H0 i).2 = some u → Chk.mk x (runs E call m t0 H0 i).1 u lo hi' ∈ chks E call m t0 H0 → Ds.Q.ev E x (runs E call m t0 H0 i).1 (runs E call m t0 H0 mm).2 = some u := by
            intro u hu hmc
            obtain ⟨z, hz, hzz⟩ := chkAt_spec hat x _ u lo hi' (hcs _ hmc) b1.1 b1.2
            rw [hz, AV.eqb_eq _ _ hzz]
          have hmemc := chks_mem F.run i op hm
          rcases hg with ⟨_, rfl⟩ | ⟨j, want, n, _, _, _, rfl⟩
          · simp only [Op.val, Option.map_eq_some_iff, Prod.mk.injEq] at hv ⊢
            obtain ⟨u, hu, rfl, _⟩ := hv
            refine ⟨u, main u hu (hmemc _ ?_), rfl, trivial⟩
            simp only [chkOf, hu, List.mem_singleton]
          · simp only [Op.val] at hv ⊢
            split at hv
            · rename_i b hbv
              split at hv
              · rename_i hw
                simp only [Option.map_eq_some_iff, Prod.mk.injEq] at hv ⊢
                obtain ⟨u, hu, rfl, _⟩ := hv
                refine ⟨u, main u hu (hmemc _ ?_), rfl, trivial⟩
                simp only [chkOf, guardOk, hbv, hw, hu, List.mem_singleton]
              · simp only [Option.some.injEq, Prod.mk.injEq] at hv ⊢; exact ⟨hv.1, trivial⟩
            · simp only [Option.some.injEq, Prod.mk.injEq] at hv ⊢; exact ⟨hv.1, trivial⟩
            · cases hv
end
end Ds
namespace Ds
open Go (IntKind Value World Addr MapEntry Program Sem Result Operand TypeId)
section
variable {X : Cx} {pdA pdB : P5 → Prop} {ρ : Rho} {H : Hp} {w : World} {r : P5}
theorem HR.dead (h : HR X pdA ρ H w) (hr : ρ r = none) : ¬ Live H r := fun hl => by
  obtain ⟨B, base, C, e, _⟩ := h.live_blk hl
  rw [hr] at e; cases e
theorem heap_alloc_lt (w : World) (o : Go.Obj) {k : Nat} (hk : k < w.heap.size) : (w.alloc o).heap[k]? = w.heap[k]? := by
  simp only [World.alloc, Array.getElem?_push]
  rw [if_neg (by omega)]
theorem blk_lt (h : HR X pdA ρ H w) {j : P5} {B : Nat} (e : ρ.blk j = some B) : B < w.heap.size := by
  unfold Rho.blk at e
  cases hr : ρ j with
  | none => rw [hr] at e; cases e
  | some x => rw [hr] at e; simp at e; subst e; exact h.below j x.1 x.2.1 x.2.2 hr
theorem HR.mkLate (h : HR X pdA ρ H w) (hr : ρ r = none) (hlt : r.num < H.nx.num) (hpd : ∀ id, pdB id ↔ pdA id ∨ id = r) :
    HR X pdB (ρ.upd r (w.heap.size, 0, 0)) H (w.alloc (.map #[] 0)) := by
  have hd := h.dead hr
  have hle : ρ.le (ρ.upd r (w.heap.size, 0, 0)) := Rho.upd_le hr
  have hblk : ∀ j, r ≠ j → (ρ.upd r (w.heap.size, 0, 0)).blk j = ρ.blk j := fun j hj => Rho.upd_blk_ne hj
  have hlr : ∀ j, Live H j → r ≠ j := fun j hj e => hd (e ▸ hj)
  refine ⟨⟨fun j => ObjR.keep hle (fun B e => heap_alloc_lt w _ (blk_lt h e)) (h.obj j), fun i j hi hj hne => ?_, fun j hj => ?_, fun j B base C e => ?_, fun j hj => ?_⟩, fun b o eb => ?fx⟩
  case fx =>
    obtain ⟨h1, h2, h3⟩ := h.fixd b o eb
    have hb := h.lt_of_fix eb
    refine ⟨by rw [heap_alloc_lt w _ hb]; exact h1, fun id hl => by rw [hblk id (hlr id hl)]; exact h2 id hl, fun id hp => ?_⟩
    by_cases c : r = id
    · subst c; rw [Rho.upd_blk_self]; intro x; simp at x; omega
    · rw [hblk id c]; exact h3 id (((hpd id).1 hp).resolve_right (fun x => c x.symm))
  · rw [hblk i (hlr i hi), hblk j (hlr j hj)]; exact h.inj i j hi hj hne
  · have := h.fresh j hj
    have hne : r ≠ j := fun e => by subst e; omega
    exact ⟨by simp [Rho.upd, hne, this.1], this.2⟩
  · rw [World.size_alloc]
    unfold Rho.upd at e
    by_cases c : r = j
    · rw [if_pos c] at e; simp at e; omega
    · rw [if_neg c] at e; have := h.below j B base C e; omega
  · by_cases c : j = r
    · subst c
      refine ⟨w.heap.size, 0, 0, Rho.upd_self _ _ _, by show (w.heap.push _)[w.heap.size]? = _; simp, fun i hi e => ?_, hd, fun i hi e => ?_⟩
      · rw [hblk i (hlr i hi)] at e
        have := blk_lt h e; omega
      · by_cases ci : i = j
        · exact ci
        · rw [hblk i (fun x => ci x.symm)] at e
          have := blk_lt h e; omega
    · have hj' : pdA j := ((hpd j).1 hj).resolve_right c
      obtain ⟨B, base, C, e, hm, hno, hnl, hu⟩ := h.pend j hj'
      have hB := h.below j B base C e
      refine ⟨B, base, C, hle _ _ e, by rw [heap_alloc_lt w _ hB]; exact hm, fun i hi => by rw [hblk i (hlr i hi)]; exact hno i hi, hnl, fun i hi ei => ?_⟩
      by_cases ci : i = r
      · subst ci
        rw [Rho.upd_blk_self] at ei
        simp at ei; omega
      · rw [hblk i (fun x => ci x.symm)] at ei
        exact hu i (((hpd i).1 hi).resolve_right ci) ei
theorem HR.endLate (h : HR X pdB ρ H w) (hlt : r.num < H.nx.num) (hr : pdB r) (hA : ∀ id, pdA id → pdB id ∧ id ≠ r) : HR X pdA ρ (H.set r (.map [])) w := by
  obtain ⟨B, base, C, e, hm, hno, hnl, hu⟩ := h.pend r hr
  have hg := Hp.get_set H r
  have hbr : ρ.blk r = some B := by simp [Rho.blk, e]
  have hlive : ∀ j, Live (H.set r (.map [])) j → j = r ∨ Live H j := by
    intro j hj
    by_cases c : r = j
    · exact .inl c.symm
    · unfold Live at *; rw [hg, if_neg c] at hj; exact .inr hj
  refine ⟨⟨fun j => ?_, fun i j hi hj hne => ?_, fun j hj => ?_, h.below, fun j hj => ?_⟩, fun b o eb => ?fx⟩
  case fx =>
    obtain ⟨h1, h2, h3⟩ := h.fixd b o eb
    refine ⟨h1, fun id hl => ?_, fun id hp => h3 id (hA id hp).1⟩
    rcases hlive id hl with rfl | hl'
    · exact h3 _ hr
    · exact h2 id hl'
  · rw [hg]
    by_cases c : r = j
    · subst c; rw [if_pos rfl]; exact ⟨B, base, C, #[], 0, e, hm, .nil, .nil⟩
    · rw [if_neg c]; exact h.obj j
  · rcases hlive i hi with rfl | hi'
    · rcases hlive j hj with rfl | hj'
      · exact absurd rfl hne
      · rw [hbr]; exact fun x => hno j hj' x.symm
    · rcases hlive j hj with rfl | hj'
      · rw [hbr]; exact fun x => hno i hi' x
      · exact h.inj i j hi' hj' hne
  · rw [Hp.nx_set] at hj
    refine ⟨(h.fresh j hj).1, fun hl => ?_⟩
    rcases hlive j hl with rfl | hl'
    · omega
    · exact (h.fresh j hj).2 hl'
  · obtain ⟨hjB, hjr⟩ := hA j hj
    obtain ⟨B', base', C', e', hm', hno', hnl', hu'⟩ := h.pend j hjB
    refine ⟨B', base', C', e', hm', fun i hi => ?_, fun hl => ?_, fun i hi ei => hu' i (hA i hi).1 ei⟩
    · rcases hlive i hi with rfl | hi'
      · exact fun x => hjr (hu' i hr x).symm
      · exact hno' i hi'
    · rcases hlive j hl with rfl | hl'
      · exact hjr rfl
      · exact hnl' hl'
end
section
variable {P : Program} {X : Cx} {E : Env} {call : CallF} {names : List String} {oa : Array Go.Oper} {nt : Nat} {late : Bool} {m : List Op} {t0 tn : T3 AV} {H0 Hn : Hp}
variable {pd : P5 → Prop} {ρ0 : Rho} {h0 : Hp} {w0 : World} {a0 : Go.Act} {r : P5} {mk : Option Nat} {Q : Go.Exit → Go.Act → World → Prop}
def pdOf (pd : P5 → Prop) (r : P5) (mk : Option Nat) (listed : Array Bool) : P5 → Prop := fun id => pd id ∨ ∃ i, mk = some i ∧ Ls listed i ∧ id = r
theorem pdOf_set {listed : Array Bool} {i : Nat} (hi : i < listed.size) (h : mk ≠ some i) : pdOf pd r mk (listed.setIfInBounds i true) = pdOf pd r mk listed := by
  funext id
  apply propext
  unfold pdOf
  constructor
  · rintro (h1 | ⟨k, hk, hl, rfl⟩)
    · exact .inl h1
    · rcases (Ls_set hi k).1 hl with rfl | hl
      · exact absurd hk h
      · exact .inr ⟨k, hk, hl, rfl⟩
  · rintro (h1 | ⟨k, hk, hl, rfl⟩)
    · exact .inl h1
    · exact .inr ⟨k, hk, (Ls_set hi k).2 (.inr hl), rfl⟩
theorem order_step (hok : EnvOk P X E) (hcall : CallOk P X call) (hnm : ∀ i m, names.findIdx? (· == m) = some i → X.nm i = m)
    (F : RegFacts P names nt oa late E call m t0 H0 tn Hn) (hnt : nt ≤ a0.tmps.size) (h511 : nt ≤ 511) (hG : GR P ρ0)
    (hmk : ∀ i o, oa[i]? = some o → ((late && isMk o) = true ↔ mk = some i)) (hmg : ∀ i o, mk = some i → oa[i]? = some o → o.guard = none)
    (hlt : mk ≠ none → get3 t0 lateP = .map r ∧ r.num = h0.nx.num)
    {listed : Array Bool} {a : Go.Act} {w : World} {ρ : Rho} {t : T3 AV} {mm : Nat} (I : OI X (pdOf pd r mk) ρ0 h0 w0 oa m E call t0 H0 a0 r mk listed a w ρ t mm)
    {i : Nat} (hi : i ∈ Go.Region.ready .any oa listed) {K : Go.Act → World → Prop}
    (hK : ∀ a' w' ρ' t' mm', OI X (pdOf pd r mk) ρ0 h0 w0 oa m E call t0 H0 a0 r mk (listed.setIfInBounds i true) a' w' ρ' t' mm' → K a' w') : Go.wpOp P oa Q i K a w := by
  obtain ⟨hun, o, ho, hall⟩ := Go.mem_ready.1 hi
  have hsz : i < listed.size := by
    rcases Nat.lt_or_ge i listed.size with h | h
    · exact h
    · simp [Array.getElem?_eq_none h] at hun
  have hnl : ¬ Ls listed i := by
    unfold Ls
    simp [hsz] at hun ⊢
    exact hun
  obtain ⟨op, hm, hc⟩ := F.made i o ho
  obtain ⟨v, hv, _⟩ := runs_step F.run i op hm
  obtain ⟨hd, hdn, base, hbase, hguard⟩ := cOper_spec hc
  have hbef : ∀ k, Bef oa k i → Ls listed k := by
    intro k hk
    cases hk with
    | edge ho' he hb => rw [ho] at ho'; cases ho'; exact hall _ he hb
    | far ho' he hb hk => rw [ho] at ho'; cases ho'; exact I.closed _ (hall _ he hb) _ hk
  have haft : ∀ k, Bef oa i k → ¬ Ls listed k := fun k hk hl => hnl (I.closed k hl i hk)
  have himl : i < m.length := (List.getElem?_eq_some_iff.1 hm).1
  have uniq : ∀ (k k' : Nat) (x y : Op) (p : P3), m[k]? = some x → m[k']? = some y → x.dst = some p → y.dst = some p → k = k' := by
    intro k k' x y p hx hy hpx hpy
    rcases Nat.decEq k k' with h | h
    · exact absurd hpy (F.order.dst k k' x y p h hx hy hpx)
    · exact h
  have hagree : Agree t (runs E call m t0 H0 i).1 op.rd := by
    intro p hp
    by_cases hw : ∃ (k : Nat) (x : Op), m[k]? = some x ∧ x.dst = some p
    · obtain ⟨k, x, hx, hpx⟩ := hw
      have hkl : k < m.length := (List.getElem?_eq_some_iff.1 hx).1
      have late1 : ¬ Ls listed k → i ≤ k → get3 t p = get3 (runs E call m t0 H0 i).1 p := by
        intro hk hik
        rw [I.old p (fun k' y hy hpy => by rw [uniq k' k y x p hy hx hpy hpx]; exact hk)]
        rw [text_old F.run i (by omega) (fun k' y hk' hy hpy => by have := uniq k' k y x p hy hx hpy hpx; omega)]
      by_cases hki : k = i
      · subst hki; exact late1 hnl (Nat.le_refl _)
      · rcases F.order.reads k i x op p hki hx hm hpx hp with hb | hb
        · obtain ⟨u, hu, _⟩ := runs_step F.run k x hx
          rw [I.new k x u _ hx p hpx (hbef k hb) hu]
          rw [text_new F.run hx hpx hu (fun k' y hne hy hpy => hne (uniq k' k y x p hy hx hpy hpx)) i (Bef.lt F.edges hb) (by omega)]
        · exact late1 (haft k hb) (Nat.le_of_lt (Bef.lt F.edges hb))
    · have hno : ∀ (k : Nat) (x : Op), m[k]? = some x → x.dst ≠ some p := fun k x hx hpx => hw ⟨k, x, hx, hpx⟩
      rw [I.old p (fun k y hy hpy => absurd hpy (hno k y hy)), text_old F.run i (by omega) (fun k y _ hy => hno k y hy)]
  have next : ∀ (ρ' : Rho) (w' : World) (v' : Value) (mm' : Nat), Stp X (pdOf pd r mk (listed.setIfInBounds i true)) ρ0 h0 w0 ρ' (runs E call m t0 H0 mm').2 w' → ρ.le ρ' → VR X ρ' v v' → mm' ≤ m.length →
      (∀ k x, m[k]? = some x → x.loud = true → (Ls (listed.setIfInBounds i true) k ↔ k < mm')) → (∀ k, mk = some k → (¬ Ls (listed.setIfInBounds i true) k → ρ' r = none) ∧ r.num < (runs E call m t0 H0 mm').2.nx.num ∧ ∀ B, ρ'.blk r = some B → w0.heap.size ≤ B) →
      OI X (pdOf pd r mk) ρ0 h0 w0 oa m E call t0 H0 a0 r mk (listed.setIfInBounds i true) (a.put o.dst v') w' ρ' (putO t (o.dst.map P3.ofNat) v) mm' := by
    intro ρ' w' v' mm' hs hle hr hmm' hlo hla
    refine ⟨by simpa using I.size, fun j hj k hk => ?_, hs, put_TR I.tr hle (fun n hn => by rw [I.tms]; exact Nat.lt_of_lt_of_le (hdn n hn) hnt) hr, by rw [put_size, I.tms], by rw [put_defers, I.dfr], hmm', hlo, fun k x u h' hx p hp hl hu => ?_, fun p hp => ?_, hla⟩
    · rcases (Ls_set hsz j).1 hj with rfl | hj
      · exact (Ls_set hsz k).2 (.inr (hbef k hk))
      · exact (Ls_set hsz k).2 (.inr (I.closed j hj k hk))
    · rcases (Ls_set hsz k).1 hl with rfl | hl
      · rw [hm] at hx; cases hx
        rw [hv] at hu
        simp only [Option.some.injEq, Prod.mk.injEq] at hu
        rw [← hd, hp, get3_putO_self, hu.1]
      · have hki : k ≠ i := fun e => hnl (e ▸ hl)
        rw [get3_putO_ne _ _ _ (by rw [← hd]; exact F.order.dst k i x op p hki hx hm hp)]
        exact I.new k x u h' hx p hp hl hu
    · rw [get3_putO_ne _ _ _ (by rw [← hd]; exact fun e => hp i op hm e ((Ls_set hsz i).2 (.inl rfl)))]
      exact I.old p (fun k x hx hpx hl => hp k x hx hpx ((Ls_set hsz k).2 (.inr hl)))
  by_cases hmki : mk = some i
  · -- the map that is told of late
    have hL := (hmk i o ho).2 hmki
    obtain ⟨hl1, hl2⟩ := hlt (by rw [hmki]; simp)
    have hg := hmg i o hmki ho
    have hlq : lateQ late o ((cOp P names o).getD (.q (.bad 0))) = .q (.mv (.t lateP)) := by unfold lateQ; rw [hL]
    rw [hlq] at hbase
    have hbo := (cBase_spec hbase).2
    have hopb : op = base := by
      have hsb : softB P true base = base := by
        rcases softB_or P true base with h | ⟨_, d, f, as, rfl, _, _⟩
        · exact h
        · have := hbo.1; simp [Op.loud] at this
      rcases hguard with ⟨_, h⟩ | ⟨j, want, n, h, _⟩
      · rw [hsb] at h; exact h
      · rw [hg] at h; cases h
    subst hopb
    have hloud : op.loud = false := hbo.1
    rw [hbo.2.2.2] at hv
    simp only [Ds.Q.ev, Opn.ev, Option.map_some, Option.some.injEq, Prod.mk.injEq] at hv
    have htl : get3 (runs E call m t0 H0 i).1 lateP = .map r := by
      rw [text_old F.run i (by omega) (fun k x hk hx hpx => ?_), hl1]
      have hko : k < oa.size := by rw [← F.len]; exact (List.getElem?_eq_some_iff.1 hx).1
      obtain ⟨x', hx', hc'⟩ := F.made k oa[k] (by simp [hko])
      rw [hx] at hx'; cases hx'
      obtain ⟨hd', hdn', _⟩ := cOper_spec hc'
      rw [hd'] at hpx
      simp only [Option.map_eq_some_iff] at hpx
      obtain ⟨n, hn, hnl⟩ := hpx
      have hlt' : n < 511 := Nat.lt_of_lt_of_le (hdn' n hn) h511
      have := congrArg P3.num hnl
      rw [lateP_num, P3.num_ofNat (Nat.lt_trans hlt' (by decide))] at this
      exact absurd this (Nat.ne_of_lt hlt')
    rw [htl] at hv
    obtain ⟨rfl, -⟩ := hv
    obtain ⟨hρr, hrn, hrB⟩ := I.late i hmki
    have hρr := hρr hnl
    have hw : Go.Region.wanted o (Go.yielded oa a.tmps) = true := by simp [Go.Region.wanted, hg]
    have hop : ∃ ty, o.op = .makeMap ty none := by
      have : isMk o = true := by
        cases late with
        | false => simp at hL
        | true => simpa using hL
      unfold isMk at this
      split at this
      · rename_i ty h; exact ⟨ty, h⟩
      · cases this
    obtain ⟨ty, hop⟩ := hop
    unfold Go.wpOp
    simp only [ho]
    rw [if_pos hw]
    refine .inl ?_
    unfold Go.Oper.wp
    have hrun : (Go.execOp a.eval o).run P w = .ok (.value (.map (some w.heap.size))) (w.alloc (.map #[] 0)) := by
      simp [Go.execOp, hop, Go.Instr.makeMap]
    rw [hrun, Go.Oper.upon_value]
    refine hK _ _ _ _ _ (next (ρ.upd r (w.heap.size, 0, 0)) _ _ mm ?_ (Rho.upd_le hρr) (.map r _ 0 0 (Rho.upd_self _ _ _)) I.mmle (fun k x hx hxl => ?_) (fun k hk => ?_))
    · have hpd : ∀ id, pdOf pd r mk (listed.setIfInBounds i true) id ↔ pdOf pd r mk listed id ∨ id = r := by
        intro id
        unfold pdOf
        constructor
        · rintro (h1 | ⟨k, hk, hl, rfl⟩)
          · exact .inl (.inl h1)
          · exact .inr rfl
        · rintro ((h1 | ⟨k, hk, hl, rfl⟩) | rfl)
          · exact .inl h1
          · exact .inr ⟨k, hk, (Ls_set hsz k).2 (.inr hl), rfl⟩
          · exact .inr ⟨i, hmki, (Ls_set hsz i).2 (.inl rfl), rfl⟩
      have hhr := HR.mkLate I.stp.hr hρr hrn hpd
      have hlr : ∀ j, Live (runs E call m t0 H0 mm).2 j → r ≠ j := fun j hj e => I.stp.hr.dead hρr (e ▸ hj)
      refine ⟨Rho.le_trans I.stp.le (Rho.upd_le hρr), hhr, ⟨fun b hb hn => ?_, ?_, I.stp.fr.os, I.stp.fr.output, I.stp.fr.tape, fun id B hl e => ?_, I.stp.fr.nx, fun id hid => ?_⟩⟩
      · rw [heap_alloc_lt w _ (Nat.lt_of_lt_of_le hb I.stp.fr.size)]
        exact I.stp.fr.keeps b hb hn
      · rw [World.size_alloc]; have := I.stp.fr.size; omega
      · rw [Rho.upd_blk_ne (hlr id hl)] at e
        exact I.stp.fr.live id B hl e
      · have hne : r ≠ id := fun e => by subst e; omega
        show (ρ.upd r (w.heap.size, 0, 0)) id = ρ0 id
        simp only [Rho.upd, if_neg hne]
        exact I.stp.fr.old id hid
    · have hki : k ≠ i := fun e => by subst e; rw [hm] at hx; cases hx; rw [hloud] at hxl; cases hxl
      rw [Ls_set hsz k]
      constructor
      · rintro (h | h)
        · exact absurd h hki
        · exact (I.loud k x hx hxl).1 h
      · exact fun h => .inr ((I.loud k x hx hxl).2 h)
    · rw [hmki] at hk; cases hk
      exact ⟨fun h => absurd ((Ls_set hsz i).2 (.inl rfl)) h, hrn, fun B hB => by rw [Rho.upd_blk_self] at hB; cases hB; exact I.stp.fr.size⟩
  · have hlq : lateQ late o ((cOp P names o).getD (.q (.bad 0))) = (cOp P names o).getD (.q (.bad 0)) := by
      unfold lateQ
      cases hL : (late && isMk o) with
      | true => exact absurd ((hmk i o ho).1 hL) hmki
      | false => rfl
    have hgo : ∃ mm', Op.val E call op t (runs E call m t0 H0 mm).2 = some (v, (runs E call m t0 H0 mm').2) ∧ mm' ≤ m.length ∧ (∀ k x, m[k]? = some x → x.loud = true → (Ls (listed.setIfInBounds i true) k ↔ k < mm')) := by
      cases hl : op.loud with
      | true =>
        have hsame : (runs E call m t0 H0 mm).2 = (runs E call m t0 H0 i).2 := runs_length F.run I.mmle (by omega) (fun j x hx hxl => by
          rw [← I.loud j x hx hxl]
          constructor
          · intro h
            rcases Nat.lt_trichotomy j i with h1 | h1 | h1
            · exact h1
            · subst h1; exact absurd h hnl
            · exact absurd h (haft j (F.order.loud i j op x h1 hm hx hl hxl))
          · intro h
            exact hbef j (F.order.loud j i x op h hx hm hxl hl))
        refine ⟨i + 1, ?_, by omega, fun k x hx hxl => ?_⟩
        · rw [hsame, Op.val_agree hagree]; exact hv
        · rw [Ls_set hsz k]
          constructor
          · rintro (rfl | h)
            · omega
            · rcases Nat.lt_trichotomy k i with h1 | h1 | h1
              · omega
              · omega
              · exact absurd h (haft k (F.order.loud i k op x h1 hm hx hl hxl))
          · intro h
            by_cases hki : k = i
            · exact .inl hki
            · exact .inr (hbef k (F.order.loud k i x op (by omega) hx hm hxl hl))
      | false =>
        refine ⟨mm, ?_, I.mmle, fun k x hx hxl => ?_⟩
        · rw [Op.val_agree hagree]
          exact quiet_move F ho hm hc hl hv I.mmle (fun j x hx hxl => ⟨fun hb => (I.loud j x hx hxl).1 (hbef j hb), fun hb h => haft j hb ((I.loud j x hx hxl).2 h)⟩)
        · have hki : k ≠ i := fun e => by subst e; rw [hm] at hx; cases hx; rw [hl] at hxl; cases hxl
          rw [Ls_set hsz k]
          constructor
          · rintro (h | h)
            · exact absurd h hki
            · exact (I.loud k x hx hxl).1 h
          · exact fun h => .inr ((I.loud k x hx hxl).2 h)
    obtain ⟨mm', hv', hmm', hlo⟩ := hgo
    refine op_sound hok hcall I.stp.hr (hG.le I.stp.le) I.tr hnm (by rw [I.tms]; exact hnt) ho hlq hc hv' (fun ρ' w' v' hs hr => ?_)
    refine hK _ _ _ _ _ (next ρ' w' v' mm' ?_ hs.le hr hmm' hlo (fun k hk => ?_))
    · rw [pdOf_set hsz hmki]
      exact I.stp.trans hs
    · obtain ⟨h1, h2, h3⟩ := I.late k hk
      have hki : k ≠ i := fun e => hmki (e ▸ hk)
      refine ⟨fun hn => ?_, Nat.lt_of_lt_of_le h2 hs.fr.nx, fun B hB => h3 B (by unfold Rho.blk at hB ⊢; rwa [hs.fr.old r h2] at hB)⟩
      rw [hs.fr.old r h2]
      exact h1 (fun h => hn ((Ls_set hsz k).2 (.inr h)))
end
end Ds
namespace Ds
open Go (IntKind Value World Addr MapEntry Program Sem Result Operand TypeId)
theorem count_set_true {l : List Bool} {i : Nat} (h : l[i]? = some false) : (l.set i true).count false + 1 = l.count false := by
  induction l generalizing i with
  | nil => simp at h
  | cons b l ih =>
    cases i with
    | zero => simp only [List.getElem?_cons_zero, Option.some.injEq] at h; subst h; simp
    | succ i =>
      have := ih (i := i) (by simpa using h)
      simp only [List.set_cons_succ, List.count_cons]
      omega
section
variable {P : Program} {X : Cx} {E : Env} {call : CallF} {names : List String} {oa : Array Go.Oper} {nt : Nat} {late : Bool} {m : List Op} {t0 tn : T3 AV} {H0 Hn : Hp}
variable {pd : P5 → Prop} {ρ0 : Rho} {h0 : Hp} {w0 : World} {a0 : Go.Act} {r : P5} {mk : Option Nat} {Q : Go.Exit → Go.Act → World → Prop}
theorem all_listed (he : edgesOk oa = true) {listed : Array Bool} (hs : listed.size = oa.size) (hr : Go.Region.ready .any oa listed = []) : ∀ i, i < oa.size → Ls listed i := by
  intro i
  induction i using Nat.strongRecOn with
  | _ i ih =>
    intro hi
    refine Classical.byContradiction fun hn => ?_
    have : i ∈ Go.Region.ready .any oa listed := by
      rw [Go.mem_ready]
      refine ⟨?_, oa[i], by simp [hi], fun e he' hb => ih e.on (edgesOk_spec he (by simp [hi]) he' hb) ?_⟩
      · unfold Ls at hn
        have : i < listed.size := by omega
        simp [this] at hn ⊢
        exact hn
      · have := edgesOk_spec he (j := i) (o := oa[i]) (by simp [hi]) he' hb
        omega
    rw [hr] at this
    cases this
theorem order_end (F : RegFacts P names nt oa late E call m t0 H0 tn Hn) {listed : Array Bool} {a : Go.Act} {w : World} {ρ : Rho} {t : T3 AV} {mm : Nat} (I : OI X (pdOf pd r mk) ρ0 h0 w0 oa m E call t0 H0 a0 r mk listed a w ρ t mm)
    (hall : ∀ i, i < oa.size → Ls listed i) : TR X ρ tn a.tmps ∧ (runs E call m t0 H0 mm).2 = Hn := by
  have hend := runs_end F.run
  have ht : ∀ p, get3 t p = get3 tn p := by
    intro p
    have htn : tn = (runs E call m t0 H0 m.length).1 := by rw [hend]
    by_cases hw : ∃ (k : Nat) (x : Op), m[k]? = some x ∧ x.dst = some p
    · obtain ⟨k, x, hx, hpx⟩ := hw
      have hkl : k < m.length := (List.getElem?_eq_some_iff.1 hx).1
      obtain ⟨u, hu, _⟩ := runs_step F.run k x hx
      rw [I.new k x u _ hx p hpx (hall k (by rw [← F.len]; exact hkl)) hu, htn]
      rw [text_new F.run hx hpx hu (fun k' y hne hy hpy => F.order.dst k' k y x p hne hy hx hpy hpx) m.length hkl (Nat.le_refl _)]
    · have hno : ∀ (k : Nat) (x : Op), m[k]? = some x → x.dst ≠ some p := fun k x hx hpx => hw ⟨k, x, hx, hpx⟩
      rw [I.old p (fun k y hy hpy => absurd hpy (hno k y hy)), htn, text_old F.run m.length (Nat.le_refl _) (fun k y _ hy => hno k y hy)]
  refine ⟨⟨fun i hi => by rw [← ht]; exact I.tr.get i hi, I.tr.size⟩, ?_⟩
  have := runs_length F.run I.mmle (Nat.le_refl m.length) (fun i x hx hxl => by
    have hkl : i < m.length := (List.getElem?_eq_some_iff.1 hx).1
    exact ⟨fun _ => hkl, fun _ => (I.loud i x hx hxl).1 (hall i (by rw [← F.len]; exact hkl))⟩)
  rw [this, hend]
theorem order_all (hok : EnvOk P X E) (hcall : CallOk P X call) (hnm : ∀ i m, names.findIdx? (· == m) = some i → X.nm i = m)
    (F : RegFacts P names nt oa late E call m t0 H0 tn Hn) (hnt : nt ≤ a0.tmps.size) (h511 : nt ≤ 511) (hG : GR P ρ0)
    (hmk : ∀ i o, oa[i]? = some o → ((late && isMk o) = true ↔ mk = some i)) (hmg : ∀ i o, mk = some i → oa[i]? = some o → o.guard = none)
    (hlt : mk ≠ none → get3 t0 lateP = .map r ∧ r.num = h0.nx.num)
    (hQ : ∀ ρ a w t mm listed, OI X (pdOf pd r mk) ρ0 h0 w0 oa m E call t0 H0 a0 r mk listed a w ρ t mm → (∀ i, i < oa.size → Ls listed i) → Q .normal a w) :
    ∀ (fuel : Nat) (listed : Array Bool) (a : Go.Act) (w : World) (ρ : Rho) (t : T3 AV) (mm : Nat), OI X (pdOf pd r mk) ρ0 h0 w0 oa m E call t0 H0 a0 r mk listed a w ρ t mm → listed.toList.count false ≤ fuel → Go.wpAny P .any oa Q fuel listed a w
  | 0, listed, a, w, ρ, t, mm, I, hc => by
    have hall : ∀ i, i < oa.size → Ls listed i := by
      intro i hi
      have hi' : i < listed.size := by rw [I.size]; exact hi
      have h0 : listed.toList.count false = 0 := by omega
      rw [List.count_eq_zero] at h0
      have : listed[i] ∈ listed.toList := by simp
      unfold Ls
      cases hx : listed[i] with
      | false => rw [hx] at this; exact absurd this h0
      | true => simp [hi', hx]
    have hr : Go.Region.ready .any oa listed = [] := by
      rw [List.eq_nil_iff_forall_not_mem]
      intro i hi
      obtain ⟨hun, o, ho, _⟩ := Go.mem_ready.1 hi
      have := hall i (Array.getElem?_eq_some_iff.1 ho).1
      unfold Ls at this
      have hi' : i < listed.size := by rw [I.size]; exact (Array.getElem?_eq_some_iff.1 ho).1
      simp [hi'] at this hun
      rw [this] at hun; cases hun
    exact ⟨hr, hQ ρ a w t mm listed I hall⟩
  | fuel + 1, listed, a, w, ρ, t, mm, I, hc => by
    refine ⟨fun hr => hQ ρ a w t mm listed I (all_listed F.edges I.size hr), fun i hi => ?_⟩
    refine order_step hok hcall hnm F hnt h511 hG hmk hmg hlt I hi (fun a' w' ρ' t' mm' I' => ?_)
    refine order_all hok hcall hnm F hnt h511 hG hmk hmg hlt hQ fuel _ a' w' ρ' t' mm' I' ?_
    obtain ⟨hun, o, ho, _⟩ := Go.mem_ready.1 hi
    have hi' : i < listed.size := by rw [I.size]; exact (Array.getElem?_eq_some_iff.1 ho).1
    have hf : listed.toList[i]? = some false := by simp [hi'] at hun ⊢; exact hun
    have := count_set_true hf
    rw [Array.toList_setIfInBounds]
    omega
theorem draw_sound (hmix : P.follows .mixedOrders = true) (hok : EnvOk P X E) (hcall : CallOk P X call) (hnm : ∀ i m, names.findIdx? (· == m) = some i → X.nm i = m)
    (F : RegFacts P names nt oa false E call m t0 H0 tn Hn) (hnt : nt ≤ a0.tmps.size) (h511 : nt ≤ 511) (hG : GR P ρ0) (hH : HR X pd ρ0 H0 w0) (hT : TR X ρ0 t0 a0.tmps)
    (hQ : ∀ ρ a w, Stp X pd ρ0 H0 w0 ρ Hn w → TR X ρ tn a.tmps → a.defers = a0.defers → a.tmps.size = a0.tmps.size → Q .normal a w) {id : Nat} : (Go.Code.region id oa true).wp P Q a0 w0 := by
  refine Go.wp_region_any hmix ?_
  have hpd : ∀ listed, pdOf pd H0.nx none listed = pd := by
    intro listed; funext x; apply propext
    unfold pdOf
    constructor
    · rintro (h | ⟨i, hi, _⟩)
      · exact h
      · cases hi
    · exact .inl
  have hd := HR.drawn hH (w0.drawn + 1)
  have hno : ∀ i, ¬ Ls (Array.replicate oa.size false) i := by
    intro i h
    unfold Ls at h
    by_cases hi : i < oa.size <;> simp [hi] at h
  refine order_all (mk := none) (r := H0.nx) (h0 := H0) (w0 := w0) (ρ0 := ρ0) (pd := pd) (a0 := a0) hok hcall hnm F hnt h511 hG (fun i o _ => by simp) (fun i o h => by cases h) (fun h => absurd rfl h) (fun ρ a w t mm listed I hall => ?_) _ _ _ _ ρ0 t0 0
    ⟨by simp, fun j hj => absurd hj (hno j), ?_, hT, rfl, rfl, Nat.zero_le _, fun i o _ _ => ⟨fun h => absurd h (hno i), fun h => by omega⟩, fun i o v h' _ p _ hl => absurd hl (hno i), fun p _ => rfl, fun i h => by cases h⟩ ?_
  · obtain ⟨h1, h2⟩ := order_end F I hall
    have hs := I.stp
    rw [hpd, h2] at hs
    exact hQ ρ a w hs h1 I.dfr I.tms
  · rw [hpd, runs_zero]; exact hd
  · simp []
theorem HR.reserve (hH : HR X pd ρ0 h0 w0) {h1 : Hp} (hn : h0.new .none = some (r, h1)) : r = h0.nx ∧ h1.nx.num = h0.nx.num + 1 ∧ ρ0 r = none ∧ Stp X pd ρ0 h0 w0 ρ0 h1 w0 := by
  obtain ⟨rfl, hnx, hg⟩ := Hp.new_eq hn
  have hf := hH.fresh h0.nx (Nat.le_refl _)
  have hlive : ∀ j, Live h1 j → Live h0 j := by
    intro j hj
    unfold Live at *
    rw [hg] at hj
    by_cases c : h0.nx = j
    · rw [if_pos c] at hj; exact absurd rfl hj
    · rwa [if_neg c] at hj
  refine ⟨rfl, hnx, hf.1, Stp.of hH (Rho.le_refl _) ⟨fun j => ?_, fun i j hi hj => hH.inj i j (hlive i hi) (hlive j hj), fun j hj => ⟨(hH.fresh j (by omega)).1, fun hl => (hH.fresh j (by omega)).2 (hlive j hl)⟩, hH.below, fun j hj => ?_⟩
    ⟨fun _ _ _ => rfl, Nat.le_refl _, rfl, rfl, rfl, fun j B hl e => .inr ⟨j, hlive j hl, e⟩, by omega, fun _ _ => rfl⟩⟩
  · rw [hg]
    by_cases c : h0.nx = j
    · rw [if_pos c]; trivial
    · rw [if_neg c]; exact hH.obj j
  · obtain ⟨B', base', C', e, hm, hno, hnl, hu⟩ := hH.pend j hj
    exact ⟨B', base', C', e, hm, fun i hi => hno i (hlive i hi), fun x => hnl (hlive j x), hu⟩
theorem late_sound (hmix : P.follows .mixedOrders = true) (hok : EnvOk P X E) (hcall : CallOk P X call) (hnm : ∀ i m, names.findIdx? (· == m) = some i → X.nm i = m) {h1 : Hp} (hn : h0.new .none = some (r, h1)) {t : T3 AV}
    (F : RegFacts P names nt oa true E call m (set3 t lateP (.map r)) h1 tn Hn) (hlate : lateOk oa = true) (hnt : nt ≤ a0.tmps.size) (h511 : nt ≤ 511) (hG : GR P ρ0) (hH : HR X pd ρ0 h0 w0) (hT : TR X ρ0 t a0.tmps)
    (hQ : ∀ ρ a w, Stp X pd ρ0 h0 w0 ρ (Hn.set r (.map [])) w → TR X ρ tn a.tmps → a.defers = a0.defers → a.tmps.size = a0.tmps.size → Q .normal a w) {id : Nat} : (Go.Code.region id oa true).wp P Q a0 w0 := by
  refine Go.wp_region_any hmix ?_
  obtain ⟨hr, hnx, hρr, hres⟩ := HR.reserve hH hn
  unfold lateOk at hlate
  simp only [Bool.and_eq_true, nbeq, List.all_eq_true, Bool.or_eq_true, Bool.not_eq_true'] at hlate
  obtain ⟨hone, hgu⟩ := hlate
  have hmk : ∃ i0, ∀ (i : Nat) o, oa[i]? = some o → ((true && isMk o) = true ↔ some i0 = some i) := by
    have key : ∀ (l : List Go.Oper), (l.filter isMk).length = 1 → ∃ i0 : Nat, i0 < l.length ∧ ∀ (i : Nat) o, l[i]? = some o → (isMk o = true ↔ i0 = i) := by
      intro l
      induction l with
      | nil => intro h; simp at h
      | cons x l ih =>
        intro h
        cases hx : isMk x with
        | true =>
          simp only [List.filter_cons, hx, if_true, List.length_cons] at h
          have hnil : l.filter isMk = [] := List.eq_nil_of_length_eq_zero (by omega)
          refine ⟨0, by simp, fun i o hi => ?_⟩
          cases i with
          | zero => simp only [List.getElem?_cons_zero, Option.some.injEq] at hi; subst hi; simp [hx]
          | succ i =>
            simp only [List.getElem?_cons_succ] at hi
            have := List.filter_eq_nil_iff.1 hnil o (List.mem_of_getElem? hi)
            simp [this]
        | false =>
          simp only [List.filter_cons, hx, Bool.false_eq_true, if_false] at h
          obtain ⟨i0, h0, h1⟩ := ih h
          refine ⟨i0 + 1, by simp [h0], fun i o hi => ?_⟩
          cases i with
          | zero => simp only [List.getElem?_cons_zero, Option.some.injEq] at hi; subst hi; simp [hx]
          | succ i =>
            simp only [List.getElem?_cons_succ] at hi
            rw [h1 i o hi]; omega
    obtain ⟨i0, _, h1⟩ := key oa.toList hone
    exact ⟨i0, fun i o hi => by rw [Bool.true_and, Option.some.injEq]; exact h1 i o (by rw [Array.getElem?_toList]; exact hi)⟩
  obtain ⟨i0, hmk⟩ := hmk
  have hi0 : i0 < oa.size := by
    have hp : 0 < (oa.toList.filter isMk).length := by omega
    obtain ⟨o, ho⟩ := List.exists_mem_of_length_pos hp
    rw [List.mem_filter] at ho
    obtain ⟨k, hk⟩ := List.mem_iff_getElem?.1 ho.1
    rw [Array.getElem?_toList] at hk
    have := (hmk k o hk).1 (by rw [Bool.true_and]; exact ho.2)
    cases this
    exact (Array.getElem?_eq_some_iff.1 hk).1
  have hd := HR.drawn hres.hr (w0.drawn + 1)
  have hno : ∀ i, ¬ Ls (Array.replicate oa.size false) i := by
    intro i h
    unfold Ls at h
    by_cases hi : i < oa.size <;> simp [hi] at h
  have hpd0 : pdOf pd r (some i0) (Array.replicate oa.size false) = pd := by
    funext x; apply propext
    unfold pdOf
    constructor
    · rintro (h | ⟨i, hi, hl, _⟩)
      · exact h
      · exact absurd hl (hno i)
    · exact .inl
  refine order_all (mk := some i0) (r := r) (h0 := h0) (w0 := w0) (ρ0 := ρ0) (pd := pd) (a0 := a0) hok hcall hnm F hnt h511 hG hmk (fun i o h ho => ?_) (fun _ => ⟨by rw [get3_set3, if_pos rfl], by rw [hr]⟩) (fun ρ a w t' mm listed I hall => ?_) _ _ _ _ ρ0 (set3 t lateP (.map r)) 0
    ⟨by simp, fun j hj => absurd hj (hno j), ?_, hT.setLate _, rfl, rfl, Nat.zero_le _, fun i o _ _ => ⟨fun h => absurd h (hno i), fun h => by omega⟩, fun i o v h' _ p _ hl => absurd hl (hno i), fun p _ => rfl,
      fun i h => ⟨fun _ => hρr, by rw [runs_zero, hnx, hr]; omega, fun B hB => by unfold Rho.blk at hB; rw [hρr] at hB; cases hB⟩⟩ ?_
  · have hg := hgu o (by rw [← Array.getElem?_toList] at ho; exact List.mem_of_getElem? ho)
    have := (hmk i o ho).2 h
    rw [Bool.true_and] at this
    rw [this] at hg
    simpa using hg
  · obtain ⟨e1, e2⟩ := order_end F I hall
    obtain ⟨_, hrn, hrB⟩ := I.late i0 rfl
    have hs := I.stp
    rw [e2] at hs hrn
    have hpr : pdOf pd r (some i0) listed r := .inr ⟨i0, rfl, hall i0 hi0, rfl⟩
    have hend := HR.endLate (pdA := pd) hs.hr hrn hpr (fun j hj => ⟨.inl hj, fun e => by
      subst e
      obtain ⟨B, base, C, e, _⟩ := hH.pend j hj
      rw [hρr] at e; cases e⟩)
    refine hQ ρ a w ⟨hs.le, hend, ⟨hs.fr.keeps, hs.fr.size, hs.fr.os, hs.fr.output, hs.fr.tape, fun j B hl e => ?_, by rw [Hp.nx_set]; exact hs.fr.nx, hs.fr.old⟩⟩ e1 I.dfr I.tms
    by_cases c : r = j
    · subst c; exact .inl (hrB B e)
    · refine hs.fr.live j B ?_ e
      unfold Live at hl ⊢
      rwa [Hp.get_set, if_neg c] at hl
  · rw [hpd0, runs_zero]; exact hres.trans hd
  · simp []
end
end Ds
namespace Ds
open Go (IntKind Value World Addr MapEntry Program Sem Result Operand TypeId)
theorem wp_loopN {P : Program} {Q : Go.Exit → Go.Act → World → Prop} {c : Go.Code} (J : Nat → Go.Act → World → Prop)
    (round : ∀ n a w, J n a w → c.wp P (Go.Exit.then (fun a' w' => ∃ k, k < n ∧ J k a' w') Q) a w) {n : Nat} {a : Go.Act} {w : World} (h0 : J n a w) : (Go.Code.loop c).wp P Q a w := by
  intro b k cs
  have key : ∀ n a w, J n a w → ∃ e a' w', Q e a' w' ∧ Go.Arrives P (Go.lone (b.at a (.code c :: .inLoop c :: k)) cs w) b k cs e a' w' := by
    intro n
    induction n using Nat.strongRecOn with
    | _ n ih =>
      intro a w hI
      obtain ⟨e, a₁, w₁, hq, harr⟩ := round n a w hI b (.inLoop c :: k) cs
      cases e with
      | normal =>
        obtain ⟨j, hj, hI₁⟩ := hq
        obtain ⟨e₂, a₂, w₂, hq₂, harr₂⟩ := ih j hj a₁ w₁ hI₁
        exact ⟨e₂, a₂, w₂, hq₂, .of_steps (Go.Steps.trans harr (.one Go.step_inLoop)) harr₂⟩
      | exit id => exact ⟨_, a₁, w₁, hq, .pass (x := .inLoop c) rfl (fun _ _ => .inl (by simp)) harr⟩
      | goto l => exact ⟨_, a₁, w₁, hq, .pass (x := .inLoop c) rfl (fun _ _ => .inl (by simp)) harr⟩
      | ret => exact ⟨_, a₁, w₁, hq, .pass (x := .inLoop c) rfl (fun _ _ => .inl (by simp)) harr⟩
      | panic ch => exact ⟨_, a₁, w₁, hq, .pass (x := .inLoop c) rfl (fun _ _ => .inl (by simp)) harr⟩
      | outgrown => exact ⟨_, a₁, w₁, hq, .pass (x := .inLoop c) rfl (fun _ _ => .inl (by simp)) harr⟩
  obtain ⟨e, a', w', hq, harr⟩ := key n a w h0
  exact ⟨e, a', w', hq, .of_steps (.one Go.step_loop) harr⟩
def Post (X : Cx) (pd : P5 → Prop) (ρ : Rho) (H : Hp) (w : World) (a : Go.Act) (r : Rc) (e : Go.Exit) (a' : Go.Act) (w' : World) : Prop :=
  a'.defers = a.defers ∧ a'.tmps.size = a.tmps.size ∧ ∃ ρ' t' H', Stp X pd ρ H w ρ' H' w' ∧ TR X ρ' t' a'.tmps ∧
    ((r = .normal t' H' ∧ e = .normal) ∨ (∃ id, r = .exit id t' H' ∧ e = .exit id) ∨ (r = .ret t' H' ∧ e = .ret))
theorem Post.trans {X : Cx} {pd : P5 → Prop} {ρ ρ1 : Rho} {H H1 : Hp} {w w1 : World} {a a1 : Go.Act} {r : Rc} {e : Go.Exit} {a' : Go.Act} {w' : World} (hs : Stp X pd ρ H w ρ1 H1 w1) (hd : a1.defers = a.defers) (hz : a1.tmps.size = a.tmps.size)
    (h : Post X pd ρ1 H1 w1 a1 r e a' w') : Post X pd ρ H w a r e a' w' := by
  obtain ⟨h1, h2, ρ', t', H', h3, h4⟩ := h
  exact ⟨h1.trans hd, h2.trans hz, ρ', t', H', hs.trans h3, h4⟩
theorem cRegion_spec {P : Program} {names : List String} {nt : Nat} {oa : Array Go.Oper} {late : Bool} {m : List Op} (h : cRegion P names nt oa true late = some m) :
    m.length = oa.size ∧
    (∀ i o, oa[i]? = some o → ∃ op, m[i]? = some op ∧ cOper P names nt oa true late (cntIf (fun j => ((Go.Region.before oa).getD i 0).testBit j) 0 (m.map Op.loud)) (cntIf (fun j => !(((Go.Region.before oa).getD j 0).testBit i)) 0 (m.map Op.loud)) o = some op) ∧
    edgesOk oa = true ∧ OrderFacts oa m ∧ (late = true → lateOk oa = true) := by
  simp only [cRegion, Go.CheckFast.beforeF_eq] at h
  split at h
  · rename_i l hl
    split at h
    · rename_i hc
      simp only [Option.some.injEq] at h; subst h
      simp only [Bool.and_eq_true, Bool.or_eq_true, Bool.not_eq_true'] at hc
      obtain ⟨h1, h2⟩ := cOpers_spec hl
      have hlq : (oa.toList.map fun o => !quietOp P names late o) = l.map Op.loud := by
        apply List.ext_getElem?
        intro i
        simp only [List.getElem?_map]
        by_cases hi : i < oa.size
        · have ho : oa.toList[i]? = some oa[i] := by simp [hi]
          obtain ⟨op, h3, h4⟩ := h2 i _ ho
          rw [ho, h3]
          simp only [Option.map_some]
          rw [cOper_loud h4]
        · rw [List.getElem?_eq_none (by simpa using Nat.le_of_not_lt hi), List.getElem?_eq_none (by rw [h1]; simpa using Nat.le_of_not_lt hi)]
          rfl
      refine ⟨by rw [h1]; simp, fun i o ho => ?_, hc.1.1, orderFacts hc.1.2, fun e => ?_⟩
      · obtain ⟨op, h3, h4⟩ := h2 i o (by rw [Array.getElem?_toList]; exact ho)
        refine ⟨op, h3, ?_⟩
        rw [Nat.zero_add] at h4
        rw [← hlq]
        exact h4
      · rcases hc.2 with h | h
        · rw [e] at h; cases h
        · exact h
    · cases h
  · cases h
section
variable {P : Program} {X : Cx} {E : Env} {call : CallF} {names : List String} {nt : Nat}
theorem bad_no (w : Nat) (t : T3 AV) (H : Hp) : Code.ev E call (.reg [.q (P3.ofNat 0) (.bad w)]) t H = .no := by
  simp [Code.ev, ops, Op.ev, Ds.Q.ev]
theorem code_sound (hmix : P.follows .mixedOrders = true) (hok : EnvOk P X E) (hcall : CallOk P X call) (hnm : ∀ i m, names.findIdx? (· == m) = some i → X.nm i = m) (h511 : nt ≤ 511) :
    ∀ (c : Go.Code) (cc : Code), cCode P names nt c = some cc → ∀ (pd : P5 → Prop) (ρ : Rho) (H : Hp) (w : World) (t : T3 AV) (a : Go.Act) (r : Rc), HR X pd ρ H w → GR P ρ → TR X ρ t a.tmps → nt ≤ a.tmps.size →
      Code.ev E call cc t H = r → r ≠ .no → c.wp P (Post X pd ρ H w a r) a w := by
  intro c
  induction c with
  | skip =>
    intro cc hc pd ρ H w t a r hH hG hT hnt he hr
    simp only [cCode, Option.some.injEq] at hc; subst hc
    simp only [Code.ev] at he
    exact Go.wp_skip ⟨rfl, rfl, ρ, t, H, Stp.refl hH, hT, .inl ⟨he.symm, rfl⟩⟩
  | label l =>
    intro cc hc pd ρ H w t a r hH hG hT hnt he hr
    simp only [cCode, Option.some.injEq] at hc; subst hc
    simp only [Code.ev] at he
    exact Go.wp_label ⟨rfl, rfl, ρ, t, H, Stp.refl hH, hT, .inl ⟨he.symm, rfl⟩⟩
  | exit id =>
    intro cc hc pd ρ H w t a r hH hG hT hnt he hr
    simp only [cCode, Option.some.injEq] at hc; subst hc
    simp only [Code.ev] at he
    exact Go.wp_exit ⟨rfl, rfl, ρ, t, H, Stp.refl hH, hT, .inr (.inl ⟨id, he.symm, rfl⟩)⟩
  | ret =>
    intro cc hc pd ρ H w t a r hH hG hT hnt he hr
    simp only [cCode, Option.some.injEq] at hc; subst hc
    simp only [Code.ev] at he
    exact Go.wp_ret ⟨rfl, rfl, ρ, t, H, Stp.refl hH, hT, .inr (.inr ⟨he.symm, rfl⟩)⟩
  | goto l =>
    intro cc hc pd ρ H w t a r hH hG hT hnt he hr
    simp only [cCode, Option.some.injEq] at hc; subst hc
    rw [bad_no] at he; exact absurd he.symm hr
  | refuse u =>
    intro cc hc pd ρ H w t a r hH hG hT hnt he hr
    simp only [cCode, Option.some.injEq] at hc; subst hc
    rw [bad_no] at he; exact absurd he.symm hr
  | scope b ih =>
    intro cc hc pd ρ H w t a r hH hG hT hnt he hr
    simp only [cCode, Option.some.injEq] at hc; subst hc
    rw [bad_no] at he; exact absurd he.symm hr
  | rangeFunc f ps as b ih1 ih2 =>
    intro cc hc pd ρ H w t a r hH hG hT hnt he hr
    simp only [cCode, Option.some.injEq] at hc; subst hc
    rw [bad_no] at he; exact absurd he.symm hr
  | seq x y ihx ihy =>
    intro cc hc pd ρ H w t a r hH hG hT hnt he hr
    simp only [cCode] at hc
    split at hc
    · rename_i cx cy hx hy
      simp only [Option.some.injEq] at hc; subst hc
      simp only [Code.ev] at he
      refine Go.wp_seq ?_
      cases hr1 : Code.ev E call cx t H with
      | no => rw [hr1] at he; exact absurd he.symm hr
      | normal t1 H1 =>
        rw [hr1] at he
        simp only [] at he
        refine Go.wp_mono (ihx cx hx pd ρ H w t a _ hH hG hT hnt hr1 (by simp)) (fun e a1 w1 hp => ?_)
        obtain ⟨h1, h2, ρ1, t', H', h3, h4, h5⟩ := hp
        rcases h5 with ⟨h5, rfl⟩ | ⟨id, h5, rfl⟩ | ⟨h5, rfl⟩
        · cases h5
          exact Go.wp_mono (ihy cy hy pd ρ1 H1 w1 t1 a1 r h3.hr (hG.le h3.le) h4 (by rw [h2]; exact hnt) he hr) (fun e a2 w2 hp2 => hp2.trans h3 h1 h2)
        · cases h5
        · cases h5
      | exit id t1 H1 =>
        rw [hr1] at he
        simp only [] at he
        subst he
        refine Go.wp_mono (ihx cx hx pd ρ H w t a _ hH hG hT hnt hr1 (by simp)) (fun e a1 w1 hp => ?_)
        have hp0 := hp
        obtain ⟨h1, h2, ρ1, t', H', h3, h4, h5⟩ := hp
        rcases h5 with ⟨h5, rfl⟩ | ⟨id, h5, rfl⟩ | ⟨h5, rfl⟩
        · cases h5
        · exact hp0
        · cases h5
      | ret t1 H1 =>
        rw [hr1] at he
        simp only [] at he
        subst he
        refine Go.wp_mono (ihx cx hx pd ρ H w t a _ hH hG hT hnt hr1 (by simp)) (fun e a1 w1 hp => ?_)
        have hp0 := hp
        obtain ⟨h1, h2, ρ1, t', H', h3, h4, h5⟩ := hp
        rcases h5 with ⟨h5, rfl⟩ | ⟨id, h5, rfl⟩ | ⟨h5, rfl⟩
        · cases h5
        · cases h5
        · exact hp0
    · cases hc
  | cond z x y ihx ihy =>
    intro cc hc pd ρ H w t a r hH hG hT hnt he hr
    simp only [cCode] at hc
    split at hc
    · rename_i cz cx cy hz hx hy
      simp only [Option.some.injEq] at hc; subst hc
      simp only [Code.ev] at he
      have rz := cOpn_VR hT hG hz
      split at he
      · rename_i hb
        rw [hb] at rz
        refine Go.wp_cond_true ?_ (ihx cx hx pd ρ H w t a r hH hG hT hnt he hr)
        generalize a.eval z = q at rz
        cases rz; rfl
      · rename_i hb
        rw [hb] at rz
        refine Go.wp_cond_false ?_ (ihy cy hy pd ρ H w t a r hH hG hT hnt he hr)
        generalize a.eval z = q at rz
        cases rz; rfl
      · exact absurd he.symm hr
    · cases hc
  | block id x ihx =>
    intro cc hc pd ρ H w t a r hH hG hT hnt he hr
    simp only [cCode] at hc
    split at hc
    · rename_i cx hx
      simp only [Option.some.injEq] at hc; subst hc
      simp only [Code.ev] at he
      refine Go.wp_block ?_
      cases hr1 : Code.ev E call cx t H with
      | no => rw [hr1] at he; exact absurd he.symm hr
      | normal t1 H1 =>
        rw [hr1] at he
        subst he
        refine Go.wp_mono (ihx cx hx pd ρ H w t a _ hH hG hT hnt hr1 (by simp)) (fun e a1 w1 hp => ?_)
        have hp0 := hp
        obtain ⟨h1, h2, ρ1, t', H', h3, h4, h5⟩ := hp
        rcases h5 with ⟨h5, rfl⟩ | ⟨id, h5, rfl⟩ | ⟨h5, rfl⟩
        · exact hp0
        · cases h5
        · cases h5
      | ret t1 H1 =>
        rw [hr1] at he
        subst he
        refine Go.wp_mono (ihx cx hx pd ρ H w t a _ hH hG hT hnt hr1 (by simp)) (fun e a1 w1 hp => ?_)
        have hp0 := hp
        obtain ⟨h1, h2, ρ1, t', H', h3, h4, h5⟩ := hp
        rcases h5 with ⟨h5, rfl⟩ | ⟨id, h5, rfl⟩ | ⟨h5, rfl⟩
        · cases h5
        · cases h5
        · exact hp0
      | exit j t1 H1 =>
        rw [hr1] at he
        simp only [] at he
        refine Go.wp_mono (ihx cx hx pd ρ H w t a _ hH hG hT hnt hr1 (by simp)) (fun e a1 w1 hp => ?_)
        obtain ⟨h1, h2, ρ1, t', H', h3, h4, h5⟩ := hp
        rcases h5 with ⟨h5, rfl⟩ | ⟨id', h5, rfl⟩ | ⟨h5, rfl⟩
        · cases h5
        · cases h5
          simp only [Go.Exit.inBlock]
          cases hb : Nat.beq j id with
          | true =>
            rw [hb] at he
            rw [if_pos (nbeq.1 hb)]
            exact ⟨h1, h2, ρ1, t1, H1, h3, h4, .inl ⟨he.symm, rfl⟩⟩
          | false =>
            rw [hb] at he
            rw [if_neg (fun e => by rw [nbeq.2 e] at hb; cases hb)]
            exact ⟨h1, h2, ρ1, t1, H1, h3, h4, .inr (.inl ⟨j, he.symm, rfl⟩)⟩
        · cases h5
    · cases hc
  | loop x ihx =>
    intro cc hc pd ρ H w t a r hH hG hT hnt he hr
    simp only [cCode] at hc
    split at hc
    · rename_i cx hx
      simp only [Option.some.injEq] at hc; subst hc
      simp only [Code.ev] at he
      refine wp_loopN (J := fun n a' w' => a'.defers = a.defers ∧ a'.tmps.size = a.tmps.size ∧ ∃ ρ' t' H', Stp X pd ρ H w ρ' H' w' ∧ TR X ρ' t' a'.tmps ∧ loopN (Code.ev E call cx) n t' H' = r) (n := maxRounds) (fun n a1 w1 hJ => ?_) ⟨rfl, rfl, ρ, t, H, Stp.refl hH, hT, he⟩
      obtain ⟨j1, j2, ρ1, t1, H1, j3, j4, j5⟩ := hJ
      cases n with
      | zero => simp only [loopN] at j5; exact absurd j5.symm hr
      | succ n =>
        simp only [loopN] at j5
        have hbody : Code.ev E call cx t1 H1 ≠ .no := by
          intro h
          rw [h] at j5
          exact hr j5.symm
        refine Go.wp_mono (ihx cx hx pd ρ1 H1 w1 t1 a1 _ j3.hr (hG.le j3.le) j4 (by rw [j2]; exact hnt) rfl hbody) (fun e a2 w2 hp => ?_)
        obtain ⟨h1, h2, ρ2, t2, H2, h3, h4, h5⟩ := hp
        rcases h5 with ⟨h5, rfl⟩ | ⟨id, h5, rfl⟩ | ⟨h5, rfl⟩
        · rw [h5] at j5
          exact ⟨n, Nat.lt_succ_self n, h1.trans j1, h2.trans j2, ρ2, t2, H2, j3.trans h3, h4, j5⟩
        · rw [h5] at j5
          exact ⟨h1.trans j1, h2.trans j2, ρ2, t2, H2, j3.trans h3, h4, .inr (.inl ⟨id, j5.symm, rfl⟩)⟩
        · rw [h5] at j5
          exact ⟨h1.trans j1, h2.trans j2, ρ2, t2, H2, j3.trans h3, h4, .inr (.inr ⟨j5.symm, rfl⟩)⟩
    · cases hc
  | region id oa draw =>
    intro cc hc pd ρ H w t a r hH hG hT hnt he hr
    simp only [cCode] at hc
    have fin : ∀ ρ' a' w' t' H', Stp X pd ρ H w ρ' H' w' → TR X ρ' t' a'.tmps → a'.defers = a.defers → a'.tmps.size = a.tmps.size → r = .normal t' H' → Post X pd ρ H w a r .normal a' w' :=
      fun ρ' a' w' t' H' h1 h2 h3 h4 h5 => ⟨h3, h4, ρ', t', H', h1, h2, .inl ⟨h5, rfl⟩⟩
    cases draw with
    | false =>
      cases hl : cRegion P names nt oa false false with
      | none =>
        rw [hl] at hc
        simp only [Option.some.injEq] at hc; subst hc
        rw [bad_no] at he; exact absurd he.symm hr
      | some l =>
        rw [hl] at hc
        simp only [Bool.false_and, Bool.false_eq_true, if_false, Option.some.injEq] at hc; subst hc
        simp only [cRegion] at hl
        simp only [Code.ev] at he
        cases ho : ops E call l t H with
        | no => rw [ho] at he; exact absurd he.symm hr
        | ok t' H' =>
          rw [ho] at he
          refine Go.wp_region ?_
          rw [List.range_eq_range', ← Array.length_toList]
          exact seq_sound hok hcall hnm oa.toList 0 l t t' H H' ρ a w (fun i o hi => by rw [Nat.zero_add, ← Array.getElem?_toList]; exact hi) hl ho hH hG hT hnt (fun ρ' a' w' h1 h2 h3 h4 => fin ρ' a' w' t' H' h1 h2 h3 h4 he.symm)
    | true =>
      cases hl : cRegion P names nt oa true false with
      | some l =>
        rw [hl] at hc
        simp only [Bool.true_and, Option.some.injEq] at hc
        obtain ⟨f1, f2, f3, f4, _⟩ := cRegion_spec hl
        cases hck : l.any Op.checked with
        | false =>
          rw [hck] at hc
          simp only [Bool.false_eq_true, if_false] at hc; subst hc
          simp only [Code.ev] at he
          cases ho : ops E call l t H with
          | no => rw [ho] at he; exact absurd he.symm hr
          | ok t' H' =>
            rw [ho] at he
            exact draw_sound hmix hok hcall hnm ⟨ho, f1, f2, f3, f4, fun ⟨o, hom, hoc⟩ => by
              rw [List.any_eq_false] at hck; exact absurd hoc (hck o hom)⟩ hnt h511 hG hH hT (fun ρ' a' w' h1 h2 h3 h4 => fin ρ' a' w' t' H' h1 h2 h3 h4 he.symm)
        | true =>
          rw [hck] at hc
          simp only [if_true] at hc; subst hc
          simp only [Code.ev] at he
          cases ho : opsC E call l t H [H] [] with
          | no => rw [ho] at he; exact absurd he.symm hr
          | ok t' H' =>
            rw [ho] at he
            obtain ⟨ho, cs, hcs, _, hall⟩ := opsC_spec ho
            exact draw_sound hmix hok hcall hnm ⟨ho, f1, f2, f3, f4, fun _ => ⟨cs, hcs, by simpa using hall⟩⟩ hnt h511 hG hH hT (fun ρ' a' w' h1 h2 h3 h4 => fin ρ' a' w' t' H' h1 h2 h3 h4 he.symm)
      | none =>
        rw [hl] at hc
        simp only [] at hc
        cases hl2 : cRegion P names nt oa true true with
        | none =>
          rw [hl2] at hc
          simp only [Option.some.injEq] at hc; subst hc
          rw [bad_no] at he; exact absurd he.symm hr
        | some l =>
          rw [hl2] at hc
          simp only [Option.some.injEq] at hc; subst hc
          obtain ⟨f1, f2, f3, f4, f5⟩ := cRegion_spec hl2
          simp only [Code.ev] at he
          cases hn : H.new .none with
          | none => rw [hn] at he; exact absurd he.symm hr
          | some q =>
            obtain ⟨rr, H1⟩ := q
            rw [hn] at he
            simp only [] at he
            cases ho : opsC E call l (set3 t lateP (.map rr)) H1 [H1] [] with
            | no => rw [ho] at he; exact absurd he.symm hr
            | ok t' H' =>
              rw [ho] at he
              obtain ⟨ho, cs, hcs, _, hall⟩ := opsC_spec ho
              exact late_sound hmix hok hcall hnm hn ⟨ho, f1, f2, f3, f4, fun _ => ⟨cs, hcs, by simpa using hall⟩⟩ (f5 rfl) hnt h511 hG hH hT (fun ρ' a' w' h1 h2 h3 h4 => fin ρ' a' w' t' (H'.set rr (.map [])) h1 h2 h3 h4 he.symm)
end
end Ds
namespace Ds
open Go (IntKind Value World Addr MapEntry Program Sem Result Operand TypeId)
section
variable {P : Program} {X : Cx} {E : Env} {pd : P5 → Prop} {ρ : Rho} {H : Hp} {w : World}
def rvRun (tmps : Array Value) : Go.ResultVar → Sem Value
  | .tmp t => pure (tmps.getD t Go.undef)
  | .cell a t => do Go.loadVar t (← Go.asAddr (tmps.getD a Go.undef))
theorem rv_sound (hH : HR X pd ρ H w) {t : T3 AV} {tm : Array Value} (hT : TR X ρ t tm) {r : Go.ResultVar} {x : Rv} (hc : cRv P r = some x) {v : AV} (hv : rvOne t H x = some v) :
    ∃ v', (rvRun tm r).run P w = .ok v' w ∧ VR X ρ v v' := by
  cases r with
  | tmp n =>
    simp only [cRv, guardO_some, decide_eq_true_eq, Option.some.injEq] at hc
    obtain ⟨hn, rfl⟩ := hc
    simp only [rvOne, Option.some.injEq] at hv
    subst hv
    exact ⟨_, rfl, hT.get n hn⟩
  | cell n ty =>
    simp only [cRv] at hc
    split at hc
    · rename_i g sz hg hs
      simp only [guardO_some, decide_eq_true_eq, Option.some.injEq] at hc
      obtain ⟨hn, rfl⟩ := hc
      have hr := hT.get n hn
      have key : ∀ u, VR X ρ (get3 t (P3.ofNat n)) u → (∃ v', (Go.Instr.loadAt ty u).run P w = .ok v' w ∧ VR X ρ v v') → (∃ id off, get3 t (P3.ofNat n) = .ptr id off) → ∃ v', (do Go.loadVar ty (← Go.asAddr u) : Sem Value).run P w = .ok v' w ∧ VR X ρ v v' := by
        intro u hu h hp
        obtain ⟨id, off, hp⟩ := hp
        rw [hp] at hu
        cases hu with
        | ptr _ _ B base C er =>
          obtain ⟨v', h1, h2⟩ := h
          refine ⟨v', ?_, h2⟩
          simpa [Go.Instr.loadAt, Go.Instr.sureAddr, Go.asAddr] using h1
      cases g with
      | true =>
        simp only [rvOne] at hv
        refine key _ hr (ldn_sound hH hr hv hg hs) ?_
        cases hx : get3 t (P3.ofNat n) <;> rw [hx] at hv <;> simp only [qLdn, reduceCtorEq] at hv
        exact ⟨_, _, rfl⟩
      | false =>
        simp only [rvOne] at hv
        refine key _ hr (ld_sound hH hr hv hg) ?_
        cases hx : get3 t (P3.ofNat n) <;> rw [hx] at hv <;> simp only [qLd, reduceCtorEq] at hv
        exact ⟨_, _, rfl⟩
    · cases hc
theorem rvAll_sound (hH : HR X pd ρ H w) {t : T3 AV} {tm : Array Value} (hT : TR X ρ t tm) : ∀ {rs : List Go.ResultVar} {xs : List Rv} {vs : List AV}, cRvs P rs = some xs → rvAll t H xs = some vs →
    ∃ us : List Value, (rs.mapM (rvRun tm)).run P w = .ok us w ∧ VRs X ρ vs us
  | [], xs, vs, hc, hv => by
    simp only [cRvs, Option.some.injEq] at hc; subst hc
    simp only [rvAll, Option.some.injEq] at hv; subst hv
    exact ⟨[], by simp, .nil⟩
  | r :: rs, xs, vs, hc, hv => by
    simp only [cRvs] at hc
    split at hc
    · rename_i x m hx hm
      simp only [Option.some.injEq] at hc; subst hc
      simp only [rvAll] at hv
      cases h1 : rvOne t H x with
      | none => rw [h1] at hv; cases hv
      | some u =>
        rw [h1] at hv
        simp only [] at hv
        cases h2 : rvAll t H m with
        | none => rw [h2] at hv; cases hv
        | some us =>
          rw [h2] at hv
          simp only [Option.some.injEq] at hv; subst hv
          obtain ⟨v', g1, g2⟩ := rv_sound hH hT hx h1
          obtain ⟨us', g3, g4⟩ := rvAll_sound hH hT hm h2
          exact ⟨v' :: us', by simp [List.mapM_cons, g1, g3], .cons _ _ _ _ g2 g4⟩
    · cases hc
theorem rvs_sound (hH : HR X pd ρ H w) {t : T3 AV} {tm : Array Value} (hT : TR X ρ t tm) {fn : Go.Func} {xs : List Rv} (hc : cRvs P fn.results.toList = some xs) {v : AV} (hv : rvs t H xs = some v) :
    ∃ v', (Go.results fn tm).run P w = .ok v' w ∧ VR X ρ v v' := by
  have hres : Go.results fn tm = (do let vs ← fn.results.mapM (rvRun tm); pure (if h : vs.size = 1 then vs[0] else .tuple vs)) := by
    unfold Go.results rvRun
    rfl
  rw [hres]
  have hall : ∃ vs, rvAll t H xs = some vs ∧ ((∃ u, vs = [u] ∧ v = u) ∨ (vs.length ≠ 1 ∧ v = .tup vs)) := by
    rcases xs with _ | ⟨x, _ | ⟨y, l⟩⟩
    · simp only [rvs, rvAll, Option.some.injEq] at hv
      exact ⟨[], rfl, .inr ⟨by simp, hv.symm⟩⟩
    · simp only [rvs] at hv
      exact ⟨[v], by simp [rvAll, hv], .inl ⟨v, rfl, rfl⟩⟩
    · simp only [rvs] at hv
      cases h : rvAll t H (x :: y :: l) with
      | none => rw [h] at hv; cases hv
      | some vs =>
        rw [h] at hv
        simp only [Option.some.injEq] at hv
        have hlen : ∀ (xs : List Rv) (vs : List AV), rvAll t H xs = some vs → vs.length = xs.length := by
          intro xs
          induction xs with
          | nil => intro vs h; simp only [rvAll, Option.some.injEq] at h; subst h; rfl
          | cons z zs ih =>
            intro vs h
            simp only [rvAll] at h
            split at h
            · split at h
              · rename_i us hus
                simp only [Option.some.injEq] at h; subst h
                simp [ih us hus]
              · cases h
            · cases h
        refine ⟨vs, rfl, .inr ⟨?_, hv.symm⟩⟩
        rw [hlen _ _ h]; simp
  obtain ⟨vs, hvs, hv'⟩ := hall
  obtain ⟨us, h1, h2⟩ := rvAll_sound (P := P) hH hT hc hvs
  have hlen := h2.length
  have hrun : (fn.results.mapM (rvRun tm)).run P w = .ok us.toArray w := by
    rw [Array.mapM_eq_mapM_toList]
    simp [h1]
  rcases hv' with ⟨u, rfl, rfl⟩ | ⟨hne, rfl⟩
  · cases h2 with
    | cons _ _ x l r h2 =>
      cases h2
      refine ⟨x, ?_, r⟩
      simp [hrun]
  · refine ⟨.tuple us.toArray, ?_, .tup _ _ h2⟩
    have : us.length ≠ 1 := by omega
    simp [hrun, this]
theorem enterL_get : ∀ (as : List AV) (t : T3 AV) (k i : Nat), k + as.length ≤ 512 → i < 512 → get3 (enterL t k as) (P3.ofNat i) = if k ≤ i ∧ i < k + as.length then as.getD (i - k) .any else get3 t (P3.ofNat i)
  | [], t, k, i, _, _ => by simp [enterL]; intro h1 h2; omega
  | a :: l, t, k, i, hk, hi => by
    simp only [List.length_cons] at hk
    simp only [enterL]
    rw [enterL_get l _ (k + 1) i (by omega) hi, get3_set3]
    by_cases c : i = k
    · subst c
      rw [if_neg (by omega), if_pos rfl, if_pos ⟨Nat.le_refl _, by simp⟩]
      simp
    · rw [if_neg (fun e => c (P3.ofNat_inj (by omega) (by omega) e).symm)]
      by_cases c2 : k + 1 ≤ i ∧ i < k + 1 + l.length
      · rw [if_pos c2, if_pos ⟨by omega, by simp; omega⟩]
        rw [show i - k = (i - (k + 1)) + 1 by omega, List.getD_cons_succ]
      · rw [if_neg c2, if_neg (by simp; omega)]
theorem enter_TR {as : List AV} {vs : List Value} (hv : VRs X ρ as vs) (hl : as.length < 512) (n : Nat) (hn : n ≤ 511) :
    TR X ρ (enterL anym 0 as) (vs.toArray ++ Array.replicate (n - vs.toArray.size) Go.undef) := by
  have hlen := hv.length
  refine ⟨fun i hi => ?_, by simp; omega⟩
  rw [enterL_get as anym 0 i (by omega) (by omega)]
  by_cases c : i < as.length
  · rw [if_pos ⟨by omega, by omega⟩, Nat.sub_zero]
    have h1 : i < vs.length := by omega
    have := hv.get i vs[i] (by simp [h1])
    simpa [Array.getD, h1, Array.getElem_append, Nat.lt_add_right] using this
  · rw [if_neg (by omega)]
    unfold anym
    rw [get3_all]
    exact .any _
end
def FunOk (P : Program) (X : Cx) (E : Env) (names : List String) (f : Nat) : Fun → Prop
  | .none => True
  | .code rs c => ∃ fn, P.funcs[f]? = some fn ∧ (fn.name == "runtime.NumGoroutine") = false ∧ cFun P names fn = some (.code rs c)
  | .dfr rs a fv c g drs dc => ∀ call, CallOk P X call → ∀ (pd : P5 → Prop) (ρ : Rho) (H : Hp) (w : World) (as : List AV) (vs : List Value) (v : AV) (H' : Hp), GR P ρ → HR X pd ρ H w → VRs X ρ as vs → as.length < 512 →
      (match Code.ev E call a (enterL anym 0 as) H with | .normal t h' => finishD E call rs (Opn.ev fv t) g drs dc (Code.ev E call c t h') | _ => .no) = .ok v H' →
      (∃ fn, P.funcs[f]? = some fn ∧ (fn.name == "runtime.NumGoroutine") = false ∧ fn.body.isNone = false) ∧
      Go.Calls P f vs.toArray w (fun e w' => ∃ ρ' v', e = .returned v' ∧ Stp X pd ρ H w ρ' H' w' ∧ VR X ρ' v v')
  | .told g => ∀ (pd : P5 → Prop) (ρ : Rho) (H : Hp) (w : World) (as : List AV) (vs : List Value) (v : AV), GR P ρ → HR X pd ρ H w → VRs X ρ as vs → g as = some v →
      (∃ fn, P.funcs[f]? = some fn ∧ (fn.name == "runtime.NumGoroutine") = false ∧ fn.body.isNone = false) ∧
      Go.Calls P f vs.toArray w (fun e w' => ∃ ρ' v', e = .returned v' ∧ Stp X pd ρ H w ρ' H w' ∧ VR X ρ' v v')
  | .both g rs c => (∀ (pd : P5 → Prop) (ρ : Rho) (H : Hp) (w : World) (as : List AV) (vs : List Value) (v : AV), GR P ρ → HR X pd ρ H w → VRs X ρ as vs → g as = some v →
      (∃ fn, P.funcs[f]? = some fn ∧ (fn.name == "runtime.NumGoroutine") = false ∧ fn.body.isNone = false) ∧
      Go.Calls P f vs.toArray w (fun e w' => ∃ ρ' v', e = .returned v' ∧ Stp X pd ρ H w ρ' H w' ∧ VR X ρ' v v')) ∧ (∃ fn, P.funcs[f]? = some fn ∧ (fn.name == "runtime.NumGoroutine") = false ∧ cFun P names fn = some (.code rs c))
  | .mem g => ∀ (pd : P5 → Prop) (ρ : Rho) (H : Hp) (w : World) (as : List AV) (vs : List Value) (v : AV) (H' : Hp), GR P ρ → HR X pd ρ H w → VRs X ρ as vs → g as H = some (v, H') →
      (∃ fn, P.funcs[f]? = some fn ∧ (fn.name == "runtime.NumGoroutine") = false ∧ fn.body.isNone = false) ∧
      Go.Calls P f vs.toArray w (fun e w' => ∃ ρ' v', e = .returned v' ∧ Stp X pd ρ H w ρ' H' w' ∧ VR X ρ' v v')
theorem callN_ok {P : Program} {X : Cx} {E : Env} {names : List String} (hmix : P.follows .mixedOrders = true) (hok : EnvOk P X E) (hnm : ∀ i m, names.findIdx? (· == m) = some i → X.nm i = m)
    (hf : ∀ f, f < 512 → FunOk P X E names f (get3 E.funs (P3.ofNat f))) : ∀ n, CallOk P X (callN E n)
  | 0 => fun pd ρ H w f as vs v H' hG hH hv h => by simp [callN] at h
  | n + 1 => fun pd ρ H w f as vs v H' hG hH hv h => by
    have ih := callN_ok hmix hok hnm hf n
    simp only [callN] at h
    cases hb : (Nat.ble 512 f || Nat.ble 512 as.length) with
    | true => rw [hb] at h; cases h
    | false =>
      rw [hb] at h
      simp only [Bool.or_eq_false_iff] at hb
      have hlt : f < 512 := by
        rcases Nat.lt_or_ge f 512 with h | h
        · exact h
        · have := Nat.ble_eq_true_of_le h; rw [this] at hb; cases hb.1
      have hla : as.length < 512 := by
        rcases Nat.lt_or_ge as.length 512 with h | h
        · exact h
        · have := Nat.ble_eq_true_of_le h; rw [this] at hb; cases hb.2
      have codeCase : ∀ (rs : List Rv) (c : Code), (∃ fn, P.funcs[f]? = some fn ∧ (fn.name == "runtime.NumGoroutine") = false ∧ cFun P names fn = some (.code rs c)) → finish rs (Code.ev E (callN E n) c (enterL anym 0 as) H) = .ok v H' →
          (∃ fn, P.funcs[f]? = some fn ∧ (fn.name == "runtime.NumGoroutine") = false ∧ fn.body.isNone = false) ∧ Go.Calls P f vs.toArray w (fun e w' => ∃ ρ' v', e = .returned v' ∧ Stp X pd ρ H w ρ' H' w' ∧ VR X ρ' v v') := by
        intro rs c hfo h
        obtain ⟨fn, h1, h2, h3⟩ := hfo
        unfold cFun at h3
        split at h3
        · cases h3
        · rename_i body hbody
          split at h3
          · rename_i rs' cc hrs hcc
            simp only [guardO_some, decide_eq_true_eq, Option.some.injEq, Fun.code.injEq] at h3
            obtain ⟨hnt, rfl, rfl⟩ := h3
            refine ⟨⟨fn, h1, h2, by rw [hbody]; rfl⟩, Go.calls_of_wp h1 hbody ?_⟩
            have hT := enter_TR hv hla fn.ntmps hnt
            have hno : Code.ev E (callN E n) cc (enterL anym 0 as) H ≠ .no := by
              intro e; rw [e] at h; simp [finish] at h
            refine Go.wp_mono (code_sound (a := { tmps := vs.toArray ++ Array.replicate (fn.ntmps - vs.toArray.size) Go.undef, defers := [] }) hmix hok ih hnm hnt body cc hcc pd ρ H w (enterL anym 0 as) _ hH hG hT (by simp; omega) rfl hno) (fun e a' w' hp => ?_)
            obtain ⟨p1, p2, ρ', t', H1, p3, p4, p5⟩ := hp
            have fin : ∀ (hvs : rvs t' H1 rs' = some v) (hH1 : H1 = H'), a'.defers = [] ∧ ∃ v', (Go.results fn a'.tmps).run P w' = .ok v' w' ∧ ∃ ρ' v'', Go.Ending.returned v' = .returned v'' ∧ Stp X pd ρ H w ρ' H' w' ∧ VR X ρ' v v'' := by
              intro hvs hH1
              subst hH1
              obtain ⟨v', q1, q2⟩ := rvs_sound (P := P) p3.hr p4 hrs hvs
              exact ⟨p1, v', q1, ρ', v', rfl, p3, q2⟩
            rcases p5 with ⟨p5, rfl⟩ | ⟨id, p5, rfl⟩ | ⟨p5, rfl⟩
            · rw [p5] at h
              simp only [finish] at h
              split at h
              · rename_i u hu
                simp only [Rr.ok.injEq] at h
                obtain ⟨rfl, rfl⟩ := h
                exact fin hu rfl
              · cases h
            · rw [p5] at h; simp [finish] at h
            · rw [p5] at h
              simp only [finish] at h
              split at h
              · rename_i u hu
                simp only [Rr.ok.injEq] at h
                obtain ⟨rfl, rfl⟩ := h
                exact fin hu rfl
              · cases h
          · cases h3
      have hfo := hf f hlt
      simp only [] at h
      cases hx : get3 E.funs (P3.ofNat f) with
      | none => rw [hx] at h; cases h
      | told g =>
        rw [hx] at h hfo
        simp only [] at h
        cases hg : g as with
        | none => rw [hg] at h; cases h
        | some u =>
          rw [hg] at h
          simp only [Rr.ok.injEq] at h
          obtain ⟨rfl, rfl⟩ := h
          exact hfo pd ρ H w as vs u hG hH hv hg
      | dfr rs a fv c g drs dc =>
        rw [hx] at h hfo
        exact hfo _ ih pd ρ H w as vs v H' hG hH hv hla h
      | code rs c =>
        rw [hx] at h hfo
        exact codeCase rs c hfo h
      | both g rs c =>
        rw [hx] at h hfo
        simp only [] at h
        cases hg : g as with
        | none => rw [hg] at h; exact codeCase rs c hfo.2 h
        | some u =>
          rw [hg] at h
          simp only [Rr.ok.injEq] at h
          obtain ⟨rfl, rfl⟩ := h
          exact hfo.1 pd ρ H w as vs u hG hH hv hg
      | mem g =>
        rw [hx] at h hfo
        simp only [] at h
        cases hg : g as H with
        | none => rw [hg] at h; cases h
        | some u =>
          rw [hg] at h
          simp only [Rr.ok.injEq] at h
          obtain ⟨rfl, rfl⟩ := h
          exact hfo pd ρ H w as vs _ _ hG hH hv hg
end Ds
namespace Ds
open Go (IntKind Value World Addr MapEntry Program Sem Result Operand TypeId)
theorem wpOpsS_of_wpOps {P : Program} {oa : Array Go.Oper} {Q : Go.Exit → Go.Act → World → Prop} {cs : List Go.Frame} (hq : ¬ Go.LetsOut Q) : ∀ (l : List Nat) (a : Go.Act) (w : World), Go.wpOps P oa Q l a w → Go.wpOpsS P oa (fun e a cs' w => cs' = cs ∧ Q e a w) l a cs w
  | [], a, w, h => ⟨rfl, h⟩
  | i :: l, a, w, h => by
    simp only [Go.wpOps] at h
    simp only [Go.wpOpsS]
    cases ho : oa[i]? with
    | none => rw [ho] at h; exact wpOpsS_of_wpOps hq l a w h
    | some o =>
      rw [ho] at h
      simp only [] at h ⊢
      by_cases hw : Go.Region.wanted o (Go.yielded oa a.tmps) = true
      · rw [if_pos hw] at h ⊢
        rcases h with h | ⟨_, h⟩
        · unfold Go.Oper.wp at h
          generalize (Go.execOp a.eval o).run P w = r at h
          cases r with
          | ok n w' =>
            cases n <;> simp only [Go.Oper.upon] at h ⊢
            case value v => exact wpOpsS_of_wpOps hq l _ w' h
            case skip => exact wpOpsS_of_wpOps hq l _ w' h
            case defer d => exact wpOpsS_of_wpOps hq l _ w' h
            case enter f args =>
              refine h.mono (fun e w'' he => ?_)
              cases e with
              | returned v => exact wpOpsS_of_wpOps hq l _ w'' he
              | panicked c => exact ⟨by trivial, he⟩
              | outgrown => exact absurd he hq
            case row row args => exact h.mono (fun v w'' he => wpOpsS_of_wpOps hq l _ w'' he)
          | halt x w' =>
            cases x <;> simp only [Go.Oper.upon] at h ⊢
            case panic v => exact ⟨by trivial, h⟩
        · exact absurd h hq
      · rw [if_neg hw] at h ⊢
        exact wpOpsS_of_wpOps hq l _ w h
theorem code_seq {E : Env} {call : CallF} {a b : Code} {t : T3 AV} {H : Hp} {t2 : T3 AV} {H2 : Hp} (h : Code.ev E call (.seq a b) t H = .normal t2 H2) : ∃ t1 H1, Code.ev E call a t H = .normal t1 H1 ∧ Code.ev E call b t1 H1 = .normal t2 H2 := by
  simp only [Code.ev] at h
  cases h1 : Code.ev E call a t H with
  | normal t1 H1 => rw [h1] at h; exact ⟨t1, H1, rfl, h⟩
  | no => rw [h1] at h; cases h
  | exit i t1 H1 => rw [h1] at h; cases h
  | ret t1 H1 => rw [h1] at h; cases h
structure DfrShape (P : Program) (names : List String) (f g : Nat) (rs : List Rv) (ca cr : Code) (cs : List Opn) (k : Nat) (drs : List Rv) (j : Nat) (ml : List Op) (cd cd2 : Code) where
  fn : Go.Func
  fd : Go.Func
  a : Go.Code
  r : Go.Code
  id : Nat
  mko : Go.Oper
  df : Go.Oper
  caps : List Operand
  cts : Array TypeId
  id' : Nat
  rc : Go.Oper
  l : List Go.Oper
  d : Go.Code
  d2 : Go.Code
  cts' : Array TypeId
  hfn : P.funcs[f]? = some fn
  hfd : P.funcs[g]? = some fd
  hname : (fn.name == "runtime.NumGoroutine") = false
  hnameD : (fd.name == "runtime.NumGoroutine") = false
  hb : fn.body = some (.seq a (.seq (.region id #[mko, df] false) r))
  hbD : fd.body = some (.seq (.seq (.region id' (rc :: l).toArray false) d) d2)
  hmk : mko.op = .makeFunc (.func g) ⟨[]⟩ ⟨caps⟩
  hmd : mko.dst = some k
  hmg : mko.guard = none
  hdf : df.op = .defer { callee := .value (.tmp k), args := #[], argTypes := cts }
  hdd : df.dst = none
  hdg : df.guard = none
  hrc : rc.op = .call { callee := .builtin .recover, args := #[], argTypes := cts' }
  hrd : rc.dst = some j
  hrg : rc.guard = none
  hnt : fn.ntmps ≤ 511
  hntD : fd.ntmps ≤ 511
  hk : k < fn.ntmps
  hj : j < fd.ntmps
  hca : cCode P names fn.ntmps a = some ca
  hcr : cCode P names fn.ntmps r = some cr
  hcs : cOpns P caps = some cs
  hrs : cRvs P fn.results.toList = some rs
  hml : cOpers P names fd.ntmps (rc :: l).toArray false false (fun _ => (0, 0)) 1 l = some ml
  hcd : cCode P names fd.ntmps d = some cd
  hcd2 : cCode P names fd.ntmps d2 = some cd2
  hdrs : cRvs P fd.results.toList = some drs
theorem dfr_ok {P : Program} {X : Cx} {E : Env} {names : List String} (hmix : P.follows .mixedOrders = true) (hok : EnvOk P X E) (hnm : ∀ i m, names.findIdx? (· == m) = some i → X.nm i = m)
    {f g : Nat} {rs : List Rv} {ca cr : Code} {cs : List Opn} {k : Nat} {drs : List Rv} {j : Nat} {ml : List Op} {cd cd2 : Code} (S : DfrShape P names f g rs ca cr cs k drs j ml cd cd2) :
    FunOk P X E names f (.dfr rs (.seq ca (.reg [.q (P3.ofNat k) (.mkfn g cs)])) (.t (P3.ofNat k)) cr g drs (.seq (.seq (.reg (.q (P3.ofNat j) (.mv (.c .nili)) :: ml)) cd) cd2)) := by
  intro call hcall pd ρ H w as vs v H' hG hH hv hla h
  refine ⟨⟨S.fn, S.hfn, S.hname, by rw [S.hb]; rfl⟩, Go.calls_of_wp_defers S.hfn S.hb ?_⟩
  have hT := enter_TR hv hla S.fn.ntmps S.hnt
  have hsz : S.fn.ntmps ≤ (vs.toArray ++ Array.replicate (S.fn.ntmps - vs.toArray.size) Go.undef).size := by simp; omega
  split at h
  · rename_i t2 H2 hpre
    obtain ⟨t1, H1, e1, e2⟩ := code_seq hpre
    have e3 : t2 = set3 t1 (P3.ofNat k) (.func g (evs t1 cs)) ∧ H2 = H1 := by
      simp only [Code.ev, ops, Op.ev, Ds.Q.ev, Rc.normal.injEq] at e2
      exact ⟨e2.1.symm, e2.2.symm⟩
    obtain ⟨rfl, rfl⟩ := e3
    refine Go.wp_seq (Go.wp_mono (code_sound (a := { tmps := vs.toArray ++ Array.replicate (S.fn.ntmps - vs.toArray.size) Go.undef, defers := [] }) hmix hok hcall hnm S.hnt S.a ca S.hca pd ρ H w (enterL anym 0 as) _ hH hG hT hsz e1 (by simp)) (fun e a1 w1 hp => ?_))
    obtain ⟨p1, p2, ρ1, t', H'', p3, p4, p5⟩ := hp
    rcases p5 with ⟨p5, rfl⟩ | ⟨id, p5, _⟩ | ⟨p5, _⟩
    case inr.inl => cases p5
    case inr.inr => cases p5
    simp only [Rc.normal.injEq] at p5
    obtain ⟨rfl, rfl⟩ := p5
    refine Go.wp_seq (Go.wp_region ?_)
    have hk1 : k < a1.tmps.size := by rw [p2]; exact Nat.lt_of_lt_of_le S.hk hsz
    have hcapr := cOpns_VR p4 (hG.le p3.le) S.hcs
    show Go.wpOps P #[S.mko, S.df] _ [0, 1] a1 w1
    simp only [Go.wpOps]
    simp only [List.getElem?_toArray, List.getElem?_cons_zero, List.getElem?_cons_succ]
    rw [if_pos (by simp [Go.Region.wanted, S.hmg])]
    refine .inl ?_
    unfold Go.Oper.wp
    have hr1 : (Go.execOp a1.eval S.mko).run P w1 = .ok (.value (.func (.func g) #[] (S.caps.map a1.eval).toArray)) w1 := by
      simp [Go.execOp, S.hmk, Go.Instr.makeFunc]
    rw [hr1, Go.Oper.upon_value]
    rw [if_pos (by simp [Go.Region.wanted, S.hdg])]
    refine .inl ?_
    have hev : (a1.put S.mko.dst (.func (.func g) #[] (S.caps.map a1.eval).toArray)).eval (.tmp k) = .func (.func g) #[] (S.caps.map a1.eval).toArray := by
      rw [S.hmd]
      simp [Go.Act.put, Go.Act.eval, hk1]
    have hr2 : (Go.execOp (a1.put S.mko.dst (.func (.func g) #[] (S.caps.map a1.eval).toArray)).eval S.df).run P w1 = .ok (.defer { target := .fn (.func g) (S.caps.map a1.eval).toArray, args := #[] }) w1 := by
      simp [Go.execOp, S.hdf, Go.resolve, hev, Go.Deferred.ofValue]
    rw [hr2, Go.Oper.upon_defer]
    rw [S.hdd]
    have hT2 : TR X ρ1 (set3 t1 (P3.ofNat k) (.func g (evs t1 cs))) (a1.put S.mko.dst (.func (.func g) #[] (S.caps.map a1.eval).toArray)).tmps := by
      rw [S.hmd]; exact p4.set k hk1 (.func g _ _ hcapr)
    generalize hd0 : ({ target := .fn (.func g) (S.caps.map a1.eval).toArray, args := #[] } : Go.Deferred) = dd
    generalize ha2 : (({ (a1.put S.mko.dst (.func (.func g) #[] (S.caps.map a1.eval).toArray)) with defers := dd :: (a1.put S.mko.dst (.func (.func g) #[] (S.caps.map a1.eval).toArray)).defers } : Go.Act).put none Go.undef) = a2
    have ht2 : a2.tmps = (a1.put S.mko.dst (.func (.func g) #[] (S.caps.map a1.eval).toArray)).tmps := by rw [← ha2]; rfl
    have hdf2 : a2.defers = [dd] := by rw [← ha2]; show dd :: (a1.put S.mko.dst _).defers = [dd]; rw [put_defers, p1]
    have hz2 : a2.tmps.size = a1.tmps.size := by rw [ht2, put_size]
    have hno : Code.ev E call cr (set3 t1 (P3.ofNat k) (.func g (evs t1 cs))) H2 ≠ .no := by
      intro e; rw [e] at h; simp [finishD] at h
    show S.r.wp P (Go.bodyPostD P S.fn _) a2 w1
    refine Go.wp_mono (code_sound (a := a2) hmix hok hcall hnm S.hnt S.r cr S.hcr pd ρ1 H2 w1 _ _ p3.hr (hG.le p3.le) (by rw [ht2]; exact hT2) (by rw [hz2, p2]; exact hsz) rfl hno) (fun e a3 w3 hp => ?_)
    obtain ⟨q1, q2, ρ3, t3, H3, q3, q4, q5⟩ := hp
    have hfv : Opn.ev (.t (P3.ofNat k)) (set3 t1 (P3.ofNat k) (.func g (evs t1 cs))) = .func g (evs t1 cs) := by simp only [Opn.ev, get3_set3, if_pos]
    have fin : endD E call rs (.func g (evs t1 cs)) g drs (.seq (.seq (.reg (.q (P3.ofNat j) (.mv (.c .nili)) :: ml)) cd) cd2) t3 H3 = .ok v H' → Go.Leaves P S.fn a3.tmps (fun e w' => ∃ ρ' v', e = .returned v' ∧ Stp X pd ρ H w ρ' H' w' ∧ VR X ρ' v v') a3.defers .returning w3 := by
      intro hend
      simp only [endD] at hend
      cases hc : (Nat.beq g g && Nat.ble (evs t1 cs).length 511) with
      | false => rw [hc] at hend; cases hend
      | true =>
        rw [hc] at hend
        simp only [Bool.and_eq_true, ble_true] at hc
        simp only [] at hend
        have hcap3 := hcapr.le q3.le
        have hlc : (evs t1 cs).length < 512 := by omega
        cases hfin : finish drs (Code.ev E call (.seq (.seq (.reg (.q (P3.ofNat j) (.mv (.c .nili)) :: ml)) cd) cd2) (enterL anym 0 (evs t1 cs)) H3) with
        | no => rw [hfin] at hend; cases hend
        | ok u H4 =>
          rw [hfin] at hend
          simp only [] at hend
          cases hrv : rvs t3 H4 rs with
          | none => rw [hrv] at hend; cases hend
          | some v0 =>
            rw [hrv] at hend
            simp only [Rr.ok.injEq] at hend
            obtain ⟨rfl, rfl⟩ := hend
            rw [q1, hdf2, ← hd0]
            refine Go.leaves_cons (f := g) (args := (S.caps.map a1.eval).toArray) (by simp) ?_ ?_
            · simp only [Go.invoke, Array.empty_append]
              exact run_callFunc S.hfd S.hnameD (by rw [S.hbD]; rfl) w3
            · -- the deferred call
              have hcD : Go.CallsD P g (S.caps.map a1.eval).toArray .returning w3 (fun e u' w' => u' = .returning ∧ (∃ v', e = .returned v') ∧ ∃ ρ4, Stp X pd ρ3 H3 w3 ρ4 H4 w') := by
                refine Go.callsD_of_wpS S.hfd S.hbD (fun c₀ fs hc0 => Go.wpS_seq (Go.wpS_seq (Go.wpS_region ?_)))
                have hTD := enter_TR hcap3 hlc S.fd.ntmps S.hntD
                have hszD : S.fd.ntmps ≤ ((S.caps.map a1.eval).toArray ++ Array.replicate (S.fd.ntmps - (S.caps.map a1.eval).toArray.size) Go.undef).size := by simp; omega
                generalize hb0 : ({ tmps := (S.caps.map a1.eval).toArray ++ Array.replicate (S.fd.ntmps - (S.caps.map a1.eval).toArray.size) Go.undef, defers := [] } : Go.Act) = b0
                have htb : b0.tmps = (S.caps.map a1.eval).toArray ++ Array.replicate (S.fd.ntmps - (S.caps.map a1.eval).toArray.size) Go.undef := by rw [← hb0]
                have hdb : b0.defers = [] := by rw [← hb0]
                rw [← htb] at hTD hszD
                have hrange : List.range (S.rc :: S.l).toArray.size = 0 :: List.range' 1 S.l.length := by
                  simp [List.range_eq_range', List.range'_succ]
                rw [hrange]
                simp only [Go.wpOpsS, List.getElem?_toArray, List.getElem?_cons_zero]
                rw [if_pos (by simp [Go.Region.wanted, S.hrg])]
                have hrr : (Go.execOp b0.eval S.rc).run P w3 = .ok .recover w3 := by
                  simp [Go.execOp, S.hrc, Go.resolve, Go.invoke, Go.builtin]
                rw [hrr]
                have hrec : Go.recoverD (c₀ :: fs) = none := by simp [Go.recoverD, hc0]
                simp only [hrec]
                have hjb : j < b0.tmps.size := Nat.lt_of_lt_of_le S.hj hszD
                have hT3 : TR X ρ3 (set3 (enterL anym 0 (evs t1 cs)) (P3.ofNat j) .nili) (b0.put S.rc.dst .nilIface).tmps := by
                  rw [S.hrd]; exact hTD.set j hjb .nili
                simp only [Code.ev, ops, Op.ev, Ds.Q.ev, Opn.ev] at hfin
                cases ho : ops E call ml (set3 (enterL anym 0 (evs t1 cs)) (P3.ofNat j) .nili) H3 with
                | no => rw [ho] at hfin; simp [finish] at hfin
                | ok t5 H5 =>
                  rw [ho] at hfin
                  simp only [] at hfin
                  have hwo : Go.wpOps P (S.rc :: S.l).toArray (fun e a' w' => e = .normal ∧ a'.defers = [] ∧ a'.tmps.size = b0.tmps.size ∧ ∃ ρ5, Stp X pd ρ3 H3 w3 ρ5 H5 w' ∧ TR X ρ5 t5 a'.tmps) (List.range' 1 S.l.length) (b0.put S.rc.dst .nilIface) w3 := by
                    refine seq_sound hok hcall hnm S.l 1 ml _ t5 H3 H5 ρ3 _ w3 (fun i o hi => ?_) S.hml ho q3.hr ((hG.le p3.le).le q3.le) hT3 (by rw [put_size]; exact hszD) (fun ρ5 a5 w5 s1 s2 s3 s4 => ⟨rfl, by rw [s3, put_defers, hdb], by rw [s4, put_size], ρ5, s1, s2⟩)
                    rw [List.getElem?_toArray, Nat.add_comm 1 i, List.getElem?_cons_succ]; exact hi
                  have hws := wpOpsS_of_wpOps (cs := c₀ :: fs) (by rintro ⟨_, _, h, _⟩; cases h) _ _ _ hwo
                  have monoS : ∀ {QA QB : Go.Exit → Go.Act → List Go.Frame → World → Prop}, (∀ e a cs w, QA e a cs w → QB e a cs w) → ∀ (l : List Nat) (a : Go.Act) (cs : List Go.Frame) (w : World), Go.wpOpsS P (S.rc :: S.l).toArray QA l a cs w → Go.wpOpsS P (S.rc :: S.l).toArray QB l a cs w := by
                    intro QA QB hAB l
                    induction l with
                    | nil => intro a cs w h; exact hAB _ _ _ _ h
                    | cons i l ih =>
                      intro a cs w h
                      simp only [Go.wpOpsS] at h ⊢
                      split
                      · rename_i hn; rw [hn] at h; exact ih _ _ _ h
                      · rename_i o hn
                        rw [hn] at h
                        simp only [] at h
                        split
                        · rename_i hw
                          rw [if_pos hw] at h
                          split at h
                          · split at h
                            · exact ih _ _ _ h
                            · exact ih _ _ _ h
                          · rename_i r hr
                            generalize (Go.execOp a.eval o).run P w = rr at *
                            cases rr with
                            | ok n w' =>
                              cases n <;> simp only [Go.Oper.upon] at h ⊢
                              case value v => exact ih _ _ _ h
                              case skip => exact ih _ _ _ h
                              case defer d => exact ih _ _ _ h
                              case enter f args =>
                                refine h.mono (fun e w'' he => ?_)
                                cases e with
                                | returned v => exact ih _ _ _ he
                                | panicked c => exact hAB _ _ _ _ he
                                | outgrown => obtain ⟨x, y, z⟩ := he; exact ⟨x, y, hAB _ _ _ _ z⟩
                              case row row args => exact h.mono (fun v w'' he => ih _ _ _ he)
                            | halt x w' =>
                              cases x <;> simp only [Go.Oper.upon] at h ⊢
                              case panic v => exact hAB _ _ _ _ h
                        · rename_i hw
                          rw [if_neg hw] at h
                          exact ih _ _ _ h
                  refine monoS (fun e a5 cs5 w5 hh => ?_) _ _ _ _ hws
                  obtain ⟨hcs5, he5, d5, z5, ρ5, s1, s2⟩ := hh
                  subst he5 hcs5
                  simp only [Go.Exit.thenS]
                  have fin2 : ∀ (a6 : Go.Act) (w6 : World) (ρ6 : Rho) (t6 : T3 AV) (H6 : Hp), a6.defers = [] → Stp X pd ρ3 H3 w3 ρ6 H6 w6 → TR X ρ6 t6 a6.tmps → rvs t6 H6 drs = some u → H6 = H4 →
                      a6.defers = [] ∧ ∃ u', c₀ :: fs = { c₀ with mode := u' } :: fs ∧ ∃ v', (Go.results S.fd a6.tmps).run P w6 = .ok v' w6 ∧ u' = .returning ∧ (∃ v'', Go.Ending.returned v' = .returned v'') ∧ ∃ ρ4, Stp X pd ρ3 H3 w3 ρ4 H4 w6 := by
                    intro a6 w6 ρ6 t6 H6 d6 r3 r4 hvs hH6
                    subst hH6
                    obtain ⟨v', g1, g2⟩ := rvs_sound (P := P) r3.hr r4 S.hdrs hvs
                    refine ⟨d6, .returning, ?_, v', g1, rfl, ⟨v', rfl⟩, ρ6, r3⟩
                    congr 1
                    rw [← hc0]
                  have hG3 := (hG.le p3.le).le q3.le
                  have hno5 : Code.ev E call cd t5 H5 ≠ .no := by
                    intro e; rw [e] at hfin; simp [finish] at hfin
                  refine Go.wpS_of_wp (Go.wp_mono (code_sound (a := a5) hmix hok hcall hnm S.hntD S.d cd S.hcd pd ρ5 H5 w5 t5 _ s1.hr (hG3.le s1.le) s2 (by rw [z5]; exact hszD) rfl hno5) (fun e a6 w6 hp => ?_))
                  obtain ⟨r1, r2, ρ6, t6, H6, r3, r4, r5⟩ := hp
                  rcases r5 with ⟨r5, rfl⟩ | ⟨id, r5, rfl⟩ | ⟨r5, rfl⟩
                  · rw [r5] at hfin
                    simp only [] at hfin
                    simp only [Go.Exit.thenS]
                    have hno6 : Code.ev E call cd2 t6 H6 ≠ .no := by
                      intro e; rw [e] at hfin; simp [finish] at hfin
                    refine Go.wpS_of_wp (Go.wp_mono (code_sound (a := a6) hmix hok hcall hnm S.hntD S.d2 cd2 S.hcd2 pd ρ6 H6 w6 t6 _ r3.hr ((hG3.le s1.le).le r3.le) r4 (by rw [r2, z5]; exact hszD) rfl hno6) (fun e a7 w7 hp => ?_))
                    obtain ⟨x1, x2, ρ7, t7, H7, x3, x4, x5⟩ := hp
                    rcases x5 with ⟨x5, rfl⟩ | ⟨id, x5, rfl⟩ | ⟨x5, rfl⟩
                    · rw [x5] at hfin
                      simp only [finish] at hfin
                      split at hfin
                      · rename_i u0 hu0
                        simp only [Rr.ok.injEq] at hfin
                        exact fin2 a7 w7 ρ7 t7 H7 (by rw [x1, r1, d5]) ((s1.trans r3).trans x3) x4 (by rw [hu0, hfin.1]) hfin.2
                      · cases hfin
                    · rw [x5] at hfin; simp [finish] at hfin
                    · rw [x5] at hfin
                      simp only [finish] at hfin
                      split at hfin
                      · rename_i u0 hu0
                        simp only [Rr.ok.injEq] at hfin
                        exact fin2 a7 w7 ρ7 t7 H7 (by rw [x1, r1, d5]) ((s1.trans r3).trans x3) x4 (by rw [hu0, hfin.1]) hfin.2
                      · cases hfin
                  · rw [r5] at hfin; simp [finish] at hfin
                  · rw [r5] at hfin
                    simp only [finish] at hfin
                    split at hfin
                    · rename_i u0 hu0
                      simp only [Rr.ok.injEq] at hfin
                      exact fin2 a6 w6 ρ6 t6 H6 (by rw [r1, d5]) (s1.trans r3) r4 (by rw [hu0, hfin.1]) hfin.2
                    · cases hfin
              refine hcD.mono (fun e u' w' he => ?_)
              obtain ⟨rfl, ⟨v', rfl⟩, ρ4, s4⟩ := he
              show Go.Leaves P S.fn a3.tmps _ [] (Go.settle .returning) w'
              have hset : Go.settle .returning = .returning := rfl
              rw [hset]
              obtain ⟨v1, g1, g2⟩ := rvs_sound (P := P) s4.hr (q4.le s4.le) S.hrs hrv
              exact ⟨v1, g1, ρ4, v1, rfl, (p3.trans q3).trans s4, g2⟩
    rw [hfv] at h
    rcases q5 with ⟨q5, rfl⟩ | ⟨id, q5, rfl⟩ | ⟨q5, rfl⟩
    · rw [q5] at h; exact fin h
    · rw [q5] at h; simp [finishD] at h
    · rw [q5] at h; exact fin h
  · cases h
end Ds
namespace Ds
open Go (IntKind Value World Addr MapEntry Program Sem Result Operand TypeId)
mutual
def AV.free : AV → Bool
  | .bool _ | .int _ _ | .str _ | .nilp | .nils | .nilm | .nilf | .nili => true
  | .ifc _ v => AV.free v
  | .agg l => AV.frees l
  | .tup l => AV.frees l
  | _ => false
def AV.frees : List AV → Bool
  | [] => true
  | a :: l => AV.free a && AV.frees l
end
mutual
theorem VR.free {X : Cx} {ρ ρ' : Rho} : ∀ {a : AV} {v : Value}, VR X ρ a v → AV.free a = true → VR X ρ' a v
  | _, _, .any v, h => by simp [AV.free] at h
  | _, _, .bool b, _ => .bool b
  | _, _, .int k e n w x, _ => .int k e n w x
  | _, _, .str s b w x, _ => .str s b w x
  | _, _, .nilp, _ => .nilp
  | _, _, .ptr .., h => by simp [AV.free] at h
  | _, _, .nils, _ => .nils
  | _, _, .sl .., h => by simp [AV.free] at h
  | _, _, .su .., h => by simp [AV.free] at h
  | _, _, .buf .., h => by simp [AV.free] at h
  | _, _, .nilm, _ => .nilm
  | _, _, .map .., h => by simp [AV.free] at h
  | _, _, .nilf, _ => .nilf
  | _, _, .func .., h => by simp [AV.free] at h
  | _, _, .meth .., h => by simp [AV.free] at h
  | _, _, .nili, _ => .nili
  | _, _, .ifc t v x k, h => .ifc t v x (VR.free k (by simpa [AV.free] using h))
  | _, _, .agg l vs k, h => .agg l vs (VRs.free k (by simpa [AV.free] using h))
  | _, _, .tup l vs k, h => .tup l vs (VRs.free k (by simpa [AV.free] using h))
theorem VRs.free {X : Cx} {ρ ρ' : Rho} : ∀ {l : List AV} {vs : List Value}, VRs X ρ l vs → AV.frees l = true → VRs X ρ' l vs
  | _, _, .nil, _ => .nil
  | _, _, .cons a l v vs k m, h => by
    simp only [AV.frees, Bool.and_eq_true] at h
    exact .cons _ _ _ _ (VR.free k h.1) (VRs.free m h.2)
end
noncomputable def emptyH : Hp := .mk (T5.all .none) (P5.ofNat 64)
theorem emptyH_get (id : P5) : emptyH.get id = .none := get5_all _ _
theorem emptyH_nx : emptyH.nx.num = 64 := by show (P5.ofNat 64).num = 64; rw [P5.num_ofNat (by decide)]
theorem HR.empty {X : Cx} {ρ : Rho} {w : World} (hb : ∀ id B base C, ρ id = some (B, base, C) → B < w.heap.size) (hfx : ∀ b o, X.fix b = some o → w.heap[b]? = some o) : HR X (fun _ => False) (fun id => if id.num < 64 then ρ id else none) emptyH w where
  obj id := by rw [emptyH_get]; trivial
  inj i j hi := absurd (emptyH_get i) hi
  fresh id h := by
    rw [emptyH_nx] at h
    exact ⟨if_neg (by omega), fun hl => hl (emptyH_get id)⟩
  below id B base C e := by
    by_cases c : id.num < 64
    · simp only [c, if_true] at e; exact hb id B base C e
    · simp only [c, if_false] at e; cases e
  pend id h := h.elim
  fixd b o e := ⟨hfx b o e, fun id hl => absurd (emptyH_get id) hl, fun id h => h.elim⟩
noncomputable def memoF : List (List AV × AV) → List AV → Option AV
  | [], _ => none
  | (a, v) :: l, as => match AV.eqbs a as with | true => some v | false => memoF l as
theorem memoF_mem : ∀ {l : List (List AV × AV)} {as : List AV} {v : AV}, memoF l as = some v → (as, v) ∈ l
  | (a, u) :: l, as, v, h => by
    simp only [memoF] at h
    cases he : AV.eqbs a as with
    | true => rw [he] at h; cases h; rw [AV.eqbs_eq _ _ he]; exact List.mem_cons_self ..
    | false => rw [he] at h; exact List.mem_cons_of_mem _ (memoF_mem h)
end Ds
namespace Ds
open Go (IntKind Value World Addr MapEntry Program Sem Result Operand TypeId)
def methF : List (Nat × Nat × Nat) → Nat → Nat → Option Nat
  | [], _, _ => none
  | (a, b, f) :: l, i, m => match Nat.beq a i with
    | true => (match Nat.beq b m with | true => some f | false => methF l i m)
    | false => methF l i m
theorem methF_mem : ∀ {l : List (Nat × Nat × Nat)} {i m f : Nat}, methF l i m = some f → (i, m, f) ∈ l
  | (a, b, g) :: l, i, m, f, h => by
    simp only [methF] at h
    cases h1 : Nat.beq a i with
    | false => rw [h1] at h; exact List.mem_cons_of_mem _ (methF_mem h)
    | true =>
      rw [h1] at h
      cases h2 : Nat.beq b m with
      | false => rw [h2] at h; exact List.mem_cons_of_mem _ (methF_mem h)
      | true => rw [h2] at h; cases h; rw [nbeq.1 h1, nbeq.1 h2]; exact List.mem_cons_self ..
def rowOk (P : Program) (names : List String) (r : Nat × Nat × Nat) : Bool :=
  match P.info? r.1 with
  | some ti => match ti.methods.find? (·.name == names.getD r.2.1 "") with
    | some me => me.path.isEmpty && (match me.func with | some (f, p) => f == r.2.2 && p | none => false) && (match P.underlying r.1 with | some (.pointer _) => true | _ => false)
    | none => false
  | none => false
theorem env_ok {P : Program} {X : Cx} {E : Env} {names : List String} {rows : List (Nat × Nat × Nat)} (hn : X.nm = fun i => names.getD i "") (hm : E.meths = methF rows) (hfacts : Facts X.σ E.facts) (hix : E.ix = fun _ _ => none) (hsl : E.sl = fun _ _ _ => none) (hsoft : E.soft = fun _ _ => none) (h : ∀ r ∈ rows, rowOk P names r = true) : EnvOk P X E where
  facts := hfacts
  ix s i c _ h := by rw [hix] at h; cases h
  sl s a b r _ h := by rw [hsl] at h; cases h
  soft f xs v h := by rw [hsoft] at h; cases h
  meths t m f e := by
    rw [hm] at e
    have hr := h _ (methF_mem e)
    unfold rowOk at hr
    simp only [] at hr
    split at hr
    · rename_i ti hti
      split at hr
      · rename_i me hme
        simp only [Bool.and_eq_true] at hr
        obtain ⟨⟨h1, h2⟩, h3⟩ := hr
        split at h2
        · rename_i g p hg
          simp only [Bool.and_eq_true, beq_iff_eq] at h2
          split at h3
          · rename_i e' he
            exact ⟨ti, me, e', hti, by rw [hn]; exact hme, by simpa using h1, by rw [hg, h2.1, h2.2], he⟩
          · cases h3
        · cases h2
      · cases hr
    · cases hr
end Ds
namespace Ds
open Go (Program)
def tieOk (P : Program) (f : Nat) : Bool := match P.funcs[f]? with
  | some fn => !(fn.name == "runtime.NumGoroutine")
  | none => false
theorem code_ok {P : Program} {X : Cx} {E : Env} {names : List String} {f : Nat} {rs : List Rv} {c : Code} {F : Fun} (hF : F = .code rs c)
    (h : (P.funcs[f]?).map (fun fn => cFun P names fn) = some (some F)) (hn : tieOk P f = true) : FunOk P X E names f F := by
  subst hF
  simp only [Option.map_eq_some_iff] at h
  obtain ⟨fn, h1, h2⟩ := h
  refine ⟨fn, h1, ?_, h2⟩
  unfold tieOk at hn
  rw [h1] at hn
  simpa using hn
end Ds
