/- The deterministic evaluator D and what is proved with it, part CoreC of the claim on YtpopgcbejolepaaGreatDoor. -/
import Derived.Test.YtpopgcbejolepaaGreatDoorCoreB
import Derived.Laws.AppendOwn
import Derived.Orders
namespace Ds
open Go (IntKind Value World Addr MapEntry Program Sem Result Operand TypeId)
section
variable {P : Program} {X : Cx} {E : Env} {pd : P5 → Prop} {ρ : Rho} {H : Hp} {w : World}
theorem zeroL_VR {t : TypeId} {z : List AV} (h : zeroL P t = some z) : ∃ i u, P.info? t = some i ∧ i.zero = some u ∧ VRs X ρ z u.cells.toList := by
  unfold zeroL at h
  simp only [Option.bind_eq_bind, Option.bind_eq_some_iff] at h
  obtain ⟨i, hi, u, hu, hv⟩ := h
  exact ⟨i, u, hi, hu, valsAV_VR X ρ _ _ hv⟩
theorem newCells_sound (hH : HR X pd ρ H w) {l : List AV} {vs : List Value} (hv : VRs X ρ l vs) {id : P5} {H' : Hp} (hn : H.newCells l = some (id, H')) (el : TypeId) :
    ∃ ρ', Stp X pd ρ H w ρ' H' (w.alloc (.cells vs.toArray el)) ∧ ρ' id = some (w.heap.size, 0, vs.length) := by
  unfold Hp.newCells at hn
  cases hb : Nat.ble l.length maxCells with
  | false => rw [hb] at hn; cases hn
  | true =>
    rw [hb] at hn
    simp only [] at hn
    have hlen := hv.length
    refine ⟨ρ.upd id (w.heap.size, 0, vs.length), HR.alloc hH hn (.cells vs.toArray el) vs.length (fun ρ' e hle hid hw => ?_), Rho.upd_self _ _ _⟩
    refine ⟨w.heap.size, 0, vs.length, vs.toArray, el, hid, hw, by simp, by omega, ble_true.1 hb, fun j hj => ?_⟩
    obtain ⟨v, hv1, hv2⟩ := (hv.le hle).get' j (l.getD j .any) (by simp [List.getD, List.getElem?_eq_getElem hj])
    refine ⟨v, by simpa using hv1, ?_⟩
    rw [Cells.get_ofl l (ble_true.1 hb) j hj]
    exact hv2
theorem allOne_one : ∀ {l : List AV} {vs : List Value}, VRs X ρ l vs → allOne l = true → ∀ v ∈ vs, v.oneCell' = true
  | [], vs, h, _, v, hv => by cases h; cases hv
  | a :: l, vs, h, ho, v, hv => by
    cases h with
    | cons _ _ u us r h =>
    simp only [allOne] at ho
    cases h1 : a.one with
    | false => rw [h1] at ho; cases ho
    | true =>
      rw [h1] at ho
      rw [List.mem_cons] at hv
      rcases hv with rfl | hv
      · cases r <;> simp only [AV.one, Bool.false_eq_true] at h1 <;> rfl
      · exact allOne_one h ho v hv
theorem put_sound (hH : HR X pd ρ H w) {id : P5} {off n : Nat} {l : List AV} {vs : List Value} {H' : Hp} (hp : H.put id off n l = some H') (hv : VRs X ρ l vs) (hn : vs.length = n) (h1 : ∀ v ∈ vs, v.oneCell' = true)
    {B base C : Nat} (e : ρ id = some (B, base, C)) : ∃ w', (Go.storeCells ⟨B, base + off, none⟩ vs).run P w = .ok () w' ∧ Stp X pd ρ H w ρ H' w' := by
  have ho := hH.obj id
  have key : ∀ (m : Nat) (c : Cells) (mk : Nat → Cells → Obj) (arr : Array Value) (el : TypeId), (mk = .cells ∨ mk = .grown) → H.get id = mk m c → w.heap[B]? = some (.cells arr el (0, 0)) → base + C ≤ arr.size → m ≤ C → m ≤ maxCells →
      (∀ j, j < m → ∃ v, arr[base + j]? = some v ∧ VR X ρ (c.get j) v) → off + n ≤ m → H' = H.set id (mk m (Cells.setl c off l)) →
      ∃ w', (Go.storeCells ⟨B, base + off, none⟩ vs).run P w = .ok () w' ∧ Stp X pd ρ H w ρ H' w' := by
    intro m c mk arr el hmk hg hb hs hm hmax hj hle hH'
    subst hH'
    have hlen := hv.length
    have hrun := Go.run_storeCells_at P B (base + off) el vs 0 arr w hb (by omega) h1
    simp only [Nat.add_zero] at hrun
    refine ⟨_, hrun, ?_⟩
    have hlive : Live H id := by unfold Live; rw [hg]; rcases hmk with rfl | rfl <;> simp
    have hrow := Go.setRow_heap w B arr (arr.toList.take (base + off) ++ vs ++ arr.toList.drop (base + off + vs.length)).toArray el (0, 0) hb
    have hget : ∀ j, (arr.toList.take (base + off) ++ vs ++ arr.toList.drop (base + off + vs.length)).toArray[base + j]? = if off ≤ j ∧ j < off + vs.length then vs[j - off]? else arr[base + j]? := by
      intro j
      have ha : arr.toList.length = arr.size := by simp
      simp only [List.getElem?_toArray, List.append_assoc]
      by_cases c1 : j < off
      · rw [List.getElem?_append_left (by simp; omega), if_neg (by omega), List.getElem?_take_of_lt (by omega)]
        simp
      · rw [List.getElem?_append_right (by simp; omega)]
        have hl : (List.take (base + off) arr.toList).length = base + off := by simp; omega
        rw [hl]
        by_cases c2 : j < off + vs.length
        · rw [if_pos (by omega), List.getElem?_append_left (by omega)]
          congr 1; omega
        · rw [if_neg (by omega), List.getElem?_append_right (by omega), List.getElem?_drop]
          rw [Array.getElem?_toList]
          congr 1; omega
    refine HR.upd hH hlive (by simp [Rho.blk, e]) (fun k hk => Go.setRow_other w B k _ hk) (Go.setRow_size _ _ _) rfl rfl rfl ?_ (by rcases hmk with rfl | rfl <;> simp)
    have hobj : ∃ B base C arr' el', ρ id = some (B, base, C) ∧ (w.setRow B (arr.toList.take (base + off) ++ vs ++ arr.toList.drop (base + off + vs.length)).toArray).heap[B]? = some (.cells arr' el' (0, 0)) ∧ base + C ≤ arr'.size ∧ m ≤ C ∧ m ≤ maxCells ∧ ∀ j, j < m → ∃ v, arr'[base + j]? = some v ∧ VR X ρ ((Cells.setl c off l).get j) v := by
      refine ⟨B, base, C, _, el, e, hrow, by simp; omega, hm, hmax, fun j hjm => ?_⟩
      have hmx : maxCells = 32768 := rfl
      rw [hget j, Cells.get_setl l c off (by omega) j (by omega)]
      by_cases c1 : off ≤ j ∧ j < off + vs.length
      · rw [if_pos c1, if_pos (by omega)]
        have hjl : j - off < l.length := by omega
        obtain ⟨v, hv1, hv2⟩ := hv.get' (j - off) (l.getD (j - off) .any) (by simp [List.getD, List.getElem?_eq_getElem hjl])
        exact ⟨v, hv1, hv2⟩
      · rw [if_neg c1, if_neg (by omega)]
        exact hj j hjm
    rcases hmk with rfl | rfl
    · obtain ⟨B0, b0, C0, arr', el', g1, g2⟩ := hobj
      have : (B0, b0, C0) = (B, base, C) := by rw [e] at g1; exact (Option.some.inj g1).symm
      cases this
      exact ⟨B, base, C, arr', el', e, g2⟩
    · obtain ⟨B0, b0, C0, arr', el', g1, g2⟩ := hobj
      have : (B0, b0, C0) = (B, base, C) := by rw [e] at g1; exact (Option.some.inj g1).symm
      cases this
      exact ⟨B, base, C, arr', el', e, g2⟩
  unfold Hp.put at hp
  cases hx : H.get id with
  | cells m c =>
    rw [hx] at hp ho
    obtain ⟨B', base', C', arr, el, e', hb, hs, hm, hmax, hj⟩ := ho
    rw [e] at e'; cases e'
    simp only [] at hp
    cases hl : Nat.ble (Nat.add off n) m with
    | false => rw [hl] at hp; cases hp
    | true => rw [hl] at hp; cases hp; exact key m c .cells arr el (.inl rfl) hx hb hs hm hmax hj (ble_true.1 hl) rfl
  | grown m c =>
    rw [hx] at hp ho
    obtain ⟨B', base', C', arr, el, e', hb, hs, hm, hmax, hj⟩ := ho
    rw [e] at e'; cases e'
    simp only [] at hp
    cases hl : Nat.ble (Nat.add off n) m with
    | false => rw [hl] at hp; cases hp
    | true => rw [hl] at hp; cases hp; exact key m c .grown arr el (.inr rfl) hx hb hs hm hmax hj (ble_true.1 hl) rfl
  | none => rw [hx] at hp; cases hp
  | bytes s => rw [hx] at hp; cases hp
  | map es => rw [hx] at hp; cases hp
  | iter l pos => rw [hx] at hp; cases hp
def Comes2 (_P : Program) (X : Cx) (pd : P5 → Prop) (ρ : Rho) (H : Hp) (w : World) (r : Result Go.Next) (v : AV) (H' : Hp) : Prop :=
  ∃ ρ' w' v', (r = .ok (.value v') w' ∨ (r = .ok .skip w' ∧ v' = Go.undef)) ∧ Stp X pd ρ H w ρ' H' w' ∧ VR X ρ' v v'
theorem comes2_v {s : Sem Value} {v : AV} {H' : Hp} (h : ∃ ρ' w' v', s.run P w = .ok v' w' ∧ Stp X pd ρ H w ρ' H' w' ∧ VR X ρ' v v') : Comes2 P X pd ρ H w ((do pure (.value (← s)) : Sem Go.Next).run P w) v H' := by
  obtain ⟨ρ', w', v', h1, h2, h3⟩ := h
  exact ⟨ρ', w', v', .inl (by simp [h1]), h2, h3⟩
theorem comes2_u {s : Sem Unit} {H' : Hp} (h : ∃ ρ' w', s.run P w = .ok () w' ∧ Stp X pd ρ H w ρ' H' w') : Comes2 P X pd ρ H w ((do s; pure .skip : Sem Go.Next).run P w) undef H' := by
  obtain ⟨ρ', w', h1, h2⟩ := h
  exact ⟨ρ', w', Go.undef, .inr ⟨by simp [h1], rfl⟩, h2, .tup [] [] .nil⟩
theorem alloc_sound (hH : HR X pd ρ H w) {t : TypeId} {z : List AV} (hz : zeroL P t = some z) {v : AV} {H' : Hp} (hq : lNew H z = some (v, H')) :
    ∃ ρ' w' v', (Go.Instr.alloc t true (.tuple #[])).run P w = .ok v' w' ∧ Stp X pd ρ H w ρ' H' w' ∧ VR X ρ' v v' := by
  unfold lNew at hq
  cases hn : H.newCells z with
  | none => rw [hn] at hq; cases hq
  | some x =>
    obtain ⟨id, H1⟩ := x
    rw [hn] at hq; cases hq
    obtain ⟨i, u, hi, hu, hv⟩ := zeroL_VR (X := X) (ρ := ρ) hz
    obtain ⟨ρ', hs, he⟩ := newCells_sound hH hv hn t
    refine ⟨ρ', _, .pointer (some ⟨w.heap.size, 0, none⟩), ?_, hs, .ptr _ 0 _ 0 _ he⟩
    simp [Go.Instr.alloc, Go.zeroValue, Go.typeInfo, hi, hu, Go.newVar, Go.newRow]
theorem box_sound (hH : HR X pd ρ H w) {t : TypeId} {x : AV} {vx : Value} (rx : VR X ρ x vx) {l : List AV} (hl : x.cells? = some l) {v : AV} {H' : Hp} (hq : lNew H l = some (v, H')) :
    ∃ ρ' w' v', (Go.Instr.box t vx).run P w = .ok v' w' ∧ Stp X pd ρ H w ρ' H' w' ∧ VR X ρ' v v' := by
  unfold lNew at hq
  cases hn : H.newCells l with
  | none => rw [hn] at hq; cases hq
  | some y =>
    obtain ⟨id, H1⟩ := y
    rw [hn] at hq; cases hq
    obtain ⟨ρ', hs, he⟩ := newCells_sound hH (cells?_VR rx hl) hn t
    refine ⟨ρ', _, .pointer (some ⟨w.heap.size, 0, none⟩), ?_, hs, .ptr _ 0 _ 0 _ he⟩
    simp [Go.Instr.box, Go.newVar, Go.newRow]
theorem st_sound (hH : HR X pd ρ H w) {t : TypeId} {x y : AV} {vx vy : Value} (rx : VR X ρ x vx) (ry : VR X ρ y vy) {n : Nat} (hn : sizeT P t = some n) {v : AV} {H' : Hp} (hq : lSt H x y n = some (v, H')) :
    v = undef ∧ ∃ ρ' w', (Go.Instr.storeAt t vx vy).run P w = .ok () w' ∧ Stp X pd ρ H w ρ' H' w' := by
  cases rx <;> simp only [lSt, reduceCtorEq] at hq
  rename_i id off B base C er
  cases hl : y.cells? with
  | none => rw [hl] at hq; cases hq
  | some l =>
    rw [hl] at hq
    simp only [] at hq
    cases hb : (Nat.beq l.length n && allOne l) with
    | false => rw [hb] at hq; cases hq
    | true =>
      rw [hb] at hq
      simp only [Bool.and_eq_true, nbeq] at hb
      simp only [] at hq
      cases hp : H.put id off n l with
      | none => rw [hp] at hq; cases hq
      | some H1 =>
        rw [hp] at hq; cases hq
        have hv := cells?_VR ry hl
        have hlen := hv.length
        obtain ⟨w', h1, h2⟩ := put_sound (P := P) hH hp hv (by omega) (allOne_one hv hb.2) er
        refine ⟨rfl, ρ, w', ?_, h2⟩
        have hsz : vy.cells.size = n := by simp at hlen; omega
        simp [Go.Instr.storeAt, Go.Instr.sureAddr, Go.storeVar, run_sizeT hn, hsz, h1]
theorem mkmap_sound (hH : HR X pd ρ H w) {t : TypeId} {v : AV} {H' : Hp} (hq : lMkmap H = some (v, H')) :
    ∃ ρ' w' v', (Go.Instr.makeMap t none).run P w = .ok v' w' ∧ Stp X pd ρ H w ρ' H' w' ∧ VR X ρ' v v' := by
  unfold lMkmap at hq
  cases hn : H.new (.map []) with
  | none => rw [hn] at hq; cases hq
  | some y =>
    obtain ⟨id, H1⟩ := y
    rw [hn] at hq; cases hq
    refine ⟨_, _, .map (some w.heap.size), ?_, HR.alloc hH hn (.map #[] 0) 0 (fun ρ' e hle hid hw => ⟨w.heap.size, 0, 0, #[], 0, hid, hw, .nil, .nil⟩), .map _ _ 0 0 (Rho.upd_self _ _ _)⟩
    simp [Go.Instr.makeMap]
theorem rng_sound (hH : HR X pd ρ H w) {x : AV} {vx : Value} (rx : VR X ρ x vx) {t : TypeId} (ht : P.underlying t = some .string) {v : AV} {H' : Hp} (hq : lRng H x = some (v, H')) :
    ∃ ρ' w' v', (Go.Instr.range t vx).run P w = .ok v' w' ∧ Stp X pd ρ H w ρ' H' w' ∧ VR X ρ' v v' := by
  cases rx <;> simp only [lRng, reduceCtorEq] at hq
  rename_i s b ws es
  cases s <;> (try simp only [reduceCtorEq] at hq)
  rename_i l
  cases hn : H.new (.iter l 0) with
  | none => rw [hn] at hq; cases hq
  | some y =>
    obtain ⟨id, H1⟩ := y
    rw [hn] at hq; cases hq
    simp only [SS.ev] at es
    simp only [SS.wf] at ws
    refine ⟨_, _, .pointer (some ⟨w.heap.size, 0, none⟩), ?_, HR.alloc hH hn (.stringIter b 0) 0 (fun ρ' e hle hid hw => ⟨w.heap.size, 0, b, hid, hw, es, ws, Nat.zero_le _⟩), .ptr _ 0 _ 0 _ (Rho.upd_self _ _ _)⟩
    simp [Go.Instr.range, Go.run_underlying ht]
end
end Ds
namespace Ds
open Go (IntKind Value World Addr MapEntry Program Sem Result Operand TypeId)
section
variable {P : Program} {X : Cx} {E : Env} {pd : P5 → Prop} {ρ : Rho} {H : Hp} {w : World}
theorem repl_length (z : List AV) : ∀ n, (repl z n).length = n * z.length
  | 0 => by simp [repl]
  | n + 1 => by simp [repl, repl_length z n, Nat.add_mul, Nat.add_comm]
theorem repl_getD (z : List AV) (hz : 0 < z.length) : ∀ n i, i < n * z.length → (repl z n).getD i .any = z.getD (i % z.length) .any
  | 0, i, h => by simp at h
  | n + 1, i, h => by
    simp only [repl]
    by_cases c : i < z.length
    · rw [Nat.mod_eq_of_lt c, List.getD_eq_getElem?_getD, List.getElem?_append_left c, ← List.getD_eq_getElem?_getD]
    · rw [List.getD_eq_getElem?_getD, List.getElem?_append_right (by omega), ← List.getD_eq_getElem?_getD]
      rw [repl_getD z hz n (i - z.length) (by rw [Nat.add_mul] at h; omega)]
      rw [← Nat.mod_eq_sub_mod (by omega)]
theorem repl_VR {z : List AV} {u : Array Value} (hv : VRs X ρ z u.toList) (n : Nat) : VRs X ρ (repl z n) ((Array.range (n * u.size)).map fun i => u[i % u.size]!).toList := by
  have hl := hv.length
  simp only [Array.length_toList] at hl
  refine VRs.of_get (by simp [repl_length, hl]) (fun i hi => ?_)
  simp only [Array.toList_map, Array.toList_range, List.length_map, List.length_range] at hi
  have hpos : 0 < u.size := by
    rcases Nat.eq_zero_or_pos u.size with h | h
    · rw [h] at hi; simp at hi
    · exact h
  have hm : i % u.size < u.size := Nat.mod_lt _ hpos
  refine ⟨u[i % u.size], ?_, ?_⟩
  · simp [hi, hm]
  · rw [repl_getD z (by omega) n i (by rw [hl]; exact hi), hl]
    exact hv.get _ _ (by simp [hm])
theorem zero_run {t : TypeId} {i : Go.TypeInfo} {u : Value} (hi : P.info? t = some i) (hu : i.zero = some u) : (Go.zeroValue t).run P w = .ok u w := by
  simp [Go.zeroValue, Go.typeInfo, hi, hu]
theorem bsl_sound (hH : HR X pd ρ H w) (hG : GR P ρ) {t : T3 AV} {a : Go.Act} (hT : TR X ρ t a.tmps) {ty e : TypeId} (ht : P.underlying ty = some (.slice e)) {n : Nat} (hn : sizeT P e = some n) {z : List AV} (hz : zeroL P e = some z) {len : Nat}
    (h1 : z.length = n) (h2 : len * n ≤ 4096) {ps : Array (Nat × Operand)} {qs : List (Nat × Nat × Opn)} (hp : cParts P (fun i => some (i * n, n)) ps.toList = some qs) {l : List AV} (hf : fillP t (repl z len) qs = some l) {v : AV} {H' : Hp} (hq : lBsl H len l = some (v, H')) :
    ∃ ρ' w' v', (Go.Instr.buildSlice ty len (ps.map fun x => (x.1, a.eval x.2))).run P w = .ok v' w' ∧ Stp X pd ρ H w ρ' H' w' ∧ VR X ρ' v v' := by
  unfold lBsl at hq
  cases hnc : H.newCells l with
  | none => rw [hnc] at hq; cases hq
  | some y =>
    obtain ⟨id, H1⟩ := y
    rw [hnc] at hq; cases hq
    obtain ⟨i, u, hi, hu, hv⟩ := zeroL_VR (X := X) (ρ := ρ) hz
    have hus : u.cells.size = n := by have := hv.length; simp at this; omega
    obtain ⟨cells', hfill, hr⟩ := fill_VR hT hG (fun i => some (i * n, n)) ps.toList qs (repl z len) ((Array.range (len * n)).map fun i => u.cells[i % u.cells.size]!) l hp (by have := repl_VR hv len; rw [hus] at this ⊢; exact this) hf
    obtain ⟨ρ', hs, he⟩ := newCells_sound hH hr hnc e
    refine ⟨ρ', _, .slice (some ⟨w.heap.size, 0, none⟩) len len, ?_, hs, .sl _ 0 _ _ _ 0 _ he (Nat.le_refl _)⟩
    have hps : (ps.map fun x => (x.1, a.eval x.2)).toList = ps.toList.map fun x => (x.1, a.eval x.2) := by simp
    have h24 : ¬ (len * n > 2 ^ 24) := by omega
    by_cases h0 : len * n = 0
    · have hfill0 : Go.Instr.fill (fun i => some (i * n, n)) #[] (ps.toList.map fun x => (x.1, a.eval x.2)) = some cells' := by
        rw [← hfill]; congr 1; rw [h0]; exact (Array.map_empty).symm
      have hr0 : ∀ f : Nat → Value, (Array.range 0).map f = #[] := fun f => Array.map_empty
      simp only [Go.Instr.buildSlice, Sem.run_bind, Go.run_underlying ht, Result.andThen_ok, run_sizeT hn, if_neg h24, if_pos h0, Sem.run_pure, hps]
      rw [h0, hr0, hfill0]
      simp [Go.newRow]
    · simp only [Go.Instr.buildSlice, Sem.run_bind, Go.run_underlying ht, Result.andThen_ok, run_sizeT hn, if_neg h24, if_neg h0, zero_run hi hu, Sem.run_pure, hps, hfill]
      simp [Go.newRow]
theorem mksl_sound (hH : HR X pd ρ H w) {ty e : TypeId} (ht : P.underlying ty = some (.slice e)) {i : Go.TypeInfo} (hi : P.info? e = some i) {z : List AV} (hz : zeroL P e = some z) (h1 : z.length = i.size) (h0 : z.length ≠ 0)
    {x y : AV} {vx vy : Value} (rx : VR X ρ x vx) (ry : VR X ρ y vy) {v : AV} {H' : Hp} (hq : lMksl H z i.bytes x y = some (v, H')) :
    ∃ ρ' w' v', (Go.Instr.makeSlice ty vx vy).run P w = .ok v' w' ∧ Stp X pd ρ H w ρ' H' w' ∧ VR X ρ' v v' := by
  unfold lMksl at hq
  cases hx : x.nat? with
  | none => rw [hx] at hq; cases hq
  | some a =>
    cases hy : y.nat? with
    | none => rw [hx, hy] at hq; cases hq
    | some b =>
      rw [hx, hy] at hq
      simp only [] at hq
      cases hb : (Nat.ble a b && Nat.ble b maxCells && Nat.ble i.bytes 1048576) with
      | false => rw [hb] at hq; cases hq
      | true =>
        rw [hb] at hq
        simp only [Bool.and_eq_true, ble_true] at hb
        obtain ⟨⟨b1, b2⟩, b3⟩ := hb
        simp only [] at hq
        cases hn : H.newCells (repl z b) with
        | none => rw [hn] at hq; cases hq
        | some q =>
          obtain ⟨id, H1⟩ := q
          rw [hn] at hq; cases hq
          obtain ⟨ka, rfl⟩ := nat?_VR rx hx
          obtain ⟨kb, rfl⟩ := nat?_VR ry hy
          obtain ⟨i', u, hi', hu, hv⟩ := zeroL_VR (X := X) (ρ := ρ) hz
          rw [hi] at hi'; cases hi'
          have hus : u.cells.size = i.size := by have := hv.length; simp at this; omega
          obtain ⟨ρ', hs, he⟩ := newCells_sound hH (repl_VR hv b) hn e
          refine ⟨ρ', _, .slice (some ⟨w.heap.size, 0, none⟩) a b, ?_, hs, .sl _ 0 _ _ _ 0 _ he b1⟩
          have hmx : maxCells = 32768 := rfl
          have w1 : IntKind.i64.wrap (a : Int) = a := wrap_in _ (by omega) (by omega)
          have w2 : IntKind.i64.wrap (b : Int) = b := wrap_in _ (by omega) (by omega)
          have hbig : (i.bytes : Int) * b ≤ 281474976710656 := by
            have h1 : i.bytes * b ≤ 34359738368 := Nat.le_trans (Nat.mul_le_mul b3 (show b ≤ 32768 by omega)) (by decide)
            have h2 : (i.bytes : Int) * b = ((i.bytes * b : Nat) : Int) := by rw [Int.natCast_mul]
            omega
          have hbig2 : (i.bytes : Int) * a ≤ 281474976710656 := by
            have h1 : i.bytes * a ≤ 34359738368 := Nat.le_trans (Nat.mul_le_mul b3 (show a ≤ 32768 by omega)) (by decide)
            have h2 : (i.bytes : Int) * a = ((i.bytes * a : Nat) : Int) := by rw [Int.natCast_mul]
            omega
          have c1 : (decide ((b : Int) < 0) || decide ((i.bytes : Int) * b > 2 ^ 48) || decide ((a : Int) < 0) || decide ((a : Int) > b)) = false := by
            simp only [Bool.or_eq_false_iff, decide_eq_false_iff_not]
            refine ⟨⟨⟨by omega, by omega⟩, by omega⟩, by omega⟩
          have hsz : (Go.sizeOf e).run P w = .ok i.size w := by simp [Go.sizeOf, Go.typeInfo, hi]
          have hti : (Go.typeInfo e).run P w = .ok i w := by simp [Go.typeInfo, hi]
          have hzr := zero_run (w := w) hi hu
          by_cases hz0 : b * i.size = 0
          · have hb0 : b = 0 := by
              rcases Nat.mul_eq_zero.1 hz0 with h | h
              · exact h
              · omega
            subst hb0
            have : a = 0 := by omega
            subst this
            have w0 : IntKind.i64.wrap 0 = 0 := by simpa using w1
            have hr0 : ∀ f : Nat → Value, (Array.range 0).map f = #[] := fun f => Array.map_empty
            simp [Go.Instr.makeSlice, Go.run_underlying ht, Go.asInt, Go.asIntOf, hti, hsz, w0, Go.newRow, hr0]
          · simp only [Go.Instr.makeSlice, Sem.run_bind, Go.run_underlying ht, Result.andThen_ok, Go.asInt, Go.asIntOf, Sem.run_pure, hti, w1, w2]
            rw [if_neg (by rw [c1]; simp)]
            simp only [Sem.run_bind, Sem.run_pure, Result.andThen_ok, Go.run_askRoom, hsz, Int.toNat_natCast, if_neg hz0, hzr, hus]
            simp [Go.newRow]
            congr 2
            apply Array.ext'
            simp
theorem mkslX_sound {E : Env} (hok : EnvOk P X E) (hH : HR X pd ρ H w) {ty e : TypeId} (ht : P.underlying ty = some (.slice e)) {i : Go.TypeInfo} (hi : P.info? e = some i) {z : List AV} (hz : zeroL P e = some z) (h1 : z.length = i.size) (h0 : z.length ≠ 0)
    {x y : AV} {vx vy : Value} (rx : VR X ρ x vx) (ry : VR X ρ y vy) {v : AV} {H' : Hp} (hq : lMkslX E H i.bytes x y = some (v, H')) :
    ∃ ρ' w' v', (Go.Instr.makeSlice ty vx vy).run P w = .ok v' w' ∧ Stp X pd ρ H w ρ' H' w' ∧ VR X ρ' v v' := by
  unfold lMkslX at hq
  split at hq
  · rename_i a b
    cases hb : (SI.eqb a b && Nat.ble i.bytes 1048576) with
    | false => rw [hb] at hq; cases hq
    | true =>
      rw [hb] at hq
      simp only [Bool.and_eq_true, ble_true] at hb
      obtain ⟨b1, b3⟩ := hb
      simp only [] at hq
      split at hq
      · rename_i d1
        split at hq
        · rename_i d2
          cases hn : H.new .none with
          | none => rw [hn] at hq; cases hq
          | some q =>
            obtain ⟨id, H1⟩ := q
            rw [hn] at hq; cases hq
            have e1 := decLtI_ev hok.facts d1
            have e2 := decLtI_ev hok.facts d2
            have e3 := SI.eqb_ev X.σ _ _ b1
            cases rx with
            | int _ _ nx wa hx =>
              cases ry with
              | int _ _ ny wb hy =>
                have hxy : ny = nx := by rw [hx, hy, e3]
                subst hxy
                have l1 : ¬ (a.ev X.σ < 0) := of_decide_eq_false e1.symm
                have l2 : ¬ ((1024 : Int) < a.ev X.σ) := of_decide_eq_false e2.symm
                obtain ⟨m, hm⟩ : ∃ m : Nat, ny = (m : Int) := ⟨ny.toNat, by rw [hx]; omega⟩
                have hm1 : m ≤ 1024 := by rw [hx] at hm; omega
                subst hm
                obtain ⟨i', u, hi', hu, hv⟩ := zeroL_VR (X := X) (ρ := ρ) hz
                rw [hi] at hi'; cases hi'
                have hus : u.cells.size = i.size := by have := hv.length; simp at this; omega
                have w1 : IntKind.i64.wrap (m : Int) = m := wrap_in _ (by omega) (by omega)
                have hbig : (i.bytes : Int) * m ≤ 281474976710656 := by
                  have h1 : i.bytes * m ≤ 34359738368 := Nat.le_trans (Nat.mul_le_mul b3 (show m ≤ 32768 by omega)) (by decide)
                  have h2 : (i.bytes : Int) * m = ((i.bytes * m : Nat) : Int) := by rw [Int.natCast_mul]
                  omega
                have c1 : (decide ((m : Int) < 0) || decide ((i.bytes : Int) * m > 2 ^ 48) || decide ((m : Int) < 0) || decide ((m : Int) > m)) = false := by
                  simp only [Bool.or_eq_false_iff, decide_eq_false_iff_not]
                  refine ⟨⟨⟨by omega, by omega⟩, by omega⟩, by omega⟩
                have hsz : (Go.sizeOf e).run P w = .ok i.size w := by simp [Go.sizeOf, Go.typeInfo, hi]
                have hti : (Go.typeInfo e).run P w = .ok i w := by simp [Go.typeInfo, hi]
                have hzr := zero_run (w := w) hi hu
                have hrun : ∃ o, (Go.Instr.makeSlice ty (.int .i64 m) (.int .i64 m)).run P w = .ok (.slice (some ⟨w.heap.size, 0, none⟩) m m) (w.alloc o) := by
                  by_cases hz0 : m * i.size = 0
                  · have hb0 : m = 0 := by
                      rcases Nat.mul_eq_zero.1 hz0 with h | h
                      · exact h
                      · omega
                    subst hb0
                    have w0 : IntKind.i64.wrap 0 = 0 := by simpa using w1
                    have hr0 : ∀ f : Nat → Value, (Array.range 0).map f = #[] := fun f => Array.map_empty
                    refine ⟨.cells #[] e (0, 0), ?_⟩
                    simp [Go.Instr.makeSlice, Go.run_underlying ht, Go.asInt, Go.asIntOf, hti, hsz, w0, Go.newRow, hr0]
                  · refine ⟨.cells (Array.map (fun x => u.cells[x % i.size]!) (Array.range (m * i.size))) e, ?_⟩
                    simp only [Go.Instr.makeSlice, Sem.run_bind, Go.run_underlying ht, Result.andThen_ok, Go.asInt, Go.asIntOf, Sem.run_pure, hti, w1]
                    rw [if_neg (by rw [c1]; simp)]
                    simp only [Sem.run_bind, Sem.run_pure, Result.andThen_ok, Go.run_askRoom, hsz, Int.toNat_natCast, if_neg hz0, hzr, hus]
                    simp [Go.newRow]
                obtain ⟨o, hrun⟩ := hrun
                have hs := hH.alloc hn o m (fun _ _ _ _ _ => trivial)
                obtain ⟨rfl, _, _⟩ := Hp.new_eq hn
                refine ⟨_, _, _, hrun, hs, ?_⟩
                exact .buf _ a m w.heap.size 0 m wa (Rho.upd_self _ _ _) hx.symm (Nat.le_refl _)
        · cases hq
      · cases hq
  · cases hq
theorem clr_sound (hH : HR X pd ρ H w) {ty ty2 e : TypeId} {cts : Array TypeId} (hc : cts[0]? = some ty) (ht : P.underlying ty = some (.slice e)) {z : List AV} (hz : zeroL P e = some z) {x : AV} {vx : Value} (rx : VR X ρ x vx) {v : AV} {H' : Hp} (hq : lClr H z x = some (v, H')) :
    v = undef ∧ ∃ ρ' w', (Go.Builtin.clear_ cts ty2 #[vx]).run P w = .ok (.tuple #[]) w' ∧ Stp X pd ρ H w ρ' H' w' := by
  obtain ⟨i, u, hi, hu, hv⟩ := zeroL_VR (X := X) (ρ := ρ) hz
  have hzl := hv.length
  simp only [Array.length_toList] at hzl
  have row : ∀ (id : P5) (off n cap B base C : Nat), ρ id = some (B, base, C) → (match allOne z with | true => (match H.put id off (Nat.mul n z.length) (repl z n) with | some h' => some (undef, h') | none => none) | false => none) = some (v, H') →
      v = undef ∧ ∃ ρ' w', (Go.Builtin.clear_ cts ty2 #[.slice (some ⟨B, base + off, none⟩) n cap]).run P w = .ok (.tuple #[]) w' ∧ Stp X pd ρ H w ρ' H' w' := by
    intro id off n cap B base C er hq
    cases h1 : allOne z with
    | false => rw [h1] at hq; cases hq
    | true =>
      rw [h1] at hq
      simp only [] at hq
      cases hp : H.put id off (Nat.mul n z.length) (repl z n) with
      | none => rw [hp] at hq; cases hq
      | some H1 =>
        rw [hp] at hq; cases hq
        have hrv := repl_VR (ρ := ρ) hv n
        have hone : allOne (repl z n) = true := by
          clear hp hrv
          have hap : ∀ l m, allOne l = true → allOne m = true → allOne (l ++ m) = true := by
            intro l m hl hm
            induction l with
            | nil => exact hm
            | cons a l ih =>
              simp only [allOne, List.cons_append] at hl ⊢
              cases ha : a.one with
              | false => rw [ha] at hl; cases hl
              | true => rw [ha] at hl; exact ih hl
          induction n with
          | zero => rfl
          | succ n ih => exact hap _ _ h1 ih
        obtain ⟨w', g1, g2⟩ := put_sound (P := P) hH hp hrv (by simp; rw [hzl]) (allOne_one hrv hone) er
        refine ⟨rfl, ρ, w', ?_, g2⟩
        have hzr := zero_run (w := w) hi hu
        have hzc : (Go.Builtin.zeroCells u.cells n).toList = ((Array.range (n * u.cells.size)).map fun i => u.cells[i % u.cells.size]!).toList := rfl
        rcases n with _ | n
        · have hw : w' = w := by
            have : ((Array.range (0 * u.cells.size)).map fun i => u.cells[i % u.cells.size]!).toList = [] := by simp
            rw [this] at g1
            simp [Go.storeCells] at g1
            exact g1.symm
          subst hw
          simp [Go.Builtin.clear_, hc, Go.run_underlying ht]
        · simp [Go.Builtin.clear_, hc, Go.run_underlying ht, hzr]
          have g1' := g1
          rw [← hzc] at g1'
          simp only [Go.Builtin.zeroCells] at g1' ⊢
          simp at g1' ⊢
          rw [g1']
          rfl
  cases rx <;> simp only [lClr, reduceCtorEq] at hq
  case nils =>
    simp only [Option.some.injEq, Prod.mk.injEq] at hq
    obtain ⟨rfl, rfl⟩ := hq
    exact ⟨rfl, ρ, w, by simp [Go.Builtin.clear_, hc, Go.run_underlying ht], Stp.refl hH⟩
  case sl id off n cap B base C er hle => exact row id off n cap B base C er hq
  case su id off n sz B base C cap a er ha =>
    rcases ha with ⟨rfl, rfl, _⟩ | ⟨rfl, _, _⟩
    · obtain ⟨h1, ρ', w', h2, h3⟩ := row id off 0 0 B base C er hq
      refine ⟨h1, ρ', w', ?_, h3⟩
      simp [Go.Builtin.clear_, hc, Go.run_underlying ht] at h2 ⊢
      exact h2
    · exact row id off n cap B base C er hq
end
end Ds
namespace Ds
open Go (IntKind Value World Addr MapEntry Program Sem Result Operand TypeId)
section
variable {P : Program} {X : Cx} {E : Env} {pd : P5 → Prop} {ρ : Rho} {H : Hp} {w : World}
theorem setM_spec (hok : EnvOk P X E) {txt : Bool} {d : Go.TypeDesc} {kt : TypeId} (hd : P.underlying kt = some d) (hk : keyT P kt = some txt) {k v : AV} {vk vv : Value} (rk : VR X ρ k vk) (rv : VR X ρ v vv) :
    ∀ (es : List (AV × AV)) (l : List MapEntry) (i : Nat) (es' : List (AV × AV)), VRs X ρ (es.map (·.1)) (l.map (·.key)) → VRs X ρ (es.map (·.2)) (l.map (·.val)) → setM E txt k v es = some es' →
      (∃ j e, Go.Instr.findNow d vk l i = some (some (i + j, e.val)) ∧ l[j]? = some e ∧ e.key = vk ∧ ∀ l' : List MapEntry, l'.length = l.length → (∀ n, n ≠ j → l'[n]? = l[n]?) → (∃ e' : MapEntry, l'[j]? = some e' ∧ e'.key = vk ∧ e'.val = vv) →
          VRs X ρ (es'.map (·.1)) (l'.map (·.key)) ∧ VRs X ρ (es'.map (·.2)) (l'.map (·.val))) ∨
      (Go.Instr.findNow d vk l i = some none ∧ ∀ e' : MapEntry, e'.key = vk → e'.val = vv → VRs X ρ (es'.map (·.1)) ((l ++ [e']).map (·.key)) ∧ VRs X ρ (es'.map (·.2)) ((l ++ [e']).map (·.val)))
  | [], [], i, es', h1, h2, h => by
    simp only [setM, Option.some.injEq] at h; subst h
    exact .inr ⟨rfl, fun e' h1 h2 => ⟨by simpa [h1] using VRs.cons _ _ _ _ rk .nil, by simpa [h2] using VRs.cons _ _ _ _ rv .nil⟩⟩
  | [], _ :: _, i, r, h1, h2, h => by cases h1
  | _ :: _, [], i, r, h1, h2, h => by cases h1
  | (j, u) :: es, e :: l, i, es', h1, h2, h => by
    simp only [List.map_cons] at h1 h2
    cases h1 with
    | cons _ _ _ _ r1 h1 =>
    cases h2 with
    | cons _ _ _ _ r2 h2 =>
    simp only [setM] at h
    cases hq : keyEq E txt k j with
    | none => rw [hq] at h; cases h
    | some q =>
      rw [hq] at h
      have hs := keyEq_ev hok hd hk rk r1 hq
      cases q with
      | true =>
        simp only [Option.some.injEq] at h; subst h
        refine .inl ⟨0, e, by simp [Go.Instr.findNow, hs.1], by simp, (hs.2.1 rfl).symm, fun l' hl hne he => ?_⟩
        obtain ⟨e', he', hk', hv'⟩ := he
        cases l' with
        | nil => simp at hl
        | cons e0 l0 =>
          simp at he'; subst he'
          have : l0 = l := List.ext_getElem? (fun n => by simpa using hne (n + 1) (by omega))
          subst this
          exact ⟨by simpa [hk'] using VRs.cons _ _ _ _ rk h1, by simpa [hv'] using VRs.cons _ _ _ _ rv h2⟩
      | false =>
        simp only [] at h
        cases hr : setM E txt k v es with
        | none => rw [hr] at h; cases h
        | some m =>
          rw [hr] at h
          simp only [Option.some.injEq] at h; subst h
          rcases setM_spec hok hd hk rk rv es l (i + 1) m h1 h2 hr with ⟨j', e1, g1, g2, g3, g4⟩ | ⟨g1, g2⟩
          · refine .inl ⟨j' + 1, e1, by simp only [Go.Instr.findNow, hs.1, g1]; congr 3; omega, by simpa using g2, g3, fun l' hl hne he => ?_⟩
            cases l' with
            | nil => simp at hl
            | cons e0 l0 =>
              have he0 : e0 = e := by simpa using hne 0 (by omega)
              subst he0
              have := g4 l0 (by simpa using hl) (fun n hn => by simpa using hne (n + 1) (by omega)) (by simpa using he)
              exact ⟨by simpa using VRs.cons _ _ _ _ r1 this.1, by simpa using VRs.cons _ _ _ _ r2 this.2⟩
          · refine .inr ⟨by simp only [Go.Instr.findNow, hs.1, g1], fun e' h1' h2' => ?_⟩
            have := g2 e' h1' h2'
            exact ⟨by simpa using VRs.cons _ _ _ _ r1 this.1, by simpa using VRs.cons _ _ _ _ r2 this.2⟩
theorem delM_spec (hok : EnvOk P X E) {txt : Bool} {d : Go.TypeDesc} {kt : TypeId} (hd : P.underlying kt = some d) (hk : keyT P kt = some txt) {k : AV} {vk : Value} (rk : VR X ρ k vk) :
    ∀ (es : List (AV × AV)) (l : List MapEntry) (i : Nat) (es' : List (AV × AV)), VRs X ρ (es.map (·.1)) (l.map (·.key)) → VRs X ρ (es.map (·.2)) (l.map (·.val)) → delM E txt k es = some es' →
      (∃ j u, Go.Instr.findNow d vk l i = some (some (i + j, u)) ∧ j < l.length ∧ VRs X ρ (es'.map (·.1)) ((l.eraseIdx j).map (·.key)) ∧ VRs X ρ (es'.map (·.2)) ((l.eraseIdx j).map (·.val))) ∨
      (Go.Instr.findNow d vk l i = some none ∧ VRs X ρ (es'.map (·.1)) (l.map (·.key)) ∧ VRs X ρ (es'.map (·.2)) (l.map (·.val)))
  | [], [], i, es', h1, h2, h => by
    simp only [delM, Option.some.injEq] at h; subst h
    exact .inr ⟨rfl, .nil, .nil⟩
  | [], _ :: _, i, r, h1, h2, h => by cases h1
  | _ :: _, [], i, r, h1, h2, h => by cases h1
  | (j, u) :: es, e :: l, i, es', h1, h2, h => by
    simp only [List.map_cons] at h1 h2
    cases h1 with
    | cons _ _ _ _ r1 h1 =>
    cases h2 with
    | cons _ _ _ _ r2 h2 =>
    simp only [delM] at h
    cases hq : keyEq E txt k j with
    | none => rw [hq] at h; cases h
    | some q =>
      rw [hq] at h
      have hs := keyEq_ev hok hd hk rk r1 hq
      cases q with
      | true =>
        simp only [Option.some.injEq] at h; subst h
        exact .inl ⟨0, e.val, by simp [Go.Instr.findNow, hs.1], by simp, by simpa using h1, by simpa using h2⟩
      | false =>
        simp only [] at h
        cases hr : delM E txt k es with
        | none => rw [hr] at h; cases h
        | some m =>
          rw [hr] at h
          simp only [Option.some.injEq] at h; subst h
          rcases delM_spec hok hd hk rk es l (i + 1) m h1 h2 hr with ⟨j', u', g1, g2, g3, g4⟩ | ⟨g1, g2, g3⟩
          · exact .inl ⟨j' + 1, u', by simp only [Go.Instr.findNow, hs.1, g1]; congr 3; omega, by simpa using g2, by simpa using VRs.cons _ _ _ _ r1 g3, by simpa using VRs.cons _ _ _ _ r2 g4⟩
          · exact .inr ⟨by simp only [Go.Instr.findNow, hs.1, g1], by simpa using VRs.cons _ _ _ _ r1 g2, by simpa using VRs.cons _ _ _ _ r2 g3⟩
theorem keyT_desc {kt : TypeId} {txt : Bool} (hk : keyT P kt = some txt) : ∃ d, P.underlying kt = some d := by
  unfold keyT at hk
  cases hu : P.underlying kt with
  | none => rw [hu] at hk; cases hk
  | some d => exact ⟨d, rfl⟩
theorem setHeap_sound (hH : HR X pd ρ H w) {id : P5} {B base C : Nat} (er : ρ id = some (B, base, C)) (hl : Live H id) {ents : Array MapEntry} {clock : Nat} (hb : w.heap[B]? = some (.map ents clock)) {es' : List (AV × AV)} (ents' : Array MapEntry) (clock' : Nat)
    (h1 : VRs X ρ (es'.map (·.1)) (ents'.toList.map (·.key))) (h2 : VRs X ρ (es'.map (·.2)) (ents'.toList.map (·.val))) :
    Stp X pd ρ H w ρ (H.set id (.map es')) { w with heap := w.heap.setIfInBounds B (.map ents' clock') } := by
  have hs := Go.MapKept.heap_set (o' := Go.Obj.map ents' clock') hb
  refine HR.upd hH hl (B := B) (by simp [Rho.blk, er]) (fun k hk => hs.2 k hk) (by simp) rfl rfl rfl ⟨B, base, C, ents', clock', er, hs.1, h1, h2⟩ (by simp)
theorem key_same {k : AV} {vk : Value} {txt : Bool} (rk : VR X ρ k vk) (h : isKey txt k = true) : Go.Instr.sameBits 10000 vk vk = true := by
  cases rk <;> simp only [isKey, Bool.false_eq_true] at h
  · show Go.Instr.sameBits (9999 + 1) _ _ = true
    simp [Go.Instr.sameBits]
  · rename_i b _ _
    show Go.Instr.sameBits (9999 + 1) (.string b) (.string b) = true
    simp only [Go.Instr.sameBits]
    exact beq_self_eq_true b.data
theorem mup_sound (hok : EnvOk P X E) (hH : HR X pd ρ H w) {txt : Bool} {m k v r : AV} {vm vk vv : Value} (rm : VR X ρ m vm) (rk : VR X ρ k vk) (rv : VR X ρ v vv) {t kt e : TypeId} (ht : P.underlying t = some (.map kt e)) (hk : keyT P kt = some txt) {H' : Hp} (hq : lMup E H txt m k v = some (r, H')) :
    r = undef ∧ ∃ ρ' w', (Go.Instr.mapUpdate t vm vk vv).run P w = .ok () w' ∧ Stp X pd ρ H w ρ' H' w' := by
  cases rm <;> simp only [lMup, reduceCtorEq] at hq
  rename_i id B base C er
  have ho := hH.obj id
  cases hx : H.get id <;> rw [hx] at hq ho <;> simp only [reduceCtorEq] at hq
  rename_i es
  obtain ⟨B', base', C', ents, clock, er', hb, h1, h2⟩ := ho
  rw [er] at er'; cases er'
  cases hik : isKey txt k with
  | false => rw [hik] at hq; cases hq
  | true =>
    rw [hik] at hq
    simp only [] at hq
    obtain ⟨d, hd⟩ := keyT_desc hk
    cases hl : setM E txt k v es with
    | none => rw [hl] at hq; cases hq
    | some es' =>
      rw [hl] at hq
      simp only [Option.some.injEq, Prod.mk.injEq] at hq
      obtain ⟨rfl, rfl⟩ := hq
      have hlive : Live H id := by unfold Live; rw [hx]; simp
      have hck := fun b => isKey_of (w := w) hd hk b vk
      have hgo := Go.MapKept.run_getObj_map (P := P) hb
      have hso := fun o => Go.MapKept.run_setObj_map (P := P) o hb
      refine ⟨rfl, ρ, ?_⟩
      rcases setM_spec hok hd hk rk rv es ents.toList 0 es' h1 h2 hl with ⟨j, e1, g1, g2, g3, g4⟩ | ⟨g1, g2⟩
      · have hfk := Go.MapKept.run_findKey (w := w) hd g1
        rw [Nat.zero_add] at hfk
        have hg2 : ents[j]? = some e1 := by rw [Array.getElem?_toList] at g2; exact g2
        have hj : j < ents.size := (Array.getElem?_eq_some_iff.1 hg2).1
        have hstay : (Go.Instr.keyThatStays (((ents[j]?).map (·.key)).getD vk) vk).run P w = .ok vk w := by
          rw [hg2]; simp [g3, Go.Instr.keyThatStays, key_same rk hik]
        refine ⟨_, ?_, setHeap_sound hH er hlive hb (ents.modify j fun e => { e with key := vk, val := vv }) clock ?_ ?_⟩
        · simp only [Go.Instr.mapUpdate, Sem.run_bind, Go.run_underlying ht, Result.andThen_ok, hgo, hck, hfk, hstay, hso]
        · exact (g4 _ (by simp) (fun n hn => by simp [Ne.symm hn]) ⟨{ e1 with key := vk, val := vv }, by simp [hg2], rfl, rfl⟩).1
        · exact (g4 _ (by simp) (fun n hn => by simp [Ne.symm hn]) ⟨{ e1 with key := vk, val := vv }, by simp [hg2], rfl, rfl⟩).2
      · have hfk := Go.MapKept.run_findKey (w := w) hd g1
        have := g2 { key := vk, val := vv, born := clock } rfl rfl
        refine ⟨_, ?_, setHeap_sound hH er hlive hb (ents.push { key := vk, val := vv, born := clock }) (clock + 1) (by simpa using this.1) (by simpa using this.2)⟩
        simp only [Go.Instr.mapUpdate, Sem.run_bind, Go.run_underlying ht, Result.andThen_ok, hgo, hck, hfk, hso]
theorem del_sound (hok : EnvOk P X E) (hH : HR X pd ρ H w) {txt : Bool} {m k r : AV} {vm vk : Value} (rm : VR X ρ m vm) (rk : VR X ρ k vk) {t kt e ty : TypeId} {cts : Array TypeId} (hc : cts[0]? = some t) (ht : P.underlying t = some (.map kt e)) (hk : keyT P kt = some txt) {H' : Hp} (hq : lDel E H txt m k = some (r, H')) :
    r = undef ∧ ∃ ρ' w', (Go.Builtin.delete_ cts ty #[vm, vk]).run P w = .ok (.tuple #[]) w' ∧ Stp X pd ρ H w ρ' H' w' := by
  cases rm <;> simp only [lDel, reduceCtorEq] at hq
  rename_i id B base C er
  have ho := hH.obj id
  cases hx : H.get id <;> rw [hx] at hq ho <;> simp only [reduceCtorEq] at hq
  rename_i es
  obtain ⟨B', base', C', ents, clock, er', hb, h1, h2⟩ := ho
  rw [er] at er'; cases er'
  cases hik : isKey txt k with
  | false => rw [hik] at hq; cases hq
  | true =>
    rw [hik] at hq
    simp only [] at hq
    obtain ⟨d, hd⟩ := keyT_desc hk
    cases hl : delM E txt k es with
    | none => rw [hl] at hq; cases hq
    | some es' =>
      rw [hl] at hq
      simp only [Option.some.injEq, Prod.mk.injEq] at hq
      obtain ⟨rfl, rfl⟩ := hq
      have hlive : Live H id := by unfold Live; rw [hx]; simp
      have hck := fun b => isKey_of (w := w) hd hk b vk
      have hgo := Go.MapKept.run_getObj_map (P := P) hb
      have hso := fun o => Go.MapKept.run_setObj_map (P := P) o hb
      refine ⟨rfl, ρ, ?_⟩
      rcases delM_spec hok hd hk rk es ents.toList 0 es' h1 h2 hl with ⟨j, u, g1, g2, g3, g4⟩ | ⟨g1, g2, g3⟩
      · have hfk := Go.MapKept.run_findKey (w := w) hd g1
        rw [Nat.zero_add] at hfk
        have hj : j < ents.size := by simpa using g2
        have her : (ents.eraseIdxIfInBounds j).toList = ents.toList.eraseIdx j := by simp [Array.eraseIdxIfInBounds, hj]
        refine ⟨_, ?_, setHeap_sound hH er hlive hb (ents.eraseIdxIfInBounds j) clock (by rw [her]; exact g3) (by rw [her]; exact g4)⟩
        simp [Go.Builtin.delete_, hc, Go.run_underlying ht, hgo, hck, hfk, hso]
      · have hfk := Go.MapKept.run_findKey (w := w) hd g1
        refine ⟨_, ?_, setHeap_sound hH er hlive hb ents clock g2 g3⟩
        simp [Go.Builtin.delete_, hc, Go.run_underlying ht, hgo, hck, hfk, hso]
theorem nxt_sound (hH : HR X pd ρ H w) {x : AV} {vx : Value} (rx : VR X ρ x vx) {ty : TypeId} {v : AV} {H' : Hp} (hq : lNxt H x = some (v, H')) :
    ∃ ρ' w' v', (Go.Instr.next vx true ty).run P w = .ok v' w' ∧ Stp X pd ρ H w ρ' H' w' ∧ VR X ρ' v v' := by
  cases rx <;> simp only [lNxt, reduceCtorEq] at hq
  rename_i id off B base C er
  cases off with
  | succ n => simp at hq
  | zero =>
    simp only [] at hq
    have ho := hH.obj id
    cases hx : H.get id <;> rw [hx] at hq ho <;> simp only [reduceCtorEq] at hq
    rename_i l pos
    obtain ⟨B', C', b, er', hb, hbl, hlt, hpos⟩ := ho
    rw [er] at er'; cases er'
    have hsz : b.size = l.length := by
      have : b.data.toList.length = l.length := by rw [hbl]; simp [b8]
      simpa using this
    have hgo : (Go.getObj B).run P w = .ok (.stringIter b pos) w := by simp [Go.getObj, Sem.run, hb]
    rw [nthL_get] at hq
    cases hn : l[pos]? with
    | none =>
      rw [hn] at hq
      simp only [Option.some.injEq, Prod.mk.injEq] at hq
      obtain ⟨rfl, rfl⟩ := hq
      have hge : ¬ pos < b.size := by rw [hsz]; rw [List.getElem?_eq_none_iff] at hn; omega
      exact ⟨ρ, w, .tuple #[.bool false], by simp [Go.Instr.next, hgo, hge], Stp.refl hH, .tup _ [.bool false] (.cons _ _ _ _ (.bool _) .nil)⟩
    | some c =>
      rw [hn] at hq
      simp only [] at hq
      cases hc : Nat.ble c 127 with
      | false => rw [hc] at hq; cases hq
      | true =>
        rw [hc] at hq
        simp only [Option.some.injEq, Prod.mk.injEq] at hq
        obtain ⟨rfl, rfl⟩ := hq
        have hc' := ble_true.1 hc
        have hlt' : pos < b.size := by rw [hsz]; exact (List.getElem?_eq_some_iff.1 hn).1
        have hbyte : b.data.toList[pos]? = some (UInt8.ofNat c) := by rw [hbl]; simp [b8, hn]
        have hget : b.get! pos = UInt8.ofNat c := by
          rw [Array.getElem?_toList] at hbyte
          have := (Array.getElem?_eq_some_iff.1 hbyte)
          show b.data[pos]! = _
          rw [getElem!_pos b.data pos this.1, this.2]
        have hdec : Go.Utf8.decode b pos = (c, 1) := by
          have h1 : (UInt8.ofNat c).toNat = c := by simp; omega
          simp only [Go.Utf8.decode, Nat.add_zero, hget, h1]
          rw [if_pos (by omega)]
        have hs := Go.MapKept.heap_set (o' := Go.Obj.stringIter b (pos + 1)) hb
        refine ⟨ρ, { w with heap := w.heap.setIfInBounds B (.stringIter b (pos + 1)) }, .tuple #[.bool true, Go.goInt pos, .int .i32 c], ?_, ?_, ?_⟩
        · have hso : (Go.setObj B (.stringIter b (pos + 1))).run P w = .ok () { w with heap := w.heap.setIfInBounds B (.stringIter b (pos + 1)) } := by simp [Go.setObj, Sem.run, hb]
          simp [Go.Instr.next, hgo, hlt', hdec, hso]
        · refine HR.upd hH (by unfold Live; rw [hx]; simp) (B := B) (by simp [Rho.blk, er]) (fun k hk => hs.2 k hk) (by simp) rfl rfl rfl ⟨B, C, b, er, hs.1, hbl, hlt, ?_⟩ (by simp)
          have := (List.getElem?_eq_some_iff.1 hn).1; omega
        · exact .tup _ [.bool true, Go.goInt pos, .int .i32 c] (.cons _ _ _ _ (.bool _) (.cons _ _ _ _ (.int _ _ _ trivial rfl) (.cons _ _ _ _ (.int _ _ _ trivial rfl) .nil)))
end
end Ds
namespace Ds
open Go (IntKind Value World Addr MapEntry Program Sem Result Operand TypeId)
section
variable {P : Program} {X : Cx} {E : Env} {pd : P5 → Prop} {ρ : Rho} {H : Hp} {w : World}
structure Items (P : Program) (w : World) (sz n : Nat) (x : Value) (news : List Value) : Prop where
  len : ∀ w', (Go.Builtin.lenOf x).run P w' = .ok n w'
  first : ∀ k w', k ≤ n → w'.heap = w.heap → (Go.Builtin.firstCells sz k x).run P w' = .ok (news.take (k * sz)).toArray w'
  length : news.length = n * sz
theorem run_first_part {w : World} (a : Addr) (len cap sz n : Nat) (news : List Value) (hl : news.length = n * sz) (h : ∀ j v, news[j]? = some v → w.cell? (a.add j) = some v) (k : Nat) (w' : World) (hk : k ≤ n) (hw : w'.heap = w.heap) :
    (Go.Builtin.firstCells sz k (.slice (some a) len cap)).run P w' = .ok (news.take (k * sz)).toArray w' := by
  have hle : k * sz ≤ n * sz := Nat.mul_le_mul_right _ hk
  refine Go.run_firstCells_some w' sz k a len cap _ (by rw [List.length_take]; omega) (fun j v hj => ?_)
  rw [List.getElem?_take] at hj
  split at hj
  · have := h j v hj
    simpa [World.cell?, hw] using this
  · cases hj
theorem items_sound (hH : HR X pd ρ H w) {sz : Nat} {y : AV} {vy : Value} (ry : VR X ρ y vy) {n : Nat} {l : List AV} (hi : itemsOf H sz y = some (n, l)) :
    ∃ news b cap, Items P w sz n vy news ∧ VRs X ρ l news ∧ n * sz ≤ maxCells ∧ vy = .slice b n cap ∧ n ≤ cap ∧ (b = none → n = 0) := by
  have row : ∀ (id : P5) (off m cap B base C : Nat), m ≤ cap → ρ id = some (B, base, C) → (match H.cells id off (Nat.mul m sz) with | some l => some (m, l) | none => none) = some (n, l) →
      ∃ news b cap', Items P w sz n (.slice (some ⟨B, base + off, none⟩) m cap) news ∧ VRs X ρ l news ∧ n * sz ≤ maxCells ∧ Value.slice (some ⟨B, base + off, none⟩) m cap = .slice b n cap' ∧ n ≤ cap' ∧ (b = none → n = 0) := by
    intro id off m cap B base C hmc er hi
    cases hc : H.cells id off (Nat.mul m sz) with
    | none => rw [hc] at hi; cases hi
    | some l' =>
      rw [hc] at hi; cases hi
      obtain ⟨vs, hl, hr, hcell, hmx⟩ := hH.cells hc er
      exact ⟨vs, _, cap, ⟨fun w' => by simp [Go.Builtin.lenOf], fun k w' hk hw => run_first_part _ _ _ sz n vs hl (fun j v hv => by rw [addr_add]; exact hcell j v hv) k w' hk hw, hl⟩, hr, hmx, rfl, hmc, fun h => by cases h⟩
  cases ry <;> simp only [itemsOf, reduceCtorEq] at hi
  case nils =>
    cases hi
    exact ⟨[], none, 0, ⟨fun w' => by simp [Go.Builtin.lenOf], fun k w' hk _ => by simp [Go.Builtin.firstCells], by simp⟩, .nil, by simp, rfl, Nat.le_refl _, fun _ => rfl⟩
  case sl id off m cap B base C er hle => exact row id off m cap B base C hle er hi
  case su id off m s B base C cap a er ha =>
    rcases ha with ⟨rfl, rfl, _⟩ | ⟨rfl, _, hle⟩
    · obtain ⟨news, b, cap', h1, h2, h3, h4, h5, h6⟩ := row id off 0 0 B base C (Nat.le_refl _) er hi
      cases h4
      have hn : news = [] := by simpa using h1.length
      subst hn
      refine ⟨[], some a, 0, ⟨fun w' => by simp [Go.Builtin.lenOf], fun k w' hk _ => ?_, by simp⟩, h2, h3, rfl, Nat.le_refl _, fun h => by cases h⟩
      have : k = 0 := by omega
      subst this
      simp [Go.Builtin.firstCells, Go.loadCells, Go.loadCellsFrom]
    · exact row id off m cap B base C hle er hi
theorem storeCells_nil (a : Addr) (w : World) : (Go.storeCells a []).run P w = .ok () w := by simp [Go.storeCells]
theorem run_app_grow {t u ty e eu : TypeId} {cts : Array TypeId} (c0 : cts[0]? = some t) (c1 : cts[1]? = some u) {i : Go.TypeInfo} {z : Value} (ht : P.underlying t = some (.slice e)) (hu : P.underlying u = some (.slice eu)) (hi : P.info? e = some i) (hz : i.zero = some z)
    {b : Option Addr} {sLen sCap n : Nat} {x : Value} {olds news : List Value} (ho : Items P w i.size sLen (.slice b sLen sCap) olds) (hn : Items P w i.size n x news)
    (hg : sCap < sLen + n) (h63 : sLen + n ≤ 9223372036854775807) (hfit : Go.Builtin.nextslicecap (sLen + n) sCap * i.bytes ≤ 281474976710656) :
    (Go.Builtin.append_ cts ty #[.slice b sLen sCap, x]).run P w =
      .ok (.slice (some ⟨w.heap.size, 0, none⟩) (sLen + n) (Go.grownCap w (sLen + n) sCap e))
        (w.drew.alloc (.cells (olds.toArray ++ news.toArray ++ Go.Builtin.zeroCells z.cells (Go.grownCap w (sLen + n) sCap e - (sLen + n))) e)) := by
  have hn' : ¬ (sLen + n ≤ sCap) := by omega
  have h63' : ¬ (9223372036854775807 < ((sLen : Int) + (n : Int))) := by omega
  have h48' : ¬ (281474976710656 < Go.Builtin.nextslicecap (sLen + n) sCap * i.bytes) := by omega
  have hf := hn.first n w.drew (Nat.le_refl _) rfl
  have hfo := ho.first sLen w.drew (Nat.le_refl _) rfl
  rw [← hn.length, List.take_length] at hf
  rw [← ho.length, List.take_length] at hfo
  simp [Go.Builtin.append_, c0, c1, Go.run_underlying ht, Go.run_underlying hu, Go.sizeOf, Go.typeInfo, Go.zeroValue, hi, hz, hn.len, hn', h63', h48', Go.Question.forced, hf, hfo, Go.newRow, Go.grownCap]
  congr 2
  apply Array.ext'
  simp [List.append_assoc]
theorem run_app_in {t u ty e eu : TypeId} {cts : Array TypeId} (c0 : cts[0]? = some t) (c1 : cts[1]? = some u) {i : Go.TypeInfo} (ht : P.underlying t = some (.slice e)) (hu : P.underlying u = some (.slice eu)) (hi : P.info? e = some i)
    {a : Addr} {sLen sCap n : Nat} {x : Value} {news : List Value} (hn : Items P w i.size n x news) (hg : sLen + n ≤ sCap) {w' : World} (hst : (Go.storeCells (a.add (sLen * i.size)) news).run P w = .ok () w') :
    (Go.Builtin.append_ cts ty #[.slice (some a) sLen sCap, x]).run P w = .ok (.slice (some a) (sLen + n) sCap) w' := by
  have hf := hn.first n w (Nat.le_refl _) rfl
  rw [← hn.length, List.take_length] at hf
  simp [Go.Builtin.append_, c0, c1, Go.run_underlying ht, Go.run_underlying hu, Go.sizeOf, Go.typeInfo, hi, hn.len, hg, hf, hst]
theorem run_app_none {t u ty e eu : TypeId} {cts : Array TypeId} (c0 : cts[0]? = some t) (c1 : cts[1]? = some u) {i : Go.TypeInfo} (ht : P.underlying t = some (.slice e)) (hu : P.underlying u = some (.slice eu)) (hi : P.info? e = some i)
    {x : Value} {news : List Value} (hn : Items P w i.size 0 x news) :
    (Go.Builtin.append_ cts ty #[.slice none 0 0, x]).run P w = .ok (.slice none 0 0) w := by
  have hf := hn.first 0 w (Nat.le_refl _) rfl
  simp [Go.Builtin.append_, c0, c1, Go.run_underlying ht, Go.run_underlying hu, Go.sizeOf, Go.typeInfo, hi, hn.len, hf]
theorem grown_cells {g : Cells} {new : List AV} {news olds : List Value} {k : Nat} (ho : olds.length = k) (hol : ∀ j, j < k → ∃ v, olds[j]? = some v ∧ VR X ρ (g.get j) v) (hr : VRs X ρ new news) (hm : k + news.length ≤ maxCells) (rest : List Value) :
    ∀ j, j < k + news.length → ∃ v, (olds ++ news ++ rest)[j]? = some v ∧ VR X ρ ((Cells.setl g k new).get j) v := by
  intro j hj
  have hmx : maxCells = 32768 := rfl
  have hlen := hr.length
  rw [Cells.get_setl new g k (by omega) j (by omega), List.append_assoc]
  by_cases c : k ≤ j ∧ j < k + new.length
  · rw [if_pos c]
    have hjl : j - k < new.length := by omega
    obtain ⟨v, h1, h2⟩ := hr.get' (j - k) (new.getD (j - k) .any) (by simp [List.getD, List.getElem?_eq_getElem hjl])
    refine ⟨v, ?_, h2⟩
    rw [List.getElem?_append_right (by omega), ho, List.getElem?_append_left (by omega)]
    exact h1
  · rw [if_neg c]
    obtain ⟨v, h1, h2⟩ := hol j (by omega)
    exact ⟨v, by rw [List.getElem?_append_left (by omega)]; exact h1, h2⟩
theorem okSize_spec {n sz bytes : Nat} (h : okSize n sz bytes = true) : n * sz ≤ 32768 ∧ n ≤ 32768 ∧ bytes ≤ 1048576 := by
  simp only [okSize, Bool.and_eq_true, ble_true] at h
  have hm : maxCells = 32768 := rfl
  rw [hm] at h
  exact ⟨h.1.1, h.1.2, h.2⟩
theorem fits {need old bytes : Nat} (h : old < need) (h1 : need ≤ 32768) (h2 : bytes ≤ 1048576) : Go.Builtin.nextslicecap need old * bytes ≤ 281474976710656 :=
  Go.growslice_fits h (Nat.le_trans (Nat.mul_le_mul h1 h2) (by decide))
noncomputable def killed (H : Hp) : Option P5 → Hp
  | some id => H.set id .none
  | none => H
theorem grown_new (hH : HR X pd ρ H w) {e : TypeId} {sz need k : Nat} {g : Cells} {new : List AV} {olds news : List Value} {z : Array Value} (hzs : z.size = sz) {cap : Nat} (hcap : need ≤ cap) (ho : olds.length = k) (hk : k + news.length = need * sz)
    (hmx : need * sz ≤ 32768) (hol : ∀ j, j < k → ∃ v, olds[j]? = some v ∧ VR X ρ (g.get j) v) (hr : VRs X ρ new news) {kill : Option P5} {id' : P5} {H' : Hp}
    (hn : (killed H kill).new (.grown (need * sz) (Cells.setl g k new)) = some (id', H')) :
    ∃ ρ', Stp X pd ρ H w ρ' H' (w.drew.alloc (.cells (olds.toArray ++ news.toArray ++ Go.Builtin.zeroCells z (cap - need)) e)) ∧ VR X ρ' (.su id' 0 need sz) (.slice (some ⟨w.heap.size, 0, none⟩) need cap) := by
  have hd : Stp X pd ρ H w ρ H w.drew := HR.drawn hH _
  have hk' : Stp X pd ρ H w ρ (killed H kill) w.drew := by
    cases kill with
    | none => exact hd
    | some id => exact hd.trans (HR.kill hd.hr id)
  have hal := HR.alloc hk'.hr hn (.cells (olds.toArray ++ news.toArray ++ Go.Builtin.zeroCells z (cap - need)) e) (cap * sz) (fun ρ' e' hle hid hw => by
    refine ⟨w.drew.heap.size, 0, cap * sz, _, e, hid, hw, ?_, Nat.mul_le_mul_right _ hcap, hmx, fun j hj => ?_⟩
    · simp only [Array.size_append, List.size_toArray, Go.size_zeroCells, hzs]
      rw [ho, hk, ← Nat.add_mul, Nat.add_sub_cancel' hcap]
      omega
    · have := grown_cells (X := X) (ρ := ρ') (rest := (Go.Builtin.zeroCells z (cap - need)).toList) ho (fun j hj => by obtain ⟨v, h1, h2⟩ := hol j hj; exact ⟨v, h1, h2.le hle⟩) (hr.le hle) (by show _ ≤ 32768; omega) j (by omega)
      obtain ⟨v, h1, h2⟩ := this
      refine ⟨v, ?_, h2⟩
      rw [Nat.zero_add, ← Array.getElem?_toList]
      simpa using h1)
  exact ⟨_, hk'.trans hal, .su _ 0 _ _ _ 0 (cap * sz) _ _ (Rho.upd_self _ _ _) (.inr ⟨rfl, by omega, hcap⟩)⟩
theorem cells_get {c : Cells} {off k : Nat} {l : List AV} (hl : l = Cells.getl c off k) {olds : List Value} (hr : VRs X ρ l olds) (_ho : olds.length = k) (h0 : off = 0) : ∀ j, j < k → ∃ v, olds[j]? = some v ∧ VR X ρ (c.get j) v := by
  intro j hj
  subst hl h0
  obtain ⟨v, h1, h2⟩ := hr.get' j (c.get j) (by
    have hl : j < (Cells.getl c 0 k).length := by rw [Cells.getl_length]; exact hj
    have := Cells.getl_getD c k 0 j hj
    rw [Nat.zero_add] at this
    rw [← this]
    simp [List.getD, List.getElem?_eq_getElem hl])
  exact ⟨v, h1, h2⟩
theorem ofl_get {l : List AV} {olds : List Value} (hr : VRs X ρ l olds) (hm : l.length ≤ 32768) : ∀ j, j < olds.length → ∃ v, olds[j]? = some v ∧ VR X ρ ((Cells.ofl l).get j) v := by
  intro j hj
  have hlen := hr.length
  rw [Cells.get_ofl l hm j (by omega)]
  obtain ⟨v, h1, h2⟩ := hr.get' j (l.getD j .any) (by simp [List.getD, List.getElem?_eq_getElem (show j < l.length by omega)])
  exact ⟨v, h1, h2⟩
theorem appGrown_spec {m : Nat} {c : Cells} {kill : Option P5} {need sz off len : Nat} {new : List AV} {v : AV} {H' : Hp} (h : appGrown H m c kill need sz off len new = some (v, H')) :
    ∃ id', v = .su id' 0 need sz ∧ (killed H kill).new (.grown (need * sz) (Cells.setl c (len * sz) new)) = some (id', H') := by
  unfold appGrown at h
  cases kill with
  | none =>
    simp only [] at h
    cases hn : H.new (.grown (Nat.mul need sz) (Cells.setl c (Nat.mul len sz) new)) with
    | none => rw [hn] at h; cases h
    | some q => obtain ⟨id', H1⟩ := q; rw [hn] at h; cases h; exact ⟨_, rfl, hn⟩
  | some id =>
    simp only [] at h
    cases hn : (H.set id .none).new (.grown (Nat.mul need sz) (Cells.setl c (Nat.mul len sz) new)) with
    | none => rw [hn] at h; cases h
    | some q => obtain ⟨id', H1⟩ := q; rw [hn] at h; cases h; exact ⟨_, rfl, hn⟩
theorem app_sound (hH : HR X pd ρ H w) {t u ty e eu : TypeId} {cts : Array TypeId} (c0 : cts[0]? = some t) (c1 : cts[1]? = some u) (ht : P.underlying t = some (.slice e)) (hu : P.underlying u = some (.slice eu)) {i : Go.TypeInfo} (hi : P.info? e = some i)
    {z : List AV} (hz : zeroL P e = some z) (hzl : z.length = i.size) {x y : AV} {vx vy : Value} (rx : VR X ρ x vx) (ry : VR X ρ y vy) {v : AV} {H' : Hp} (hq : lApp H i.size i.bytes x y = some (v, H')) :
    ∃ ρ' w' v', (Go.Builtin.append_ cts ty #[vx, vy]).run P w = .ok v' w' ∧ Stp X pd ρ H w ρ' H' w' ∧ VR X ρ' v v' := by
  obtain ⟨i', zv, hi', hzv, hv⟩ := zeroL_VR (X := X) (ρ := ρ) hz
  rw [hi] at hi'; cases hi'
  have hzs : zv.cells.size = i.size := by have := hv.length; simp at this; omega
  unfold lApp at hq
  cases hit : itemsOf H i.size y with
  | none => rw [hit] at hq; cases hq
  | some q =>
    obtain ⟨n, new⟩ := q
    rw [hit] at hq
    obtain ⟨news, yb, ycap, hN, hr, hnm, hyr⟩ := items_sound hH ry hit
    clear hyr
    cases n with
    | zero =>
      have hn0 : news = [] := by simpa using hN.length
      subst hn0
      cases rx <;> simp only [reduceCtorEq] at hq
      case nils =>
        cases hq
        exact ⟨ρ, w, _, run_app_none c0 c1 ht hu hi hN, Stp.refl hH, .nils⟩
      case sl er hle _ =>
        cases hq
        exact ⟨ρ, w, _, run_app_in c0 c1 ht hu hi hN (by omega) (storeCells_nil _ _), Stp.refl hH, .sl _ _ _ _ _ _ _ er hle⟩
      case su er ha _ =>
        cases hq
        exact ⟨ρ, w, _, run_app_in c0 c1 ht hu hi hN (by rcases ha with ⟨h1, h2, _⟩ | ⟨_, _, h⟩ <;> omega) (storeCells_nil _ _), Stp.refl hH, .su _ _ _ _ _ _ _ _ _ er ha⟩
    | succ n =>
      simp only [] at hq
      have hnl := hN.length
      cases rx <;> simp only [reduceCtorEq] at hq
      case nils =>
        cases ho : okSize (n + 1) i.size i.bytes with
        | false => rw [ho] at hq; cases hq
        | true =>
          rw [ho] at hq
          obtain ⟨o1, o2, o3⟩ := okSize_spec ho
          obtain ⟨id', rfl, hn⟩ := appGrown_spec hq
          have hO : Items P w i.size 0 (.slice none 0 0) [] := ⟨fun w' => by simp [Go.Builtin.lenOf], fun k w' hk _ => by simp [Go.Builtin.firstCells], by simp⟩
          have hrun := run_app_grow (ty := ty) c0 c1 ht hu hi hzv hO hN (by omega) (by omega) (fits (by omega) (by omega) o3)
          obtain ⟨ρ', h1, h2⟩ := grown_new hH (e := e) (olds := []) (k := 0) (need := 0 + (n + 1)) hzs (Go.grownCap_ge w (0 + (n + 1)) 0 e) rfl (by rw [hnl, Nat.zero_add, Nat.zero_add]) (by rw [Nat.zero_add]; exact o1) (fun j hj => by omega) hr (kill := none) (by simpa using hn)
          exact ⟨ρ', _, _, hrun, h1, by simpa using h2⟩
      case sl id off len cap B base C er hle =>
        cases ho : okSize (Nat.add len (n + 1)) i.size i.bytes with
        | false => rw [ho] at hq; cases hq
        | true =>
          rw [ho] at hq
          obtain ⟨o1, o2, o3⟩ := okSize_spec ho
          simp only [] at hq
          cases hc : Nat.ble (Nat.add len (n + 1)) cap with
          | true =>
            rw [hc] at hq
            simp only [] at hq
            cases h1 : allOne new with
            | false => rw [h1] at hq; cases hq
            | true =>
              rw [h1] at hq
              simp only [] at hq
              cases hp : H.put id (Nat.add off (Nat.mul len i.size)) (Nat.mul (n + 1) i.size) new with
              | none => rw [hp] at hq; cases hq
              | some H1 =>
                rw [hp] at hq; cases hq
                obtain ⟨w', g1, g2⟩ := put_sound (P := P) hH hp hr hnl (allOne_one hr h1) er
                have hc' := ble_true.1 hc
                refine ⟨ρ, w', _, run_app_in c0 c1 ht hu hi hN hc' ?_, g2, .sl id off _ cap B base C er hc'⟩
                rw [addr_add, Nat.add_assoc]
                exact g1
          | false =>
            rw [hc] at hq
            simp only [] at hq
            have hc' : cap < len + (n + 1) := by
              rcases Nat.lt_or_ge cap (len + (n + 1)) with h | h
              · exact h
              · have : Nat.ble (Nat.add len (n + 1)) cap = true := ble_true.2 h
                rw [this] at hc; cases hc
            cases hcl : H.cells id off (Nat.mul len i.size) with
            | none => rw [hcl] at hq; cases hq
            | some old =>
              rw [hcl] at hq
              simp only [] at hq
              obtain ⟨id', rfl, hn⟩ := appGrown_spec hq
              obtain ⟨olds, b', cap', hO, hor, hom, hoe, _⟩ := items_sound (P := P) hH (VR.sl id off len cap B base C er hle) (sz := i.size) (n := len) (l := old) (by simp only [itemsOf, hcl])
              have hrun := run_app_grow (ty := ty) c0 c1 ht hu hi hzv hO hN hc' (by have : len + (n + 1) ≤ 32768 := o2; omega) (fits hc' o2 o3)
              have hol := hO.length
              have hlen := hor.length
              have hmx : maxCells = 32768 := rfl
              obtain ⟨ρ', h1, h2⟩ := grown_new hH (e := e) (olds := olds) (k := len * i.size) (need := len + (n + 1)) hzs (Go.grownCap_ge w (len + (n + 1)) cap e) hol (by rw [hnl, ← Nat.add_mul]) o1
                (fun j hj => ofl_get hor (by omega) j (by omega)) hr (kill := none) hn
              exact ⟨ρ', _, _, hrun, h1, h2⟩
      case su id off len s B base C cap a er ha =>
        cases ho : (okSize (Nat.add len (n + 1)) i.size i.bytes && Nat.beq s i.size && allOne new) with
        | false => rw [ho] at hq; cases hq
        | true =>
          rw [ho] at hq
          simp only [Bool.and_eq_true, nbeq] at ho
          obtain ⟨⟨ho, rfl⟩, h1⟩ := ho
          obtain ⟨o1, o2, o3⟩ := okSize_spec ho
          have o1' : (len + (n + 1)) * i.size ≤ 32768 := o1
          have o2' : len + (n + 1) ≤ 32768 := o2
          simp only [] at hq
          have hob := hH.obj id
          cases hg : H.get id <;> rw [hg] at hq hob <;> simp only [reduceCtorEq] at hq
          rename_i m c
          obtain ⟨B', base', C', arr, el, er', hb, hs, hmC, hmm, hj⟩ := hob
          rw [er] at er'; cases er'
          have hlive : Live H id := by unfold Live; rw [hg]; simp
          cases hin0 : (Nat.ble (Nat.add (Nat.add off (Nat.mul len i.size)) (Nat.mul (n + 1) i.size)) m && Nat.ble 1 i.size) with
          | true =>
            rw [hin0] at hq
            simp only [] at hq
            simp only [Bool.and_eq_true, ble_true] at hin0
            obtain ⟨q1, q2⟩ := hin0
            simp only [Nat.add_eq, Nat.mul_eq] at q1
            cases hp : H.put id (Nat.add off (Nat.mul len i.size)) (Nat.mul (n + 1) i.size) new with
            | none => rw [hp] at hq; cases hq
            | some H1 =>
              rw [hp] at hq; cases hq
              have hpos : 1 ≤ (n + 1) * i.size := Nat.mul_pos (by omega) q2
              obtain ⟨ha1, ha2, hle⟩ : a = ⟨B, base + off, none⟩ ∧ off + cap * i.size = C ∧ len + (n + 1) ≤ cap := by
                rcases ha with ⟨_, _, z⟩ | ⟨x, y, _⟩
                · omega
                · refine ⟨x, y, ?_⟩
                  rcases Nat.lt_or_ge cap (len + (n + 1)) with h | h
                  · have := Nat.mul_lt_mul_of_pos_right h (show 0 < i.size by omega)
                    rw [Nat.add_mul] at this
                    omega
                  · exact h
              obtain ⟨w', g1, g2⟩ := put_sound (P := P) hH hp hr hnl (allOne_one hr h1) er
              subst ha1
              refine ⟨ρ, w', _, run_app_in c0 c1 ht hu hi hN hle ?_, g2, .su id off _ _ B base C cap _ er (.inr ⟨rfl, ha2, hle⟩)⟩
              rw [addr_add, Nat.add_assoc]
              exact g1
          | false =>
          rw [hin0] at hq
          simp only [] at hq
          cases hbm : Nat.ble (Nat.add off (Nat.mul len i.size)) m with
          | false => rw [hbm] at hq; cases hq
          | true =>
            rw [hbm] at hq
            have hcl : H.cells id off (Nat.mul len i.size) = some (Cells.getl c off (Nat.mul len i.size)) := by unfold Hp.cells; rw [hg]; simp only []; rw [hbm]
            have hbm' : off + len * i.size ≤ m := ble_true.1 hbm
            obtain ⟨olds, b', cap', hO, hor, hom, hoe, _⟩ := items_sound (P := P) hH (VR.su id off len i.size B base C cap a er ha) (sz := i.size) (n := len) (l := Cells.getl c off (Nat.mul len i.size)) (by simp only [itemsOf, hcl])
            have hol := hO.length
            have hmx : maxCells = 32768 := rfl
            have hgd : ∃ g, appGrown H m g (some id) (len + (n + 1)) i.size 0 len new = some (v, H') ∧ ∀ j, j < len * i.size → ∃ v, olds[j]? = some v ∧ VR X ρ (g.get j) v := by
              cases off with
              | zero => exact ⟨c, hq, cells_get rfl hor hol rfl⟩
              | succ off => exact ⟨_, hq, fun j hj => ofl_get hor (by rw [Cells.getl_length]; show len * i.size ≤ _; omega) j (by omega)⟩
            obtain ⟨g, hq, hgd⟩ := hgd
            obtain ⟨id', rfl, hn⟩ := appGrown_spec hq
            by_cases hin : len + (n + 1) ≤ cap
            · -- in place
              rcases ha with ⟨rfl, rfl, _⟩ | ⟨rfl, hC, hle⟩
              · omega
              · have hmul : len * i.size + (n + 1) * i.size ≤ cap * i.size := by rw [← Nat.add_mul]; exact Nat.mul_le_mul_right _ hin
                have hst := Go.run_storeCells_at P B (base + off + len * i.size) el news 0 arr w hb (by rw [hnl]; omega) (allOne_one hr h1)
                simp only [Nat.add_zero] at hst
                have hrow := Go.setRow_heap w B arr (arr.toList.take (base + off + len * i.size) ++ news ++ arr.toList.drop (base + off + len * i.size + news.length)).toArray el (0, 0) hb
                have hcell : ∀ j v, olds[j]? = some v → arr[base + off + j]? = some v := by
                  intro j v hv
                  have hjl : j < olds.length := (List.getElem?_eq_some_iff.1 hv).1
                  obtain ⟨vs, hl, _, hcell, _⟩ := hH.cells hcl er
                  have hf := hO.first len w (Nat.le_refl _) rfl
                  have hf2 := run_first_part (P := P) ⟨B, base + off, none⟩ len cap i.size len vs hl (fun j v hv => by rw [addr_add]; exact hcell j v hv) len w (Nat.le_refl _) rfl
                  rw [hf2] at hf
                  have hvs : vs = olds := by
                    have := congrArg (fun r => match r with | Go.Result.ok a _ => a.toList | _ => []) hf
                    simp only at this
                    have hl' : vs.length = len * i.size := hl
                    rw [← hl', List.take_length, hl', ← hol, List.take_length] at this
                    exact this
                  subst hvs
                  have := hcell j v hv
                  simpa [World.cell?, hb] using this
                have hlo : olds.length = len * i.size := hol
                have htk : ((arr.toList.take (base + off + len * i.size)).drop (base + off)) = olds := by
                  apply List.ext_getElem?
                  intro j
                  rw [List.getElem?_drop, List.getElem?_take]
                  by_cases hjl : j < len * i.size
                  · rw [if_pos (by omega), Array.getElem?_toList]
                    obtain ⟨u, hu', _⟩ := hgd j hjl
                    rw [hu', hcell j u hu']
                  · rw [if_neg (by omega), List.getElem?_eq_none (by omega)]
                refine ⟨_, _, _, run_app_in c0 c1 ht hu hi hN hin (by rw [addr_add]; exact hst), HR.share hH hlive (B := B) (by simp [Rho.blk, er]) hn (base + off) (cap * i.size) (fun k hk => Go.setRow_other w B k _ hk) (Go.setRow_size _ _ _) rfl rfl rfl (fun ρ' e' hle' hid => ?_), .su id' 0 _ _ B (base + off) (cap * i.size) cap _ (Rho.upd_self _ _ _) (.inr ⟨rfl, by omega, hin⟩)⟩
                have har : arr.toList.length = arr.size := by simp
                refine ⟨B, base + off, cap * i.size, _, el, hid, hrow, by simp; omega, Nat.mul_le_mul_right _ hin, by omega, fun j hjj => ?_⟩
                have hjj' : j < len * i.size + news.length := by rw [hnl, ← Nat.add_mul]; exact hjj
                obtain ⟨v, h3, h4⟩ := grown_cells (X := X) (ρ := ρ') (rest := arr.toList.drop (base + off + len * i.size + news.length)) hlo (fun j hj => by obtain ⟨v, h1, h2⟩ := hgd j hj; exact ⟨v, h1, h2.le hle'⟩) (hr.le hle') (by rw [hnl, ← Nat.add_mul]; omega) j hjj'
                refine ⟨v, ?_, h4⟩
                rw [← h3, List.getElem?_toArray]
                have hsplit : arr.toList.take (base + off + len * i.size) = arr.toList.take (base + off) ++ olds := by
                  rw [← htk]
                  conv => lhs; rw [← List.take_append_drop (base + off) (arr.toList.take (base + off + len * i.size))]
                  rw [List.take_take, Nat.min_eq_left (by omega)]
                rw [hsplit, List.append_assoc, List.append_assoc, List.getElem?_append_right (by simp; omega)]
                rw [List.append_assoc]
                congr 1
                simp; omega
            · have hg' : cap < len + (n + 1) := by omega
              have hrun := run_app_grow (ty := ty) c0 c1 ht hu hi hzv hO hN hg' (by omega) (fits hg' o2' o3)
              obtain ⟨ρ', h3, h4⟩ := grown_new hH (e := e) (olds := olds) (k := len * i.size) (need := len + (n + 1)) hzs (Go.grownCap_ge w (len + (n + 1)) cap e) hol (by rw [hnl, ← Nat.add_mul]) o1 hgd hr (kill := some id) hn
              exact ⟨ρ', _, _, hrun, h3, h4⟩
end
end Ds
namespace Ds
open Go (IntKind Value World Addr MapEntry Program Sem Result Operand TypeId)
section
variable {P : Program} {X : Cx} {E : Env} {pd : P5 → Prop} {ρ : Rho} {H : Hp} {w : World}
theorem allOne_take : ∀ (n : Nat) (l : List AV), allOne l = true → allOne (l.take n) = true
  | 0, l, _ => by simp [allOne]
  | n + 1, [], _ => by simp [allOne]
  | n + 1, a :: l, h => by
    simp only [allOne] at h
    cases h1 : a.one with
    | false => rw [h1] at h; cases h
    | true => rw [h1] at h; simp only [List.take_succ_cons, allOne, h1]; exact allOne_take n l h
theorem cpyTo_sound (hH : HR X pd ρ H w) {sz : Nat} {id : P5} {off len B base C : Nat} (er : ρ id = some (B, base, C)) {y : AV} {vy : Value} (ry : VR X ρ y vy) {v : AV} {H' : Hp} (hq : lCpyTo H sz id off len y = some (v, H')) :
    ∃ n news w', Items P w sz n vy news ∧ (Go.storeCells ⟨B, base + off, none⟩ (news.take (min n len * sz))).run P w = .ok () w' ∧ Stp X pd ρ H w ρ H' w' ∧ v = .int .i64 (.lit (.ofNat (min n len))) := by
  unfold lCpyTo at hq
  cases hit : itemsOf H sz y with
  | none => rw [hit] at hq; cases hq
  | some q =>
    obtain ⟨n, l⟩ := q
    rw [hit] at hq
    obtain ⟨news, yb, ycap, hN, hr, hnm, hyr⟩ := items_sound (P := P) hH ry hit
    simp only [] at hq
    cases h1 : allOne l with
    | false => rw [h1] at hq; cases hq
    | true =>
      rw [h1] at hq
      simp only [] at hq
      have hnl := hN.length
      cases hb : Nat.ble n len with
      | true =>
        rw [hb] at hq
        simp only [] at hq
        have hle := ble_true.1 hb
        cases hp : H.put id off (Nat.mul n sz) l with
        | none => rw [hp] at hq; cases hq
        | some H1 =>
          rw [hp] at hq; cases hq
          obtain ⟨w', g1, g2⟩ := put_sound (P := P) hH hp hr hnl (allOne_one hr h1) er
          refine ⟨n, news, w', hN, ?_, g2, by rw [Nat.min_eq_left hle]⟩
          rw [Nat.min_eq_left hle, ← hnl, List.take_length]; exact g1
      | false =>
        rw [hb] at hq
        simp only [] at hq
        have hle : len ≤ n := by
          rcases Nat.le_total len n with h | h
          · exact h
          · have : Nat.ble n len = true := ble_true.2 h
            rw [this] at hb; cases hb
        cases hp : H.put id off (Nat.mul len sz) (takeA (Nat.mul len sz) l) with
        | none => rw [hp] at hq; cases hq
        | some H1 =>
          rw [hp] at hq; cases hq
          rw [takeA_eq] at hp
          have hr' := hr.take (Nat.mul len sz)
          have hmul : len * sz ≤ n * sz := Nat.mul_le_mul_right _ hle
          obtain ⟨w', g1, g2⟩ := put_sound (P := P) hH hp hr' (by rw [List.length_take, hnl]; show min (len * sz) _ = len * sz; omega) (allOne_one hr' (allOne_take _ _ h1)) er
          refine ⟨n, news, w', hN, ?_, g2, by rw [Nat.min_eq_right hle]⟩
          rw [Nat.min_eq_right hle]; exact g1
theorem cpy_sound (hH : HR X pd ρ H w) {t ty e : TypeId} {cts : Array TypeId} (c0 : cts[0]? = some t) (ht : P.underlying t = some (.slice e)) {sz : Nat} (hs : sizeT P e = some sz) {x y : AV} {vx vy : Value} (rx : VR X ρ x vx) (ry : VR X ρ y vy) {v : AV} {H' : Hp}
    (hq : lCpy H sz x y = some (v, H')) : ∃ ρ' w' v', (Go.Builtin.copy_ cts ty #[vx, vy]).run P w = .ok v' w' ∧ Stp X pd ρ H w ρ' H' w' ∧ VR X ρ' v v' := by
  have run : ∀ (a : Addr) (len cap n : Nat) (news : List Value) (w' : World), Items P w sz n vy news → (Go.storeCells a (news.take (min n len * sz))).run P w = .ok () w' →
      (Go.Builtin.copy_ cts ty #[.slice (some a) len cap, vy]).run P w = .ok (Go.goInt ((min n len : Nat) : Int)) w' := by
    intro a len cap n news w' hN hst
    have hf := hN.first (min n len) w (by omega) rfl
    have hmin : Nat.min n len = min n len := rfl
    generalize min n len = m at *
    simp [Go.Builtin.copy_, c0, Go.run_underlying ht, hN.len, run_sizeT hs, hmin, hf, hst]
  cases rx <;> simp only [lCpy, reduceCtorEq] at hq
  case sl id off len cap B base C er hle =>
    obtain ⟨n, news, w', hN, hst, hs', rfl⟩ := cpyTo_sound (P := P) hH er ry hq
    exact ⟨ρ, w', _, run _ len cap n news w' hN hst, hs', .int _ _ _ trivial rfl⟩
  case su id off len s B base C cap a er ha =>
    obtain ⟨n, news, w', hN, hst, hs', rfl⟩ := cpyTo_sound (P := P) hH er ry hq
    rcases ha with ⟨rfl, rfl, _⟩ | ⟨rfl, _, _⟩
    · have h0 : min n 0 * sz = 0 := by simp
      rw [h0, List.take_zero, storeCells_nil] at hst
      refine ⟨ρ, w', _, run _ 0 0 n news w' hN (by rw [h0, List.take_zero, storeCells_nil]; exact hst), hs', .int _ _ _ trivial rfl⟩
    · exact ⟨ρ, w', _, run _ len cap n news w' hN hst, hs', .int _ _ _ trivial rfl⟩
theorem decDigits_ne (n : Nat) : Go.Lib.decDigits n ≠ [] := by
  intro h
  have := Go.Lib.decDigits_eq n
  rw [h] at this
  have h1 := congrArg List.length this
  simp at h1
  have := Go.Lib.nDigits_pos n
  omega
theorem itoa_ne (n : Int) : Go.Lib.itoa n ≠ [] := by
  unfold Go.Lib.itoa
  split
  · simp
  · exact decDigits_ne _
theorem full_spec (σ : Val) : ∀ s : SS, (SS.full s = some true → s.ev σ ≠ []) ∧ (SS.full s = some false → s.ev σ = [])
  | .lit [] => by simp [SS.full, SS.ev, b8]
  | .lit (_ :: _) => by simp [SS.full, SS.ev, b8]
  | .var _ => by simp [SS.full]
  | .dig e => by simp [SS.full, SS.ev, itoa_ne]
  | .cat a b => by
    have ha := full_spec σ a
    have hb := full_spec σ b
    simp only [SS.full, SS.ev]
    cases h1 : SS.full a with
    | none =>
      simp only []
      cases h2 : SS.full b with
      | none => simp
      | some q => cases q <;> simp_all
    | some q => cases q <;> simp_all
def byteVs (l : List UInt8) : List Value := l.map fun b => Value.int .u8 b.toNat
theorem text_items {sz : Nat} (hsz : sz = 1) {b : ByteArray} {l : List UInt8} (hb : b.data.toList = l) (w : World) : Items P w sz l.length (.string b) (byteVs l) := by
  have hs : b.size = l.length := by rw [← hb, Array.length_toList]; rfl
  refine ⟨fun w' => by simp [Go.Builtin.lenOf, hs], fun k w' hk _ => ?_, by simp [byteVs, hsz]⟩
  subst hsz
  simp only [Go.Builtin.firstCells, Sem.run_pure, Nat.mul_one]
  congr 1
  apply Array.ext'
  rw [Array.toList_map, Go.Lib.extract_data, hb, byteVs, ← List.map_take]
  rfl
theorem byteVs_one (l : List UInt8) : ∀ v ∈ byteVs l, v.oneCell' = true := by
  intro v hv
  simp only [byteVs, List.mem_map] at hv
  obtain ⟨b, _, rfl⟩ := hv
  rfl
theorem byteVs_get (l : List UInt8) (j : Nat) (h : j < l.length) : (byteVs l)[j]? = some (.int .u8 ((l.getD j 0).toNat)) := by
  simp [byteVs, h, List.getD]
theorem run_apps_grow {t u ty e : TypeId} {cts : Array TypeId} (c0 : cts[0]? = some t) (c1 : cts[1]? = some u) {i : Go.TypeInfo} {z : Value} (ht : P.underlying t = some (.slice e)) (hu : P.underlying u = some .string) (hi : P.info? e = some i) (hz : i.zero = some z)
    {b : Option Addr} {sLen sCap n : Nat} {x : Value} {olds news : List Value} (ho : Items P w i.size sLen (.slice b sLen sCap) olds) (hn : Items P w i.size n x news)
    (hg : sCap < sLen + n) (h63 : sLen + n ≤ 9223372036854775807) (hfit : Go.Builtin.nextslicecap (sLen + n) sCap * i.bytes ≤ 281474976710656) :
    (Go.Builtin.append_ cts ty #[.slice b sLen sCap, x]).run P w =
      .ok (.slice (some ⟨w.heap.size, 0, none⟩) (sLen + n) (Go.grownCap w (sLen + n) sCap e))
        (w.drew.alloc (.cells (olds.toArray ++ news.toArray ++ Go.Builtin.zeroCells z.cells (Go.grownCap w (sLen + n) sCap e - (sLen + n))) e)) := by
  have hn' : ¬ (sLen + n ≤ sCap) := by omega
  have h63' : ¬ (9223372036854775807 < ((sLen : Int) + (n : Int))) := by omega
  have h48' : ¬ (281474976710656 < Go.Builtin.nextslicecap (sLen + n) sCap * i.bytes) := by omega
  have hf := hn.first n w.drew (Nat.le_refl _) rfl
  have hfo := ho.first sLen w.drew (Nat.le_refl _) rfl
  rw [← hn.length, List.take_length] at hf
  rw [← ho.length, List.take_length] at hfo
  simp [Go.Builtin.append_, c0, c1, Go.run_underlying ht, Go.run_underlying hu, Go.sizeOf, Go.typeInfo, Go.zeroValue, hi, hz, hn.len, hn', h63', h48', Go.Question.forced, hf, hfo, Go.newRow, Go.grownCap]
  congr 2
  apply Array.ext'
  simp [List.append_assoc]
theorem run_apps_in {t u ty e : TypeId} {cts : Array TypeId} (c0 : cts[0]? = some t) (c1 : cts[1]? = some u) {i : Go.TypeInfo} (ht : P.underlying t = some (.slice e)) (hu : P.underlying u = some .string) (hi : P.info? e = some i)
    {a : Addr} {sLen sCap n : Nat} {x : Value} {news : List Value} (hn : Items P w i.size n x news) (hg : sLen + n ≤ sCap) {w' : World} (hst : (Go.storeCells (a.add (sLen * i.size)) news).run P w = .ok () w') :
    (Go.Builtin.append_ cts ty #[.slice (some a) sLen sCap, x]).run P w = .ok (.slice (some a) (sLen + n) sCap) w' := by
  have hf := hn.first n w (Nat.le_refl _) rfl
  rw [← hn.length, List.take_length] at hf
  simp [Go.Builtin.append_, c0, c1, Go.run_underlying ht, Go.run_underlying hu, Go.sizeOf, Go.typeInfo, hi, hn.len, hg, hf, hst]
theorem run_apps_none {t u ty e : TypeId} {cts : Array TypeId} (c0 : cts[0]? = some t) (c1 : cts[1]? = some u) {i : Go.TypeInfo} (ht : P.underlying t = some (.slice e)) (hu : P.underlying u = some .string) (hi : P.info? e = some i)
    {x : Value} {news : List Value} (hn : Items P w i.size 0 x news) :
    (Go.Builtin.append_ cts ty #[.slice none 0 0, x]).run P w = .ok (.slice none 0 0) w := by
  have hf := hn.first 0 w (Nat.le_refl _) rfl
  simp [Go.Builtin.append_, c0, c1, Go.run_underlying ht, Go.run_underlying hu, Go.sizeOf, Go.typeInfo, hi, hn.len, hf]
theorem bytes_new (hH : HR X pd ρ H w) {e : TypeId} {s : SS} (ws : s.wf) {z : Array Value} (hzs : z.size = 1) {n cap : Nat} (hn : n = (s.ev X.σ).length) (hcap : n ≤ cap) {kill : Option P5} {id' : P5} {H' : Hp}
    (hnw : (killed H kill).new (.bytes s) = some (id', H')) {row : Array Value} (hrow : row = (byteVs (s.ev X.σ)).toArray ++ Go.Builtin.zeroCells z (cap - n)) :
    ∃ ρ', Stp X pd ρ H w ρ' H' (w.drew.alloc (.cells row e)) ∧ VR X ρ' (.buf id' (lenS s)) (.slice (some ⟨w.heap.size, 0, none⟩) n cap) := by
  have hd : Stp X pd ρ H w ρ H w.drew := HR.drawn hH _
  have hk' : Stp X pd ρ H w ρ (killed H kill) w.drew := by
    cases kill with
    | none => exact hd
    | some id => exact hd.trans (HR.kill hd.hr id)
  have hbl : (byteVs (s.ev X.σ)).length = (s.ev X.σ).length := by simp [byteVs]
  have hal := HR.alloc hk'.hr hnw (.cells row e) cap (fun ρ' e' hle hid hw => by
    refine ⟨w.drew.heap.size, 0, cap, _, e, hid, hw, ?_, by omega, ws, fun j hj => ?_⟩
    · rw [hrow]
      simp only [Array.size_append, List.size_toArray, Go.size_zeroCells, hzs, hbl]
      omega
    · rw [hrow, Nat.zero_add, ← Array.getElem?_toList, Array.toList_append, List.toList_toArray, List.getElem?_append_left (by omega)]
      exact byteVs_get _ j hj)
  exact ⟨_, hk'.trans hal, .buf _ _ n _ 0 cap (lenS_ev X s ws).1 (Rho.upd_self _ _ _) (by rw [(lenS_ev X s ws).2, hn]) hcap⟩
theorem apps_sound (hH : HR X pd ρ H w) {t u ty e : TypeId} {cts : Array TypeId} (c0 : cts[0]? = some t) (c1 : cts[1]? = some u) (ht : P.underlying t = some (.slice e)) (hu : P.underlying u = some .string) {i : Go.TypeInfo} (hi : P.info? e = some i) (hsz : i.size = 1) (hby : i.bytes = 1)
    {z : List AV} (hz : zeroL P e = some z) (hzl : z.length = 1) {x y : AV} {vx vy : Value} (rx : VR X ρ x vx) (ry : VR X ρ y vy) {v : AV} {H' : Hp} (hq : lApps H x y = some (v, H')) :
    ∃ ρ' w' v', (Go.Builtin.append_ cts ty #[vx, vy]).run P w = .ok v' w' ∧ Stp X pd ρ H w ρ' H' w' ∧ VR X ρ' v v' := by
  obtain ⟨i', zv, hi', hzv, hv⟩ := zeroL_VR (X := X) (ρ := ρ) hz
  rw [hi] at hi'; cases hi'
  have hzs : zv.cells.size = 1 := by have := hv.length; simp at this; omega
  unfold lApps at hq
  cases ry <;> simp only [reduceCtorEq] at hq
  rename_i s b ws hb
  have hN := text_items (P := P) hsz hb w
  have hub := SS.ev_ub X s
  cases h1 : Nat.ble (SS.ub s) 16777216 with
  | false => rw [h1] at hq; cases hq
  | true =>
    rw [h1] at hq
    have h1' := ble_true.1 h1
    simp only [] at hq
    cases rx <;> simp only [reduceCtorEq] at hq
    case nils =>
      have hO : Items P w i.size 0 (.slice none 0 0) [] := ⟨fun w' => by simp [Go.Builtin.lenOf], fun k w' hk _ => by simp [Go.Builtin.firstCells], by simp⟩
      cases hf : SS.full s with
      | none => rw [hf] at hq; cases hq
      | some q =>
        rw [hf] at hq
        cases q with
        | false =>
          cases hq
          have he := (full_spec X.σ s).2 hf
          rw [he] at hN
          exact ⟨ρ, w, _, run_apps_none c0 c1 ht hu hi hN, Stp.refl hH, .nils⟩
        | true =>
          simp only [] at hq
          cases hn : H.new (.bytes s) with
          | none => rw [hn] at hq; cases hq
          | some q =>
            obtain ⟨id', H1⟩ := q
            rw [hn] at hq; cases hq
            have he := (full_spec X.σ s).1 hf
            have hpos : 0 < (s.ev X.σ).length := List.length_pos_iff.2 he
            have hrun := run_apps_grow (ty := ty) c0 c1 ht hu hi hzv hO hN (by omega) (by omega) (Go.growslice_fits (by omega) (by rw [hby]; omega))
            obtain ⟨ρ', g1, g2⟩ := bytes_new hH (e := e) ws hzs (n := 0 + (s.ev X.σ).length) (by omega) (Go.grownCap_ge w _ 0 e) (kill := none) hn (row := #[] ++ (byteVs (s.ev X.σ)).toArray ++ _) (by rw [Array.empty_append])
            exact ⟨ρ', _, _, hrun, g1, g2⟩
    case buf id n len B base C wn er en hle =>
      have hob := hH.obj id
      cases hg : H.get id <;> rw [hg] at hq hob <;> simp only [reduceCtorEq] at hq
      rename_i s0
      obtain ⟨B', base', C', arr, el, er', hbl, hs, hle', ws0, hj⟩ := hob
      rw [er] at er'; cases er'
      have hlive : Live H id := by unfold Live; rw [hg]; simp
      have hub0 := SS.ev_ub X s0
      cases h2 : (Nat.ble (Nat.add (SS.ub s0) (SS.ub s)) 16777216 && SI.eqb n (lenS s0)) with
      | false => rw [h2] at hq; cases hq
      | true =>
        rw [h2] at hq
        simp only [Bool.and_eq_true] at h2
        have h2' : SS.ub s0 + SS.ub s ≤ 16777216 := ble_true.1 h2.1
        have hlen : len = (s0.ev X.σ).length := by
          have := SI.eqb_ev X.σ _ _ h2.2
          rw [en, (lenS_ev X s0 ws0).2] at this
          omega
        simp only [] at hq
        cases hn : (H.set id .none).new (.bytes (SS.app s0 s)) with
        | none => rw [hn] at hq; cases hq
        | some q =>
          obtain ⟨id', H1⟩ := q
          rw [hn] at hq; cases hq
          have wa := SS.app_wf s s0 ws0 ws
          have ea := SS.app_ev X.σ s s0
          have hol : (byteVs (s0.ev X.σ)).length = len := by simp [byteVs, hlen]
          have hnl : (byteVs (s.ev X.σ)).length = (s.ev X.σ).length := by simp [byteVs]
          have hcell : ∀ j v, (byteVs (s0.ev X.σ))[j]? = some v → arr[base + j]? = some v := by
            intro j v hv
            have hjl : j < (s0.ev X.σ).length := by have := (List.getElem?_eq_some_iff.1 hv).1; omega
            rw [hj j hjl, ← byteVs_get _ j hjl, hv]
          have hO : Items P w i.size len (.slice (some ⟨B, base, none⟩) len C) (byteVs (s0.ev X.σ)) :=
            ⟨fun w' => by simp [Go.Builtin.lenOf], fun k w' hk hw => run_first_part _ _ _ i.size len _ (by rw [hol, hsz, Nat.mul_one]) (fun j v hv => by
              rw [addr_add]; simp only [World.cell?, hbl]; simpa using hcell j v hv) k w' hk hw, by rw [hol, hsz, Nat.mul_one]⟩
          by_cases hin : len + (s.ev X.σ).length ≤ C
          · have hst := Go.run_storeCells_at P B (base + len) el (byteVs (s.ev X.σ)) 0 arr w hbl (by rw [hnl]; omega) (byteVs_one _)
            simp only [Nat.add_zero] at hst
            have hrow := Go.setRow_heap w B arr (arr.toList.take (base + len) ++ byteVs (s.ev X.σ) ++ arr.toList.drop (base + len + (byteVs (s.ev X.σ)).length)).toArray el (0, 0) hbl
            have har : arr.toList.length = arr.size := by simp
            refine ⟨_, _, _, run_apps_in c0 c1 ht hu hi hN hin (by rw [addr_add, hsz, Nat.mul_one]; exact hst),
              HR.share hH hlive (B := B) (by simp [Rho.blk, er]) hn base C (fun k hk => Go.setRow_other w B k _ hk) (Go.setRow_size _ _ _) rfl rfl rfl (fun ρ' e' hle2 hid => ?_),
              .buf _ _ (len + (s.ev X.σ).length) B base C (lenS_ev X _ wa).1 (Rho.upd_self _ _ _) (by rw [(lenS_ev X _ wa).2, ea, List.length_append, hlen]) hin⟩
            refine ⟨B, base, C, _, el, hid, hrow, by simp; omega, by rw [ea, List.length_append]; omega, wa, fun j hjj => ?_⟩
            rw [← byteVs_get _ j hjj]
            have happ : byteVs ((SS.app s0 s).ev X.σ) = byteVs (s0.ev X.σ) ++ byteVs (s.ev X.σ) := by rw [ea]; simp [byteVs]
            have hjj' : j < len + (s.ev X.σ).length := by rw [ea, List.length_append] at hjj; omega
            rw [happ, List.getElem?_toArray]
            by_cases c : j < len
            · rw [List.append_assoc, List.getElem?_append_left (by simp; omega), List.getElem?_take_of_lt (by omega), List.getElem?_append_left (by omega), Array.getElem?_toList]
              have h3 := List.getElem?_eq_getElem (l := byteVs (s0.ev X.σ)) (show j < _ by omega)
              rw [h3]
              exact hcell j _ h3
            · rw [List.append_assoc, List.getElem?_append_right (by simp; omega), List.getElem?_append_left (by simp; omega), List.getElem?_append_right (by omega)]
              congr 1
              simp; omega
          · have hg' : C < len + (s.ev X.σ).length := by omega
            have hrun := run_apps_grow (ty := ty) c0 c1 ht hu hi hzv hO hN hg' (by omega) (Go.growslice_fits (by omega) (by rw [hby]; omega))
            have happ : byteVs ((SS.app s0 s).ev X.σ) = byteVs (s0.ev X.σ) ++ byteVs (s.ev X.σ) := by rw [ea]; simp [byteVs]
            have hr0 : ∀ Z : Array Value, (byteVs (s0.ev X.σ)).toArray ++ (byteVs (s.ev X.σ)).toArray ++ Z = (byteVs ((SS.app s0 s).ev X.σ)).toArray ++ Z := by
              intro Z; rw [happ]; apply Array.ext'; simp
            rw [hr0] at hrun
            obtain ⟨ρ', g1, g2⟩ := bytes_new hH (e := e) wa hzs (n := len + (s.ev X.σ).length) (by rw [ea, List.length_append]; omega) (Go.grownCap_ge w _ C e) (kill := some id) hn rfl
            exact ⟨ρ', _, _, hrun, g1, g2⟩
end
end Ds
namespace Ds
open Go (IntKind Value World Addr MapEntry Program Sem Result Operand TypeId)
section
variable {P : Program} {X : Cx} {E : Env} {pd : P5 → Prop} {ρ : Rho} {H : Hp} {w : World}
theorem l_sound (hok : EnvOk P X E) (hH : HR X pd ρ H w) (hG : GR P ρ) {t : T3 AV} {a : Go.Act} (hT : TR X ρ t a.tmps) {names : List String}
    {o : Go.Oper} {q : L} (hc : cOp P names o = some (.l q)) {v : AV} {H' : Hp} (hq : q.ev E t H = some (v, H')) : Comes2 P X pd ρ H w ((Go.execOp a.eval o).run P w) v H' := by
  cases hop : o.op
  case alloc ty =>
    simp only [cOp, hop, Option.map_eq_some_iff, Option.bind_eq_bind, Option.bind_eq_some_iff, QL.l.injEq, exists_eq_right, Option.some.injEq] at hc
    obtain ⟨z, hz, rfl⟩ := hc
    simpa only [Go.execOp, hop] using comes2_v (alloc_sound hH hz hq)
  case box ty x =>
    simp only [cOp, hop, Option.map_eq_some_iff, Option.bind_eq_bind, Option.bind_eq_some_iff, QL.l.injEq, exists_eq_right, Option.some.injEq] at hc
    obtain ⟨x', hx, rfl⟩ := hc
    simp only [L.ev] at hq
    cases hl : AV.cells? (Opn.ev x' t) with
    | none => rw [hl] at hq; cases hq
    | some l =>
      rw [hl] at hq
      simpa only [Go.execOp, hop] using comes2_v (box_sound hH (cOpn_VR hT hG hx) hl hq)
  case buildSlice ty len ps =>
    simp only [cOp, hop, Option.map_eq_some_iff, Option.bind_eq_bind, Option.bind_eq_some_iff, QL.l.injEq, exists_eq_right] at hc
    obtain ⟨d, hd, h⟩ := hc
    split at h
    · rename_i e
      simp only [Option.bind_eq_some_iff, guardO_some, Option.some.injEq] at h
      obtain ⟨n, hn, z, hz, qs, hp, h1, rfl⟩ := h
      simp only [Bool.and_eq_true, beq_iff_eq, decide_eq_true_eq] at h1
      simp only [L.ev] at hq
      cases hf : fillP t (repl z len) qs with
      | none => rw [hf] at hq; cases hq
      | some l =>
        rw [hf] at hq
        simpa only [Go.execOp, hop] using comes2_v (bsl_sound hH hG hT hd hn hz h1.1 h1.2 hp hf hq)
    · cases h
  case store ty x y =>
    simp only [cOp, hop, Option.map_eq_some_iff, Option.bind_eq_bind, Option.bind_eq_some_iff, QL.l.injEq, exists_eq_right, Option.some.injEq] at hc
    obtain ⟨x', hx, y', hy, n, hn, rfl⟩ := hc
    obtain ⟨rfl, h⟩ := st_sound (P := P) hH (cOpn_VR hT hG hx) (cOpn_VR hT hG hy) hn hq
    simpa only [Go.execOp, hop] using comes2_u h
  case makeMap ty r =>
    cases r
    · simp only [cOp, hop, Option.some.injEq, QL.l.injEq] at hc
      subst hc
      simpa only [Go.execOp, hop, Option.map_none] using comes2_v (mkmap_sound hH hq)
    · simp [cOp, hop] at hc
  case makeSlice ty x y =>
    simp only [cOp, hop, Option.map_eq_some_iff, Option.bind_eq_bind, Option.bind_eq_some_iff, QL.l.injEq, exists_eq_right] at hc
    obtain ⟨d, hd, h⟩ := hc
    split at h
    · rename_i e
      simp only [Option.bind_eq_some_iff, guardO_some, Option.some.injEq] at h
      obtain ⟨i, hi, z, hz, x', hx, y', hy, h1, rfl⟩ := h
      simp only [Bool.and_eq_true, beq_iff_eq, bne_iff_ne, ne_eq] at h1
      have hq' : orP (lMksl H z i.bytes (x'.ev t) (y'.ev t)) (lMkslX E H i.bytes (x'.ev t) (y'.ev t)) = some (v, H') := hq
      cases hm : lMksl H z i.bytes (x'.ev t) (y'.ev t) with
      | some q =>
        rw [hm] at hq'
        simp only [orP] at hq'
        exact (by simpa only [Go.execOp, hop] using comes2_v (mksl_sound hH hd hi hz h1.1 h1.2 (cOpn_VR hT hG hx) (cOpn_VR hT hG hy) (hm.trans hq')))
      | none =>
        rw [hm] at hq'
        simp only [orP] at hq'
        exact (by simpa only [Go.execOp, hop] using comes2_v (mkslX_sound hok hH hd hi hz h1.1 h1.2 (cOpn_VR hT hG hx) (cOpn_VR hT hG hy) hq'))
    · cases h
  case mapUpdate ty m k x =>
    simp only [cOp, hop, Option.map_eq_some_iff, Option.bind_eq_bind, Option.bind_eq_some_iff, QL.l.injEq, exists_eq_right] at hc
    obtain ⟨d, hd, h⟩ := hc
    split at h
    · rename_i kt e
      simp only [Option.bind_eq_some_iff, Option.some.injEq] at h
      obtain ⟨txt, hk, m', hm, k', hk', x', hx, rfl⟩ := h
      obtain ⟨rfl, h⟩ := mup_sound (P := P) hok hH (cOpn_VR hT hG hm) (cOpn_VR hT hG hk') (cOpn_VR hT hG hx) hd hk hq
      simpa only [Go.execOp, hop] using comes2_u h
    · cases h
  case insert ty m k x =>
    simp only [cOp, hop, Option.map_eq_some_iff, Option.bind_eq_bind, Option.bind_eq_some_iff, QL.l.injEq, exists_eq_right] at hc
    obtain ⟨d, hd, h⟩ := hc
    split at h
    · rename_i kt e
      simp only [Option.bind_eq_some_iff, Option.some.injEq] at h
      obtain ⟨txt, hk, m', hm, k', hk', x', hx, rfl⟩ := h
      obtain ⟨rfl, h⟩ := mup_sound (P := P) hok hH (cOpn_VR hT hG hm) (cOpn_VR hT hG hk') (cOpn_VR hT hG hx) hd hk hq
      simpa only [Go.execOp, hop] using comes2_u h
    · cases h
  case range ty x =>
    simp only [cOp, hop, Option.map_eq_some_iff, Option.bind_eq_bind, Option.bind_eq_some_iff, QL.l.injEq, exists_eq_right] at hc
    obtain ⟨d, hd, h⟩ := hc
    split at h
    · simp only [Option.bind_eq_some_iff, Option.some.injEq] at h
      obtain ⟨x', hx, rfl⟩ := h
      simpa only [Go.execOp, hop] using comes2_v (rng_sound hH (cOpn_VR hT hG hx) hd hq)
    · cases h
  case next it b =>
    cases b
    · simp [cOp, hop] at hc
    · simp only [cOp, hop, Option.map_eq_some_iff, Option.bind_eq_bind, Option.bind_eq_some_iff, QL.l.injEq, exists_eq_right, Option.some.injEq] at hc
      obtain ⟨x', hx, rfl⟩ := hc
      simpa only [Go.execOp, hop] using comes2_v (nxt_sound (P := P) hH (cOpn_VR hT hG hx) hq)
  case call c =>
    simp only [cOp, hop] at hc
    obtain ⟨callee, cargs, cts⟩ := c
    unfold cCall at hc
    cases has : cOpns P cargs.toList with
    | none => simp only [has] at hc; cases hc
    | some as =>
    simp only [has] at hc
    have ras := cOpns_VR hT hG has
    cases callee with
    | value f =>
      cases f
      case func g => simp at hc
      all_goals (simp only [] at hc; split at hc <;> simp at hc)
    | invoke r m => simp only [] at hc; split at hc <;> simp at hc
    | builtin b =>
      simp only [] at hc
      have hex : ∀ (s : Sem Value), (∀ cs, Go.builtin b cts o.type cs (cargs.map a.eval) = (do pure (.value (← s)))) → (∃ ρ' w' v', s.run P w = .ok v' w' ∧ Stp X pd ρ H w ρ' H' w' ∧ VR X ρ' v v') → Comes2 P X pd ρ H w ((Go.execOp a.eval o).run P w) v H' := by
        intro s h1 h2
        obtain ⟨ρ', w', v', h3, h4, h5⟩ := h2
        refine ⟨ρ', w', v', .inl ?_, h4, h5⟩
        simp only [Go.execOp, hop, Go.resolve, Go.invoke, pure_bind, h1]
        simp [h3]
      have one : ∀ x', as = [x'] → ∃ x, cargs = #[x] ∧ VR X ρ (x'.ev t) (a.eval x) := by
        intro x' e
        subst e
        have hl := ras.length
        simp [evs] at hl
        have hx : cargs = #[cargs[0]] := by
          apply Array.ext
          · simp; omega
          · intro i h1 h2
            have : i = 0 := by simp at h2; omega
            subst this; simp
        refine ⟨cargs[0], hx, ?_⟩
        rw [hx] at ras
        simp only [evs, List.map_cons, List.map_nil] at ras
        cases ras with
        | cons _ _ _ _ rx _ => exact rx
      have two : ∀ x' y', as = [x', y'] → ∃ x y, cargs = #[x, y] ∧ VR X ρ (x'.ev t) (a.eval x) ∧ VR X ρ (y'.ev t) (a.eval y) := by
        intro x' y' e
        subst e
        have hl := ras.length
        simp [evs] at hl
        have hx : cargs = #[cargs[0], cargs[1]] := by
          apply Array.ext
          · simp; omega
          · intro i h1 h2
            rcases i with _ | _ | i
            · simp
            · simp
            · simp at h2; omega
        refine ⟨cargs[0], cargs[1], hx, ?_⟩
        rw [hx] at ras
        simp only [evs, List.map_cons, List.map_nil] at ras
        cases ras with
        | cons _ _ _ _ rx ras => cases ras with
          | cons _ _ _ _ ry _ => exact ⟨rx, ry⟩
      unfold cBuiltin at hc
      split at hc
      · repeat' (split at hc)
        all_goals (first | (cases hc; done) | (simp only [Option.some.injEq, reduceCtorEq] at hc))
      · simp only [Option.some.injEq, reduceCtorEq] at hc
      · simp only [Option.some.injEq, reduceCtorEq] at hc
      · rename_i x' y'
        obtain ⟨x, y, rfl, rx, ry⟩ := two x' y' rfl
        split at hc
        · rename_i ty u c0 c1
          split at hc
          · rename_i e e2 ht hu
            split at hc
            · rename_i i z hi hz
              simp only [guardO_some, Option.some.injEq, QL.l.injEq, beq_iff_eq] at hc
              obtain ⟨h1, rfl⟩ := hc
              exact hex _ (fun cs => by simp [Go.builtin]; rfl) (app_sound (P := P) hH c0 c1 ht hu hi hz h1 rx ry hq)
            · cases hc
          · rename_i e ht hu
            split at hc
            · rename_i i z hi hz
              simp only [guardO_some, Option.some.injEq, QL.l.injEq, beq_iff_eq, Bool.and_eq_true] at hc
              obtain ⟨⟨⟨h1, h2⟩, h3⟩, rfl⟩ := hc
              exact hex _ (fun cs => by simp [Go.builtin]; rfl) (apps_sound (P := P) hH c0 c1 ht hu hi h1 h2 hz h3 rx ry hq)
            · cases hc
          · cases hc
        · cases hc
      · rename_i x' y'
        obtain ⟨x, y, rfl, rx, ry⟩ := two x' y' rfl
        split at hc
        · rename_i ty c0
          split at hc
          · rename_i e ht
            split at hc
            · rename_i n hn
              simp only [Option.some.injEq, QL.l.injEq] at hc; subst hc
              exact hex _ (fun cs => by simp [Go.builtin]; rfl) (cpy_sound (P := P) hH c0 ht hn rx ry hq)
            · cases hc
          · cases hc
        · cases hc
      · rename_i x'
        obtain ⟨x, rfl, rx⟩ := one x' rfl
        split at hc
        · rename_i ty c0
          split at hc
          · rename_i e ht
            split at hc
            · rename_i z hz
              simp only [Option.some.injEq, QL.l.injEq] at hc; subst hc
              obtain ⟨rfl, ρ', w', h1, h2⟩ := clr_sound (P := P) (ty2 := o.type) hH c0 ht hz rx hq
              exact hex _ (fun cs => by simp [Go.builtin]) ⟨ρ', w', _, h1, h2, .tup [] [] .nil⟩
            · cases hc
          · cases hc
        · cases hc
      · rename_i x' y'
        obtain ⟨x, y, rfl, rx, ry⟩ := two x' y' rfl
        split at hc
        · rename_i ty c0
          split at hc
          · rename_i kt e ht
            split at hc
            · rename_i g hk
              simp only [Option.some.injEq, QL.l.injEq] at hc; subst hc
              obtain ⟨rfl, ρ', w', h1, h2⟩ := del_sound (P := P) (ty := o.type) hok hH rx ry c0 ht hk hq
              exact hex _ (fun cs => by simp [Go.builtin]) ⟨ρ', w', _, h1, h2, .tup [] [] .nil⟩
            · cases hc
          · cases hc
        · cases hc
      · cases hc
  case makeFunc fn first cap =>
    obtain ⟨fl⟩ := first
    obtain ⟨cl⟩ := cap
    cases fn <;> rcases fl with _ | ⟨z, _ | ⟨z2, zs⟩⟩ <;> cases cl <;> simp only [cOp, hop, Option.map_eq_some_iff, reduceCtorEq, and_false, exists_false] at hc
  case typeAssert x xt ty ok => cases ok <;> simp only [cOp, hop, Option.map_eq_some_iff, reduceCtorEq, and_false, exists_false] at hc
  case unOp u ty x => cases u <;> simp only [cOp, hop, Option.map_eq_some_iff, reduceCtorEq, and_false, exists_false] at hc
  all_goals (simp only [cOp, hop, Option.map_eq_some_iff, reduceCtorEq, and_false, exists_false] at hc)
end
end Ds
namespace Ds
open Go (IntKind Value World Addr MapEntry Program Sem Result Operand TypeId)
noncomputable def Op.val (E : Env) (call : CallF) : Op → T3 AV → Hp → Option (AV × Hp)
  | .q _ o => fun t h => (Q.ev E o t h).map (·, h)
  | .qr _ o _ _ => fun t h => (Q.ev E o t h).map (·, h)
  | .l _ o => fun t h => L.ev E o t h
  | .k _ o => fun t h => match kArgs E t o with
    | some (f, as) => match call f as h with | .ok v h' => some (v, h') | .no => none
    | none => none
  | .g p want o => fun t h => match get3 t p with
    | .bool b => match b == want with
      | true => Op.val E call o t h
      | false => some (undef, h)
    | .tup [] => some (undef, h)
    | _ => none
  | .s _ f as => fun t h => (E.soft f (evs t as)).map (·, h)
theorem Op.skip_eq {o : Op} {t t' : T3 AV} {h h' : Hp} (e : Op.skip o t h = .ok t' h') : t' = putO t o.dst undef ∧ h' = h := by
  cases o <;> simp only [Op.skip, Rs.ok.injEq, reduceCtorEq] at e <;> (obtain ⟨rfl, rfl⟩ := e; exact ⟨rfl, rfl⟩)
theorem Op.ev_val {E : Env} {call : CallF} : ∀ {o : Op} {t t' : T3 AV} {h h' : Hp}, Op.ev E call o t h = .ok t' h' → ∃ v, Op.val E call o t h = some (v, h') ∧ t' = putO t o.dst v
  | .q d o, t, t', h, h', e => by
    simp only [Op.ev] at e
    cases hq : Q.ev E o t h with
    | none => rw [hq] at e; cases e
    | some v => rw [hq] at e; cases e; exact ⟨v, by simp [Op.val, hq], rfl⟩
  | .qr d o _ _, t, t', h, h', e => by
    simp only [Op.ev] at e
    cases hq : Q.ev E o t h with
    | none => rw [hq] at e; cases e
    | some v => rw [hq] at e; cases e; exact ⟨v, by simp [Op.val, hq], rfl⟩
  | .l d o, t, t', h, h', e => by
    simp only [Op.ev] at e
    cases hq : L.ev E o t h with
    | none => rw [hq] at e; cases e
    | some v => obtain ⟨v, h1⟩ := v; rw [hq] at e; cases e; exact ⟨v, by simp [Op.val, hq], rfl⟩
  | .s d f as, t, t', h, h', e => by
    simp only [Op.ev] at e
    cases hq : E.soft f (evs t as) with
    | none => rw [hq] at e; cases e
    | some v => rw [hq] at e; cases e; exact ⟨v, by simp [Op.val, hq], rfl⟩
  | .k d o, t, t', h, h', e => by
    simp only [Op.ev] at e
    cases hk : kArgs E t o with
    | none => rw [hk] at e; cases e
    | some q =>
      obtain ⟨f, as⟩ := q
      rw [hk] at e
      simp only [] at e
      cases hc : call f as h with
      | no => rw [hc] at e; cases e
      | ok v h1 => rw [hc] at e; cases e; exact ⟨v, by simp [Op.val, hk, hc], rfl⟩
  | .g p want o, t, t', h, h', e => by
    simp only [Op.ev] at e
    simp only [Op.val, Op.dst]
    split at e
    · rename_i b hb
      cases hw : (b == want) with
      | true => rw [hw] at e; obtain ⟨v, h1, h2⟩ := Op.ev_val e; exact ⟨v, by rw [hb]; simp only [hw]; exact h1, h2⟩
      | false => rw [hw] at e; obtain ⟨rfl, rfl⟩ := Op.skip_eq e; exact ⟨undef, by rw [hb]; simp only [hw], rfl⟩
    · rename_i hb
      obtain ⟨rfl, rfl⟩ := Op.skip_eq e
      exact ⟨undef, by rw [hb], rfl⟩
    · cases e
def Agree (t t' : T3 AV) (l : List P3) : Prop := ∀ p ∈ l, get3 t p = get3 t' p
theorem Agree.left {t t' : T3 AV} {a b : List P3} (h : Agree t t' (a ++ b)) : Agree t t' a := fun p hp => h p (List.mem_append_left _ hp)
theorem Agree.right {t t' : T3 AV} {a b : List P3} (h : Agree t t' (a ++ b)) : Agree t t' b := fun p hp => h p (List.mem_append_right _ hp)
theorem Opn.ev_agree {t t' : T3 AV} : ∀ {x : Opn}, Agree t t' x.rd → Opn.ev x t = Opn.ev x t'
  | .t p, h => h p (List.mem_singleton.2 rfl)
  | .c _, _ => rfl
theorem evs_agree {t t' : T3 AV} : ∀ {l : List Opn}, Agree t t' (Opn.rds l) → evs t l = evs t' l
  | [], _ => rfl
  | x :: l, h => by simp only [evs, Opn.ev_agree h.left, evs_agree h.right]
theorem fill_agree {t t' : T3 AV} : ∀ {ps : List (Nat × Nat × Opn)} (z : List AV), Agree t t' (partRd ps) → fillP t z ps = fillP t' z ps
  | [], z, _ => rfl
  | (a, b, x) :: l, z, h => by
    have h1 : Agree t t' x.rd := Agree.left h
    have h2 : Agree t t' (partRd l) := Agree.right h
    simp only [fillP, Opn.ev_agree h1]
    repeat' split
    all_goals (first | rfl | exact fill_agree _ h2)
theorem optNat_agree {t t' : T3 AV} {d : Nat} : ∀ {x : Option Opn}, Agree t t' (Opn.rdo x) → optNat t d x = optNat t' d x
  | none, _ => rfl
  | some x, h => by simp only [optNat, Opn.ev_agree h]
theorem optSI_agree {t t' : T3 AV} {d : SI} : ∀ {x : Option Opn}, Agree t t' (Opn.rdo x) → optSI t d x = optSI t' d x
  | none, _ => rfl
  | some x, h => by simp only [optSI, Opn.ev_agree h]
theorem Q.ev_agree {E : Env} {t t' : T3 AV} {h : Hp} {q : Q} (a : Agree t t' q.rd) : Q.ev E q t h = Q.ev E q t' h := by
  cases q <;> simp only [Q.rd] at a <;> simp only [Q.ev]
  case build z ps => rw [fill_agree z a]
  case mkfn f cs => rw [evs_agree a]
  case sls x lo hi => simp only [Opn.ev_agree a.left.left, qSls, optNat_agree a.left.right, optNat_agree a.right, qSlsX, optSI_agree a.left.right, optSI_agree a.right]
  case sll sz x lo hi m =>
    cases m
    case some m =>
      have hm : Opn.ev m t = Opn.ev m t' := Opn.ev_agree a.right
      simp only [Opn.ev_agree a.left.left.left, qSll, qSllX, optNat_agree a.left.left.right, optNat_agree a.left.right, optNat_agree a.right, hm]
    simp only [Opn.ev_agree a.left.left.left, qSll, qSllX, optNat_agree a.left.left.right, optNat_agree a.left.right, optNat_agree a.right]
  case sla n sz x lo hi => simp only [Opn.ev_agree a.left.left, qSla, optNat_agree a.left.right, optNat_agree a.right]
  case pick c x y => rw [Opn.ev_agree a.left.left, Opn.ev_agree a.left.right, Opn.ev_agree a.right]
  all_goals (first | rfl | rw [Opn.ev_agree a] | rw [Opn.ev_agree a.left, Opn.ev_agree a.right])
theorem L.ev_agree {E : Env} {t t' : T3 AV} {h : Hp} {q : L} (a : Agree t t' q.rd) : L.ev E q t h = L.ev E q t' h := by
  cases q <;> simp only [L.rd] at a <;> simp only [L.ev]
  case bsl n z ps => rw [fill_agree z a]
  case mup g m k v => rw [Opn.ev_agree a.left.left, Opn.ev_agree a.left.right, Opn.ev_agree a.right]
  all_goals (first | rfl | rw [Opn.ev_agree a] | rw [Opn.ev_agree a.left, Opn.ev_agree a.right])
theorem kArgs_agree {E : Env} {t t' : T3 AV} {k : K} (a : Agree t t' k.rd) : kArgs E t k = kArgs E t' k := by
  cases k <;> simp only [K.rd] at a <;> simp only [kArgs]
  case fn f as => rw [evs_agree a]
  case fv x as => rw [Opn.ev_agree a.left, evs_agree a.right]
  case inv x m as => rw [Opn.ev_agree a.left, evs_agree a.right]
theorem Op.val_agree {E : Env} {call : CallF} {t t' : T3 AV} {h : Hp} : ∀ {o : Op}, Agree t t' o.rd → Op.val E call o t h = Op.val E call o t' h
  | .q _ o, a => by simp only [Op.val, Q.ev_agree a]
  | .qr _ o _ _, a => by simp only [Op.val, Q.ev_agree a]
  | .l _ o, a => by simp only [Op.val, L.ev_agree a]
  | .k _ o, a => by simp only [Op.val, kArgs_agree a]
  | .s _ f as, a => by simp only [Op.val, evs_agree a]
  | .g p want o, a => by
    have h1 : get3 t p = get3 t' p := a p (List.mem_cons_self ..)
    have h2 : Agree t t' o.rd := fun x hx => a x (List.mem_cons_of_mem _ hx)
    simp only [Op.val, h1, Op.val_agree h2]
theorem Op.val_quiet {E : Env} {call : CallF} {t : T3 AV} {h h' : Hp} {v : AV} : ∀ {o : Op}, o.loud = false → Op.val E call o t h = some (v, h') → h' = h
  | .q _ o, _, e => by
    simp only [Op.val, Option.map_eq_some_iff, Prod.mk.injEq] at e
    obtain ⟨_, _, _, rfl⟩ := e; rfl
  | .qr _ o _ _, _, e => by
    simp only [Op.val, Option.map_eq_some_iff, Prod.mk.injEq] at e
    obtain ⟨_, _, _, rfl⟩ := e; rfl
  | .l _ o, hl, _ => by simp [Op.loud] at hl
  | .k _ o, hl, _ => by simp [Op.loud] at hl
  | .s _ f as, _, e => by
    simp only [Op.val, Option.map_eq_some_iff, Prod.mk.injEq] at e
    obtain ⟨_, _, _, rfl⟩ := e; rfl
  | .g p want o, hl, e => by
    simp only [Op.loud] at hl
    simp only [Op.val] at e
    split at e
    · split at e
      · exact Op.val_quiet hl e
      · simp only [Option.some.injEq, Prod.mk.injEq] at e; exact e.2.symm
    · simp only [Option.some.injEq, Prod.mk.injEq] at e; exact e.2.symm
    · cases e
theorem Q.ev_still {E : Env} {t : T3 AV} {h h' : Hp} {q : Q} (e : q.readsMem = false) : Q.ev E q t h = Q.ev E q t h' := by
  cases q <;> simp only [Q.readsMem, Bool.true_eq_false] at e <;> (try rfl)
  case eq n c g x y => cases g <;> simp only [Bool.true_eq_false] at e <;> rfl
theorem Op.val_still {E : Env} {call : CallF} {t : T3 AV} {h h' : Hp} {v : AV} : ∀ {o : Op}, o.loud = false → o.mem = false → Op.val E call o t h = some (v, h) → Op.val E call o t h' = some (v, h')
  | .q _ o, _, hm, e => by
    simp only [Op.mem] at hm
    simp only [Op.val, Option.map_eq_some_iff, Prod.mk.injEq] at e ⊢
    obtain ⟨a, h1, rfl, _⟩ := e
    exact ⟨a, by rw [← h1]; exact Q.ev_still hm, rfl, trivial⟩
  | .qr _ o _ _, _, hm, e => by
    simp only [Op.mem] at hm
    simp only [Op.val, Option.map_eq_some_iff, Prod.mk.injEq] at e ⊢
    obtain ⟨a, h1, rfl, _⟩ := e
    exact ⟨a, by rw [← h1]; exact Q.ev_still hm, rfl, trivial⟩
  | .l _ o, hl, _, _ => by simp [Op.loud] at hl
  | .k _ o, hl, _, _ => by simp [Op.loud] at hl
  | .s _ f as, _, _, e => by
    simp only [Op.val, Option.map_eq_some_iff, Prod.mk.injEq] at e ⊢
    obtain ⟨a, h1, rfl, _⟩ := e
    exact ⟨a, h1, rfl, trivial⟩
  | .g p want o, hl, hm, e => by
    simp only [Op.loud] at hl
    simp only [Op.mem] at hm
    simp only [Op.val] at e ⊢
    split at e
    · rename_i b hb
      split at e
      · exact Op.val_still hl hm e
      · simp only [Option.some.injEq, Prod.mk.injEq] at e ⊢; exact ⟨e.1, trivial⟩
    · simp only [Option.some.injEq, Prod.mk.injEq] at e ⊢; exact ⟨e.1, trivial⟩
    · cases e
end Ds
namespace Ds
open Go (IntKind Value World Addr MapEntry Program Sem Result Operand TypeId)
def CallOk (P : Program) (X : Cx) (call : CallF) : Prop :=
  ∀ (pd : P5 → Prop) (ρ : Rho) (H : Hp) (w : World) (f : Nat) (as : List AV) (vs : List Value) (v : AV) (H' : Hp), GR P ρ → HR X pd ρ H w → VRs X ρ as vs → call f as H = .ok v H' →
    (∃ fn, P.funcs[f]? = some fn ∧ (fn.name == "runtime.NumGoroutine") = false ∧ fn.body.isNone = false) ∧
    Go.Calls P f vs.toArray w (fun e w' => ∃ ρ' v', e = .returned v' ∧ Stp X pd ρ H w ρ' H' w' ∧ VR X ρ' v v')
section
variable {P : Program} {X : Cx} {E : Env} {pd : P5 → Prop} {ρ : Rho} {H : Hp} {w : World}
theorem run_callFunc {f : Nat} {args : Array Value} {fn : Go.Func} (h : P.funcs[f]? = some fn) (h1 : (fn.name == "runtime.NumGoroutine") = false) (h2 : fn.body.isNone = false) (w : World) :
    (Go.callFunc f args).run P w = .ok (.enter f args) w := by
  have h1' : fn.name ≠ "runtime.NumGoroutine" := by simpa using h1
  have h2' : fn.body ≠ none := by intro e; rw [e] at h2; cases h2
  simp [Go.callFunc, h, h1', h2']
theorem wp_enter {o : Go.Oper} {a : Go.Act} {f : Nat} {vs : List Value} (hrun : (Go.execOp a.eval o).run P w = .ok (.enter f vs.toArray) w) {v : AV} {H' : Hp}
    (hC : Go.Calls P f vs.toArray w (fun e w' => ∃ ρ' v', e = .returned v' ∧ Stp X pd ρ H w ρ' H' w' ∧ VR X ρ' v v')) {K : Go.Act → World → Prop} {Q : Go.Exit → Go.Act → World → Prop}
    (hK : ∀ ρ' w' v', Stp X pd ρ H w ρ' H' w' → VR X ρ' v v' → K (a.put o.dst v') w') : o.wp P a w K Q := by
  unfold Go.Oper.wp
  rw [hrun, Go.Oper.upon_enter]
  refine hC.mono (fun e w' he => ?_)
  obtain ⟨ρ', v', rfl, h1, h2⟩ := he
  exact hK ρ' w' v' h1 h2
theorem k_sound (hok : EnvOk P X E) {call : CallF} (hcall : CallOk P X call) (hH : HR X pd ρ H w) (hG : GR P ρ) {t : T3 AV} {a : Go.Act} (hT : TR X ρ t a.tmps) {names : List String} (hnm : ∀ i m, names.findIdx? (· == m) = some i → X.nm i = m)
    {o : Go.Oper} {k : K} (hc : cOp P names o = some (.k k)) {f : Nat} {as : List AV} (hk : kArgs E t k = some (f, as)) {v : AV} {H' : Hp} (hv : call f as H = .ok v H') {K : Go.Act → World → Prop} {Q : Go.Exit → Go.Act → World → Prop}
    (hK : ∀ ρ' w' v', Stp X pd ρ H w ρ' H' w' → VR X ρ' v v' → K (a.put o.dst v') w') : o.wp P a w K Q := by
  cases hop : o.op
  case call c =>
    simp only [cOp, hop] at hc
    obtain ⟨callee, cargs, cts⟩ := c
    unfold cCall at hc
    cases has : cOpns P cargs.toList with
    | none => simp only [has] at hc; cases hc
    | some as0 =>
    simp only [has] at hc
    have ras := cOpns_VR hT hG has
    have hmap : (cargs.map a.eval) = (cargs.toList.map a.eval).toArray := by apply Array.ext'; simp
    cases callee with
    | value x =>
      have hfv : ∀ (x' : Opn) (g : Nat) (cap : List AV), VR X ρ (x'.ev t) (a.eval x) → x'.ev t = .func g cap → f = g ∧ as = evs t as0 ++ cap → o.wp P a w K Q := by
        intro x' g cap rx hx he
        obtain ⟨rfl, rfl⟩ := he
        rw [hx] at rx
        generalize hax : a.eval x = ax at rx
        cases rx with
        | func _ _ cs rc =>
        obtain ⟨⟨fn, h1, h2, h3⟩, hC⟩ := hcall pd ρ H w f _ _ v H' hG hH (ras.append rc) hv
        refine wp_enter ?_ hC hK
        simp only [Go.execOp, hop, Go.resolve, Go.Deferred.ofValue, hax, pure_bind, Go.invoke, Array.empty_append]
        rw [run_callFunc h1 h2 h3, hmap]
        simp
      cases x
      case func g =>
        simp only [Option.some.injEq, QL.k.injEq] at hc; subst hc
        simp only [kArgs, Option.some.injEq, Prod.mk.injEq] at hk
        obtain ⟨rfl, rfl⟩ := hk
        obtain ⟨⟨fn, h1, h2, h3⟩, hC⟩ := hcall pd ρ H w g _ _ v H' hG hH ras hv
        refine wp_enter ?_ hC hK
        simp only [Go.execOp, hop, Go.resolve, Go.Deferred.ofValue, Go.Act.eval, pure_bind, Go.invoke, Array.empty_append, Array.append_empty]
        rw [run_callFunc h1 h2 h3, hmap]
      all_goals
        (simp only [] at hc
         split at hc
         · rename_i x' hx
           simp only [Option.some.injEq, QL.k.injEq] at hc; subst hc
           simp only [kArgs] at hk
           split at hk
           · rename_i g cap hg
             simp only [Option.some.injEq, Prod.mk.injEq] at hk
             exact hfv x' g cap (cOpn_VR hT hG hx) hg ⟨hk.1.symm, hk.2.symm⟩
           · cases hk
         · cases hc)
    | invoke r m =>
      simp only [] at hc
      split at hc
      · rename_i x' i hx hi
        simp only [Option.some.injEq, QL.k.injEq] at hc; subst hc
        simp only [kArgs] at hk
        split at hk
        · rename_i ty u hu
          cases hm : E.meths ty i with
          | none => rw [hm] at hk; cases hk
          | some g =>
            rw [hm] at hk
            simp only [Option.some.injEq, Prod.mk.injEq] at hk
            obtain ⟨rfl, rfl⟩ := hk
            have rx := cOpn_VR hT hG hx
            rw [hu] at rx
            generalize hax : a.eval r = ax at rx
            cases rx with
            | ifc _ _ y ry =>
            obtain ⟨ti, me, e, m1, m2, m3, m4, m5⟩ := hok.meths ty i g hm
            rw [hnm i m hi] at m2
            obtain ⟨⟨fn, h1, h2, h3⟩, hC⟩ := hcall pd ρ H w g _ _ v H' hG hH (VRs.cons _ _ _ _ ry ras) hv
            refine wp_enter ?_ hC hK
            have hmeth : ∀ n, (Go.method (n + 1) ty y m).run P w = .ok (g, y) w := by
              intro n
              simp [Go.method, Go.typeInfo, m1, m2, m3, m4, Go.follow, Go.receiverAt, Go.run_underlying m5, Go.Place.get]
            have hfuel : ∃ n, P.types.size + Go.Made.depth = n + 1 := by
              have : 0 < Go.Made.depth := by decide
              exact ⟨P.types.size + Go.Made.depth - 1, by omega⟩
            obtain ⟨n, hn⟩ := hfuel
            simp only [Go.execOp, hop, Go.resolve, hax, pure_bind, Go.invoke]
            simp [Go.callMethod, hn, hmeth, run_callFunc h1 h2 h3, hmap]
            exact List.take_of_length_le (by simp)
        · cases hk
      · cases hc
    | builtin b =>
      simp only [] at hc
      unfold cBuiltin at hc
      repeat' (split at hc)
      all_goals (first | (cases hc; done) | (simp only [Option.some.injEq, reduceCtorEq, guardO_some, and_false] at hc))
  case makeFunc fn first cap =>
    obtain ⟨fl⟩ := first
    obtain ⟨cl⟩ := cap
    cases fn <;> rcases fl with _ | ⟨z, _ | ⟨z2, zs⟩⟩ <;> cases cl <;> simp only [cOp, hop, Option.map_eq_some_iff, reduceCtorEq, and_false, exists_false] at hc
  case typeAssert x xt ty ok => cases ok <;> simp only [cOp, hop, Option.map_eq_some_iff, reduceCtorEq, and_false, exists_false] at hc
  case unOp u ty x => cases u <;> simp only [cOp, hop, Option.map_eq_some_iff, reduceCtorEq, and_false, exists_false] at hc
  case makeMap ty r => cases r <;> simp only [cOp, hop, reduceCtorEq, Option.some.injEq] at hc
  case next it b => cases b <;> simp only [cOp, hop, Option.map_eq_some_iff, reduceCtorEq, and_false, exists_false] at hc
  all_goals (simp only [cOp, hop, Option.map_eq_some_iff, reduceCtorEq, and_false, exists_false] at hc)
def BaseOf (op : Op) (d : Option P3) : QL → Prop
  | .q x => op.loud = false ∧ op.rd = x.rd ∧ op.mem = x.readsMem ∧ ∀ E call t h, Op.val E call op t h = (Q.ev E x t h).map (·, h)
  | .l x => op = .l d x
  | .k x => op = .k d x
theorem cBase_spec {draw : Bool} {q : QL} {d : Option P3} {lo hi : Nat} {op : Op} (h : cBase draw q d lo hi = some op) :
    op.dst = d ∧ BaseOf op d q := by
  cases q with
  | q x =>
    cases d with
    | none => simp [cBase] at h
    | some d =>
      simp only [cBase] at h
      cases hc : (draw && x.readsMem && lo != hi) <;> rw [hc] at h <;> simp only [Option.some.injEq] at h <;> subst h <;> exact ⟨rfl, rfl, rfl, rfl, fun _ _ _ _ => rfl⟩
  | l x => simp only [cBase, Option.some.injEq] at h; subst h; exact ⟨rfl, rfl⟩
  | k x => simp only [cBase, Option.some.injEq] at h; subst h; exact ⟨rfl, rfl⟩
theorem cDst_spec {nt : Nat} {d : Option Nat} {d' : Option P3} (h : cDst nt d = some d') : d' = d.map P3.ofNat ∧ ∀ n, d = some n → n < nt := by
  cases d with
  | none => simp only [cDst, Option.some.injEq] at h; subst h; exact ⟨rfl, fun n h => by cases h⟩
  | some n =>
    simp only [cDst] at h
    split at h
    · rename_i hn
      simp only [Option.some.injEq] at h; subst h
      exact ⟨rfl, fun m hm => by cases hm; exact hn⟩
    · cases h
theorem softB_or (p : Program) (draw : Bool) (o : Op) : softB p draw o = o ∨ (draw = true ∧ ∃ d f as, o = .k d (.fn f as) ∧ isSoft p f = true ∧ softB p draw o = .s d f as) := by
  cases draw with
  | false => exact .inl rfl
  | true =>
    cases o <;> try exact .inl rfl
    rename_i d k
    cases k <;> try exact .inl rfl
    rename_i f as
    cases hs : isSoft p f with
    | false => left; simp only [softB, hs]
    | true => right; exact ⟨rfl, d, f, as, rfl, hs, by simp only [softB, hs]⟩
theorem softB_dst (p : Program) (draw : Bool) (o : Op) : (softB p draw o).dst = o.dst := by
  rcases softB_or p draw o with h | ⟨_, d, f, as, rfl, _, h⟩ <;> rw [h]
  rfl
theorem cOper_spec {names : List String} {nt : Nat} {oa : Array Go.Oper} {draw late : Bool} {lo hi : Nat} {o : Go.Oper} {op : Op} (h : cOper P names nt oa draw late lo hi o = some op) :
    op.dst = o.dst.map P3.ofNat ∧ (∀ n, o.dst = some n → n < nt) ∧
    ∃ base, cBase draw (lateQ late o ((cOp P names o).getD (.q (.bad 0)))) (o.dst.map P3.ofNat) lo hi = some base ∧
      ((o.guard = none ∧ op = softB P draw base) ∨ ∃ j want n, o.guard = some (j, want) ∧ (oa[j]?).bind (·.dst) = some n ∧ n < nt ∧ op = .g (P3.ofNat n) want (softB P draw base)) := by
  unfold cOper at h
  cases hd : cDst nt o.dst with
  | none => rw [hd] at h; cases h
  | some d =>
    rw [hd] at h
    obtain ⟨rfl, hn⟩ := cDst_spec hd
    simp only [] at h
    cases hb : cBase draw (lateQ late o ((cOp P names o).getD (.q (.bad 0)))) (o.dst.map P3.ofNat) lo hi with
    | none => rw [hb] at h; cases h
    | some base =>
      rw [hb] at h
      simp only [] at h
      have hbd := (cBase_spec hb).1
      cases hg : o.guard with
      | none => rw [hg] at h; simp only [Option.some.injEq] at h; subst h; exact ⟨by rw [softB_dst]; exact hbd, hn, base, rfl, .inl ⟨rfl, rfl⟩⟩
      | some g =>
        obtain ⟨j, want⟩ := g
        rw [hg] at h
        simp only [] at h
        cases hj : (oa[j]?).bind (·.dst) with
        | none => rw [hj] at h; cases h
        | some n =>
          rw [hj] at h
          simp only [] at h
          split at h
          · rename_i hlt
            simp only [Option.some.injEq] at h; subst h
            exact ⟨by show (softB P draw base).dst = _; rw [softB_dst]; exact hbd, hn, base, rfl, .inr ⟨j, want, n, rfl, hj, hlt, rfl⟩⟩
          · cases h
theorem base_sound (hok : EnvOk P X E) {call : CallF} (hcall : CallOk P X call) (hH : HR X pd ρ H w) (hG : GR P ρ) {t : T3 AV} {a : Go.Act} (hT : TR X ρ t a.tmps) {names : List String} (hnm : ∀ i m, names.findIdx? (· == m) = some i → X.nm i = m)
    {o : Go.Oper} {draw : Bool} {d : Option P3} {lo hi : Nat} {base : Op} (hb : cBase draw ((cOp P names o).getD (.q (.bad 0))) d lo hi = some base) {v : AV} {H' : Hp} (hv : Op.val E call base t H = some (v, H'))
    {K : Go.Act → World → Prop} {Q : Go.Exit → Go.Act → World → Prop} (hK : ∀ ρ' w' v', Stp X pd ρ H w ρ' H' w' → VR X ρ' v v' → K (a.put o.dst v') w') : o.wp P a w K Q := by
  obtain ⟨_, hs⟩ := cBase_spec hb
  cases hc : cOp P names o with
  | none =>
    rw [hc] at hs
    simp only [Option.getD_none] at hs
    rw [hs.2.2.2] at hv
    simp [Ds.Q.ev] at hv
  | some q =>
    rw [hc] at hs
    simp only [Option.getD_some] at hs
    cases q with
    | q x =>
      rw [hs.2.2.2] at hv
      simp only [Option.map_eq_some_iff, Prod.mk.injEq] at hv
      obtain ⟨u, hu, rfl, rfl⟩ := hv
      obtain ⟨v', h1, h2⟩ := q_sound hok hH hG hT hnm hc hu
      unfold Go.Oper.wp
      rw [h1, Go.Oper.upon_value]
      exact hK ρ w v' (Stp.refl hH) h2
    | l x =>
      simp only [BaseOf] at hs
      subst hs
      simp only [Op.val] at hv
      obtain ⟨ρ', w', v', h1, h2, h3⟩ := l_sound hok hH hG hT hc hv
      unfold Go.Oper.wp
      rcases h1 with h1 | ⟨h1, rfl⟩
      · rw [h1, Go.Oper.upon_value]; exact hK ρ' w' v' h2 h3
      · rw [h1, Go.Oper.upon_skip]; exact hK ρ' w' _ h2 h3
    | k x =>
      simp only [BaseOf] at hs
      subst hs
      simp only [Op.val] at hv
      cases hk : kArgs E t x with
      | none => rw [hk] at hv; cases hv
      | some fa =>
        obtain ⟨f, as⟩ := fa
        rw [hk] at hv
        simp only [] at hv
        cases hcl : call f as H with
        | no => rw [hcl] at hv; cases hv
        | ok u H1 =>
          rw [hcl] at hv
          simp only [Option.some.injEq, Prod.mk.injEq] at hv
          obtain ⟨rfl, rfl⟩ := hv
          exact k_sound hok hcall hH hG hT hnm hc hk hcl hK
noncomputable def softCall (E : Env) : CallF := fun f as h => match E.soft f as with | some v => .ok v h | none => .no
theorem soft_ok (hok : EnvOk P X E) : CallOk P X (softCall E) := by
  intro pd ρ H w f as vs v H' hG hH hv h
  unfold softCall at h
  cases hs : E.soft f as with
  | none => rw [hs] at h; cases h
  | some u =>
    rw [hs] at h
    simp only [Rr.ok.injEq] at h
    obtain ⟨rfl, rfl⟩ := h
    exact hok.soft f as u hs pd ρ H w vs hG hH hv
theorem base_sound' (hok : EnvOk P X E) {call : CallF} (hcall : CallOk P X call) (hH : HR X pd ρ H w) (hG : GR P ρ) {t : T3 AV} {a : Go.Act} (hT : TR X ρ t a.tmps) {names : List String} (hnm : ∀ i m, names.findIdx? (· == m) = some i → X.nm i = m)
    {o : Go.Oper} {draw : Bool} {d : Option P3} {lo hi : Nat} {base : Op} (hb : cBase draw ((cOp P names o).getD (.q (.bad 0))) d lo hi = some base) {v : AV} {H' : Hp} (hv : Op.val E call (softB P draw base) t H = some (v, H'))
    {K : Go.Act → World → Prop} {Q : Go.Exit → Go.Act → World → Prop} (hK : ∀ ρ' w' v', Stp X pd ρ H w ρ' H' w' → VR X ρ' v v' → K (a.put o.dst v') w') : o.wp P a w K Q := by
  rcases softB_or P draw base with h | ⟨_, d', f, as, rfl, _, h⟩
  · rw [h] at hv; exact base_sound hok hcall hH hG hT hnm hb hv hK
  · rw [h] at hv
    simp only [Op.val, Option.map_eq_some_iff, Prod.mk.injEq] at hv
    obtain ⟨u, hu, rfl, rfl⟩ := hv
    exact base_sound hok (soft_ok hok) hH hG hT hnm hb (v := u) (H' := H) (by simp only [Op.val, kArgs, softCall, hu]) hK
theorem guard_spec {t : T3 AV} {tm : Array Value} (hT : TR X ρ t tm) {oa : Array Go.Oper} {j n : Nat} (hj : (oa[j]?).bind (·.dst) = some n) (hn : n < tm.size) :
    (∀ b, get3 t (P3.ofNat n) = .bool b → Go.yielded oa tm j = some b) ∧ (get3 t (P3.ofNat n) = .tup [] → Go.yielded oa tm j = none) := by
  have hr := hT.get n (by have := hT.size; omega)
  have hy : Go.yielded oa tm j = match tm[n]? with | some (.bool b) => some b | _ => none := by
    simp only [Go.yielded, hj, Option.bind_some]
    rfl
  have hgd : tm[n]? = some (tm.getD n (.tuple #[])) := by simp [Array.getD, hn]
  rw [hy, hgd]
  constructor
  · intro b hb
    rw [hb] at hr
    generalize tm.getD n (.tuple #[]) = x at hr
    cases hr; rfl
  · intro hb
    rw [hb] at hr
    generalize tm.getD n (.tuple #[]) = x at hr
    cases hr; rfl
theorem op_sound (hok : EnvOk P X E) {call : CallF} (hcall : CallOk P X call) (hH : HR X pd ρ H w) (hG : GR P ρ) {t : T3 AV} {a : Go.Act} (hT : TR X ρ t a.tmps) {names : List String} (hnm : ∀ i m, names.findIdx? (· == m) = some i → X.nm i = m)
    {oa : Array Go.Oper} {nt : Nat} (hnt : nt ≤ a.tmps.size) {draw late : Bool} {lo hi i : Nat} {o : Go.Oper} (ho : oa[i]? = some o) (hlate : lateQ late o ((cOp P names o).getD (.q (.bad 0))) = (cOp P names o).getD (.q (.bad 0))) {op : Op} (hc : cOper P names nt oa draw late lo hi o = some op) {v : AV} {H' : Hp} (hv : Op.val E call op t H = some (v, H'))
    {K : Go.Act → World → Prop} {Q : Go.Exit → Go.Act → World → Prop} (hK : ∀ ρ' w' v', Stp X pd ρ H w ρ' H' w' → VR X ρ' v v' → K (a.put o.dst v') w') : Go.wpOp P oa Q i K a w := by
  obtain ⟨_, _, base, hb, hg⟩ := cOper_spec hc
  rw [hlate] at hb
  unfold Go.wpOp
  simp only [ho]
  rcases hg with ⟨hg, rfl⟩ | ⟨j, want, n, hg, hj, hn, rfl⟩
  · rw [if_pos (by simp [Go.Region.wanted, hg])]
    exact .inl (base_sound' hok hcall hH hG hT hnm hb hv hK)
  · obtain ⟨g1, g2⟩ := guard_spec hT hj (Nat.lt_of_lt_of_le hn hnt)
    simp only [Op.val] at hv
    split at hv
    · rename_i b hbv
      have := g1 b hbv
      cases hw : (b == want) with
      | true =>
        rw [hw] at hv
        rw [if_pos (by simp only [Go.Region.wanted, hg, this]; simpa using hw)]
        exact .inl (base_sound' hok hcall hH hG hT hnm hb hv hK)
      | false =>
        rw [hw] at hv
        simp only [Option.some.injEq, Prod.mk.injEq] at hv
        obtain ⟨rfl, rfl⟩ := hv
        rw [if_neg (by simp only [Go.Region.wanted, hg, this]; simpa using hw)]
        exact hK ρ w _ (Stp.refl hH) (.tup [] [] .nil)
    · rename_i hbv
      have := g2 hbv
      simp only [Option.some.injEq, Prod.mk.injEq] at hv
      obtain ⟨rfl, rfl⟩ := hv
      rw [if_neg (by simp only [Go.Region.wanted, hg, this]; simp)]
      exact hK ρ w _ (Stp.refl hH) (.tup [] [] .nil)
    · cases hv
end
end Ds
namespace Ds
open Go (IntKind Value World Addr MapEntry Program Sem Result Operand TypeId)
noncomputable def runs (E : Env) (call : CallF) : List Op → T3 AV → Hp → Nat → T3 AV × Hp
  | [], t, h, _ => (t, h)
  | _o :: _m, t, h, 0 => (t, h)
  | o :: m, t, h, i + 1 => match Op.ev E call o t h with
    | .ok t' h' => runs E call m t' h' i
    | .no => (t, h)
noncomputable def loudHs (E : Env) (call : CallF) : List Op → T3 AV → Hp → List Hp
  | [], _, _ => []
  | o :: m, t, h => match Op.ev E call o t h with
    | .ok t' h' => (match o.loud with | true => h' :: loudHs E call m t' h' | false => loudHs E call m t' h')
    | .no => []
noncomputable def chks (E : Env) (call : CallF) : List Op → T3 AV → Hp → List Chk
  | [], _, _ => []
  | o :: m, t, h => match Op.ev E call o t h with
    | .ok t' h' => chkOf E t h o ++ chks E call m t' h'
    | .no => []
section
variable {E : Env} {call : CallF}
theorem runs_zero (m : List Op) (t : T3 AV) (h : Hp) : runs E call m t h 0 = (t, h) := by cases m <;> rfl
theorem runs_step : ∀ {m : List Op} {t t' : T3 AV} {h h' : Hp}, ops E call m t h = .ok t' h' → ∀ (i : Nat) (o : Op), m[i]? = some o →
    ∃ v, Op.val E call o (runs E call m t h i).1 (runs E call m t h i).2 = some (v, (runs E call m t h (i + 1)).2) ∧ (runs E call m t h (i + 1)).1 = putO (runs E call m t h i).1 o.dst v
  | [], _, _, _, _, _, i, o, hi => by simp at hi
  | x :: m, t, t', h, h', e, i, o, hi => by
    simp only [ops] at e
    cases hx : Op.ev E call x t h with
    | no => rw [hx] at e; cases e
    | ok t1 h1 =>
      rw [hx] at e
      simp only [] at e
      cases i with
      | zero =>
        simp only [List.getElem?_cons_zero, Option.some.injEq] at hi
        subst hi
        obtain ⟨v, h2, h3⟩ := Op.ev_val hx
        refine ⟨v, ?_, ?_⟩
        · simp only [runs, hx, runs_zero]; exact h2
        · simp only [runs, hx, runs_zero]; exact h3
      | succ i =>
        simp only [List.getElem?_cons_succ] at hi
        obtain ⟨v, h2, h3⟩ := runs_step e i o hi
        refine ⟨v, ?_, ?_⟩
        · simp only [runs, hx]; exact h2
        · simp only [runs, hx]; exact h3
theorem runs_end : ∀ {m : List Op} {t t' : T3 AV} {h h' : Hp}, ops E call m t h = .ok t' h' → runs E call m t h m.length = (t', h')
  | [], _, _, _, _, e => by simp only [ops, Rs.ok.injEq] at e; obtain ⟨rfl, rfl⟩ := e; rfl
  | x :: m, t, t', h, h', e => by
    simp only [ops] at e
    cases hx : Op.ev E call x t h with
    | no => rw [hx] at e; cases e
    | ok t1 h1 =>
      rw [hx] at e
      simp only [List.length_cons, runs, hx]
      exact runs_end e
theorem loud_at : ∀ {m : List Op} {t t' : T3 AV} {h h' : Hp}, ops E call m t h = .ok t' h' → ∀ (k j : Nat), k ≤ m.length →
    (h :: loudHs E call m t h)[cntIf (fun i => Nat.blt i (j + k)) j (m.map Op.loud)]? = some (runs E call m t h k).2
  | [], _, _, _, _, _, k, j, hk => by
    have : k = 0 := by simpa using hk
    subst this
    simp [cntIf, runs]
  | x :: m, t, t', h, h', e, k, j, hk => by
    simp only [ops] at e
    cases hx : Op.ev E call x t h with
    | no => rw [hx] at e; cases e
    | ok t1 h1 =>
      rw [hx] at e
      simp only [] at e
      cases k with
      | zero =>
        have h0 : ∀ (l : List Bool) (i : Nat), j ≤ i → cntIf (fun i => Nat.blt i (j + 0)) i l = 0 := by
          intro l
          induction l with
          | nil => intro i _; rfl
          | cons b l ih =>
            intro i hi
            have hb : Nat.blt i (j + 0) = false := by
              cases hc : Nat.blt i (j + 0) with
              | false => rfl
              | true => have := Nat.le_of_ble_eq_true hc; omega
            simp only [cntIf, hb, Bool.and_false]
            exact ih _ (by omega)
        rw [h0 _ j (Nat.le_refl _), runs_zero]
        rfl
      | succ k =>
        have ih := loud_at e k (j + 1) (by simpa using hk)
        have hb : Nat.blt j (j + (k + 1)) = true := Nat.ble_eq_true_of_le (by omega)
        have he : (fun i => Nat.blt i (j + (k + 1))) = fun i => Nat.blt i (j + 1 + k) := by funext i; congr 1; omega
        simp only [List.map_cons, cntIf, hb, Bool.and_true, loudHs, hx, runs]
        cases hl : x.loud with
        | true =>
          simp only [he, List.getElem?_cons_succ]
          exact ih
        | false =>
          obtain ⟨v, h2, _⟩ := Op.ev_val hx
          have := Op.val_quiet hl h2
          subst this
          simp only [he]
          exact ih
theorem cntIf_mono {f g : Nat → Bool} : ∀ (l : List Bool) (j : Nat), (∀ i, l[i]? = some true → f (j + i) = true → g (j + i) = true) → cntIf f j l ≤ cntIf g j l
  | [], _, _ => Nat.le_refl _
  | x :: l, j, h => by
    have ih := cntIf_mono l (j + 1) (fun i hi hf => by
      have := h (i + 1) (by simpa using hi)
      rw [show j + (i + 1) = j + 1 + i by omega] at this
      exact this hf)
    have h0 := h 0
    simp only [List.getElem?_cons_zero, Option.some.injEq, Nat.add_zero] at h0
    simp only [cntIf]
    cases x with
    | false => simpa using ih
    | true =>
      simp only [Bool.true_and]
      cases hf : f j with
      | false => simp only []; cases g j <;> simp only [] <;> omega
      | true => rw [h0 rfl hf]; simp only []; omega
theorem opsC_spec : ∀ {m : List Op} {t t' : T3 AV} {h h' : Hp} {hs : List Hp} {cs : List Chk}, opsC E call m t h hs cs = .ok t' h' →
    ops E call m t h = .ok t' h' ∧ ∃ cs', (∀ c ∈ chks E call m t h, c ∈ cs') ∧ (∀ c ∈ cs, c ∈ cs') ∧ chkAll E cs' 0 (hs.reverse ++ loudHs E call m t h) = true
  | [], t, t', h, h', hs, cs, e => by
    simp only [opsC] at e
    cases hc : chkAll E cs 0 hs.reverse with
    | false => rw [hc] at e; cases e
    | true =>
      rw [hc] at e
      exact ⟨e, cs, by simp [chks], fun _ h => h, by simpa [loudHs] using hc⟩
  | x :: m, t, t', h, h', hs, cs, e => by
    simp only [opsC] at e
    cases hx : Op.ev E call x t h with
    | no => rw [hx] at e; cases e
    | ok t1 h1 =>
      rw [hx] at e
      simp only [] at e
      cases hl : x.loud with
      | true =>
        rw [hl] at e
        obtain ⟨h2, cs', h3, h4, h5⟩ := opsC_spec e
        refine ⟨by simp only [ops, hx]; exact h2, cs', fun c hc => ?_, fun c hc => h4 c (List.mem_append_right _ hc), ?_⟩
        · simp only [chks, hx] at hc
          rcases List.mem_append.1 hc with hc | hc
          · exact h4 c (List.mem_append_left _ hc)
          · exact h3 c hc
        · simp only [loudHs, hx, hl]
          simpa using h5
      | false =>
        rw [hl] at e
        obtain ⟨h2, cs', h3, h4, h5⟩ := opsC_spec e
        refine ⟨by simp only [ops, hx]; exact h2, cs', fun c hc => ?_, fun c hc => h4 c (List.mem_append_right _ hc), ?_⟩
        · simp only [chks, hx] at hc
          rcases List.mem_append.1 hc with hc | hc
          · exact h4 c (List.mem_append_left _ hc)
          · exact h3 c hc
        · simp only [loudHs, hx, hl]
          simpa using h5
theorem chks_mem : ∀ {m : List Op} {t t' : T3 AV} {h h' : Hp}, ops E call m t h = .ok t' h' → ∀ (i : Nat) (o : Op), m[i]? = some o → ∀ c ∈ chkOf E (runs E call m t h i).1 (runs E call m t h i).2 o, c ∈ chks E call m t h
  | [], _, _, _, _, _, i, o, hi => by simp at hi
  | x :: m, t, t', h, h', e, i, o, hi => by
    simp only [ops] at e
    cases hx : Op.ev E call x t h with
    | no => rw [hx] at e; cases e
    | ok t1 h1 =>
      rw [hx] at e
      simp only [] at e
      intro c hc
      simp only [chks, hx]
      cases i with
      | zero =>
        simp only [List.getElem?_cons_zero, Option.some.injEq] at hi
        subst hi
        rw [runs_zero] at hc
        exact List.mem_append_left _ hc
      | succ i =>
        simp only [List.getElem?_cons_succ] at hi
        simp only [runs, hx] at hc
        exact List.mem_append_right _ (chks_mem e i o hi c hc)
theorem chkAt_spec {h : Hp} {k : Nat} : ∀ {cs : List Chk}, chkAt E h k cs = true → ∀ o t v lo hi, Chk.mk o t v lo hi ∈ cs → lo ≤ k → k ≤ hi → ∃ w, Ds.Q.ev E o t h = some w ∧ AV.eqb v w = true
  | [], _, o, t, v, lo, hi, hm, _, _ => by cases hm
  | .mk o' t' v' lo' hi' :: l, e, o, t, v, lo, hi, hm, h1, h2 => by
    simp only [chkAt] at e
    rcases List.mem_cons.1 hm with hm | hm
    · cases hm
      have : (Nat.ble lo' k && Nat.ble k hi') = true := by rw [Nat.ble_eq_true_of_le h1, Nat.ble_eq_true_of_le h2]; rfl
      rw [this] at e
      simp only [] at e
      split at e
      · rename_i w hq
        split at e
        · rename_i hw; exact ⟨w, hq, hw⟩
        · cases e
      · cases e
    · refine chkAt_spec (cs := l) ?_ o t v lo hi hm h1 h2
      split at e
      · split at e
        · split at e
          · exact e
          · cases e
        · cases e
      · exact e
theorem chkAll_spec {cs : List Chk} : ∀ {l : List Hp} {k : Nat}, chkAll E cs k l = true → ∀ j h, l[j]? = some h → chkAt E h (k + j) cs = true
  | [], _, _, j, h, hj => by simp at hj
  | x :: l, k, e, j, h, hj => by
    simp only [chkAll] at e
    cases hx : chkAt E x k cs with
    | false => rw [hx] at e; cases e
    | true =>
      rw [hx] at e
      cases j with
      | zero => simp only [List.getElem?_cons_zero, Option.some.injEq] at hj; subst hj; exact hx
      | succ j =>
        simp only [List.getElem?_cons_succ] at hj
        have := chkAll_spec (k := k + 1) e j h hj
        rw [show k + 1 + j = k + (j + 1) by omega] at this
        exact this
end
theorem ibeq_same {a b : Int} (h : ibeq a b = true) : a = b := by
  have := ibeq_eq a b
  rw [h] at this
  simpa using this.symm
mutual
theorem SI.eqb_eq : ∀ (a b : SI), SI.eqb a b = true → a = b
  | .lit a, .lit b, h => by simp only [SI.eqb] at h; rw [ibeq_same h]
  | .var a, .var b, h => by simp only [SI.eqb] at h; rw [nbeq.1 h]
  | .bin o k a b, .bin o' k' a' b', h => by
    simp only [SI.eqb, Bool.and_eq_true] at h
    rw [obeq.1 h.1.1.1, kbeq.1 h.1.1.2, SI.eqb_eq a a' h.1.2, SI.eqb_eq b b' h.2]
  | .cv k a, .cv k' a', h => by
    simp only [SI.eqb, Bool.and_eq_true] at h
    rw [kbeq.1 h.1, SI.eqb_eq a a' h.2]
  | .slen s, .slen s', h => by simp only [SI.eqb] at h; rw [SS.eqb_eq s s' h]
  | .lit _, .var _, h | .lit _, .bin _ _ _ _, h | .lit _, .cv _ _, h | .lit _, .slen _, h => by simp [SI.eqb] at h
  | .var _, .lit _, h | .var _, .bin _ _ _ _, h | .var _, .cv _ _, h | .var _, .slen _, h => by simp [SI.eqb] at h
  | .bin _ _ _ _, .lit _, h | .bin _ _ _ _, .var _, h | .bin _ _ _ _, .cv _ _, h | .bin _ _ _ _, .slen _, h => by simp [SI.eqb] at h
  | .cv _ _, .lit _, h | .cv _ _, .var _, h | .cv _ _, .bin _ _ _ _, h | .cv _ _, .slen _, h => by simp [SI.eqb] at h
  | .slen _, .lit _, h | .slen _, .var _, h | .slen _, .bin _ _ _ _, h | .slen _, .cv _ _, h => by simp [SI.eqb] at h
theorem SS.eqb_eq : ∀ (a b : SS), SS.eqb a b = true → a = b
  | .lit a, .lit b, h => by simp only [SS.eqb] at h; rw [(lbeq_iff a b).1 h]
  | .var a, .var b, h => by simp only [SS.eqb] at h; rw [nbeq.1 h]
  | .dig a, .dig b, h => by simp only [SS.eqb] at h; rw [SI.eqb_eq a b h]
  | .cat a b, .cat a' b', h => by
    simp only [SS.eqb, Bool.and_eq_true] at h
    rw [SS.eqb_eq a a' h.1, SS.eqb_eq b b' h.2]
  | .lit _, .var _, h | .lit _, .dig _, h | .lit _, .cat _ _, h => by simp [SS.eqb] at h
  | .var _, .lit _, h | .var _, .dig _, h | .var _, .cat _ _, h => by simp [SS.eqb] at h
  | .dig _, .lit _, h | .dig _, .var _, h | .dig _, .cat _ _, h => by simp [SS.eqb] at h
  | .cat _ _, .lit _, h | .cat _ _, .var _, h | .cat _ _, .dig _, h => by simp [SS.eqb] at h
end
end Ds
namespace Ds
open Go (IntKind Value World Addr MapEntry Program Sem Result Operand TypeId)
mutual
theorem AV.eqb_eq (a : AV) : ∀ b, AV.eqb a b = true → a = b := by
  intro b h
  cases a <;> cases b <;> simp only [AV.eqb, Bool.false_eq_true, Bool.and_eq_true, beq_iff_eq, nbeq] at h
  case bool => rw [h]
  case int => rw [kbeq.1 h.1, SI.eqb_eq _ _ h.2]
  case str => rw [SS.eqb_eq _ _ h]
  case nilp => rfl
  case ptr => rw [(P5.beq_iff _ _).1 h.1, h.2]
  case nils => rfl
  case sl => rw [(P5.beq_iff _ _).1 h.1.1.1, h.1.1.2, h.1.2, h.2]
  case su => rw [(P5.beq_iff _ _).1 h.1.1.1, h.1.1.2, h.1.2, h.2]
  case buf => rw [(P5.beq_iff _ _).1 h.1, SI.eqb_eq _ _ h.2]
  case nilm => rfl
  case map => rw [(P5.beq_iff _ _).1 h]
  case nilf => rfl
  case func l _ m => rw [h.1, AV.eqbs_eq l m h.2]
  case meth x _ y => rw [h.1, AV.eqb_eq x y h.2]
  case nili => rfl
  case ifc x _ y => rw [h.1, AV.eqb_eq x y h.2]
  case agg l m => rw [AV.eqbs_eq l m h]
  case tup l m => rw [AV.eqbs_eq l m h]
theorem AV.eqbs_eq (a : List AV) : ∀ b, AV.eqbs a b = true → a = b := by
  intro b h
  cases a <;> cases b <;> simp only [AV.eqbs, Bool.false_eq_true, Bool.and_eq_true] at h
  · rfl
  case cons x l y m => rw [AV.eqb_eq x y h.1, AV.eqbs_eq l m h.2]
end
inductive Bef (oa : Array Go.Oper) : Nat → Nat → Prop
  | edge {j : Nat} {o : Go.Oper} {e : Go.Edge} : oa[j]? = some o → e ∈ o.after → Go.Region.binds .any e = true → Bef oa e.on j
  | far {i j : Nat} {o : Go.Oper} {e : Go.Edge} : oa[j]? = some o → e ∈ o.after → Go.Region.binds .any e = true → Bef oa i e.on → Bef oa i j
theorem testBit_fold (acc : Array Nat) (i : Nat) : ∀ (l : List Go.Edge) (s : Nat), (l.foldl (fun s e => if Go.Region.binds .any e then s ||| 2 ^ e.on ||| acc.getD e.on 0 else s) s).testBit i = true →
    s.testBit i = true ∨ ∃ e ∈ l, Go.Region.binds .any e = true ∧ (e.on = i ∨ (acc.getD e.on 0).testBit i = true)
  | [], s, h => .inl h
  | e :: l, s, h => by
    simp only [List.foldl_cons] at h
    rcases testBit_fold acc i l _ h with h | ⟨e', he', h'⟩
    · cases hb : Go.Region.binds .any e with
      | false => rw [hb] at h; exact .inl h
      | true =>
        rw [hb] at h
        simp only [if_true, Nat.testBit_or, Bool.or_eq_true, Nat.testBit_two_pow, decide_eq_true_eq] at h
        rcases h with (h | h) | h
        · exact .inl h
        · exact .inr ⟨e, List.mem_cons_self .., hb, .inl h⟩
        · exact .inr ⟨e, List.mem_cons_self .., hb, .inr h⟩
    · exact .inr ⟨e', List.mem_cons_of_mem _ he', h'⟩
theorem before_spec (oa : Array Go.Oper) (i j : Nat) (h : ((Go.Region.before oa).getD j 0).testBit i = true) : Bef oa i j := by
  have key : ∀ (l pre : List Go.Oper) (acc : Array Nat), oa.toList = pre ++ l → acc.size = pre.length → (∀ j i, (acc.getD j 0).testBit i = true → Bef oa i j) →
      ∀ j i, ((l.foldl (fun acc (o : Go.Oper) => acc.push (o.after.foldl (fun s e => if Go.Region.binds .any e then s ||| 2 ^ e.on ||| acc.getD e.on 0 else s) 0)) acc).getD j 0).testBit i = true → Bef oa i j := by
    intro l
    induction l with
    | nil => intro pre acc _ _ h j i hb; exact h j i hb
    | cons o l ih =>
      intro pre acc hoa hs h
      refine ih (pre ++ [o]) _ (by simp [hoa]) (by simp [hs]) (fun j i hb => ?_)
      have hgd : ∀ x, (acc.push x).getD acc.size 0 = x := by intro x; simp
      have hgl : ∀ x, j < acc.size → (acc.push x).getD j 0 = acc.getD j 0 := by intro x hj; simp [hj, Nat.lt_succ_of_lt hj, Array.getElem_push]
      by_cases hj : j < acc.size
      · refine h j i ?_
        rwa [hgl _ hj] at hb
      · by_cases hj2 : j = acc.size
        · subst hj2
          have ho : oa[acc.size]? = some o := by
            rw [← Array.getElem?_toList, hoa, hs]; simp
          rw [hgd, ← Array.foldl_toList] at hb
          rcases testBit_fold acc i _ _ hb with h0 | ⟨e, he, hbd, h1⟩
          · simp at h0
          · rcases h1 with rfl | h1
            · exact .edge ho (Array.mem_toList_iff.1 he) hbd
            · exact .far ho (Array.mem_toList_iff.1 he) hbd (h _ _ h1)
        · exfalso
          have : ¬ j < acc.size + 1 := by omega
          simp [Array.getD, this] at hb
  have := key oa.toList [] #[] rfl rfl (by simp [Array.getD])
  refine this j i ?_
  rw [Array.foldl_toList]
  exact h
theorem edgesOk_spec {oa : Array Go.Oper} (h : edgesOk oa = true) {j : Nat} {o : Go.Oper} {e : Go.Edge} (ho : oa[j]? = some o) (he : e ∈ o.after) (hb : Go.Region.binds .any e = true) : e.on < j := by
  unfold edgesOk at h
  rw [List.all_eq_true] at h
  have := h (o, j) (by rw [List.mem_zipIdx_iff_getElem?]; simpa using ho)
  simp only [Array.all_eq_true_iff_forall_mem] at this
  have := this e he
  simpa [hb] using this
theorem Bef.lt {oa : Array Go.Oper} (h : edgesOk oa = true) {i j : Nat} (b : Bef oa i j) : i < j := by
  induction b with
  | edge ho he hb => exact edgesOk_spec h ho he hb
  | far ho he hb _ ih => have := edgesOk_spec h ho he hb; omega
theorem bit_testBit (p : P3) (k : Nat) : p.bit.testBit k = decide (k = p.num) := by
  show (Nat.shiftLeft 1 p.num).testBit k = _
  have : Nat.shiftLeft 1 p.num = 2 ^ p.num := by rw [show Nat.shiftLeft 1 p.num = 1 <<< p.num from rfl, Nat.one_shiftLeft]
  rw [this, Nat.testBit_two_pow]
  by_cases c : p.num = k
  · subst c; simp
  · rw [decide_eq_false c, decide_eq_false (fun e => c e.symm)]
theorem rdMask_testBit {p : P3} : ∀ {l : List P3}, p ∈ l → (rdMask l).testBit p.num = true
  | q :: l, h => by
    show (q.bit ||| rdMask l).testBit p.num = true
    rw [Nat.testBit_or, bit_testBit]
    rcases List.mem_cons.1 h with rfl | h
    · simp
    · rw [rdMask_testBit h, Bool.or_true]
theorem land_zero {a b : Nat} (h : isZ (Nat.land a b) = true) (k : Nat) : ¬ (a.testBit k = true ∧ b.testBit k = true) := by
  intro ⟨h1, h2⟩
  have h0 : a &&& b = 0 := Nat.eq_of_beq_eq_true h
  have := Nat.testBit_and a b k
  rw [h0, h1, h2] at this
  simp at this
theorem dmask_testBit {o : Op} {p : P3} (h : o.dst = some p) : o.dmask.testBit p.num = true := by
  simp only [Op.dmask, h]
  rw [bit_testBit]; simp
theorem pairsOk_spec {m : Nat} {y : Sk} : ∀ {l : List Sk} {k : Nat}, pairsOk m y k l = true → ∀ (i : Nat) x, l[i]? = some x → pairOk m (k + i) x y = true
  | [], _, _, i, x, hi => by simp at hi
  | z :: l, k, h, i, x, hi => by
    simp only [pairsOk] at h
    cases hp : pairOk m k z y with
    | false => rw [hp] at h; cases h
    | true =>
      rw [hp] at h
      cases i with
      | zero => simp only [List.getElem?_cons_zero, Option.some.injEq] at hi; subst hi; exact hp
      | succ i =>
        have := pairsOk_spec (k := k + 1) h i x (by simpa using hi)
        rw [show k + 1 + i = k + (i + 1) by omega] at this
        exact this
theorem orderOk_spec {b : Array Nat} : ∀ {l ahead : List Sk} {j : Nat}, ahead.length = j → orderOk b j ahead l = true → ∀ (i k : Nat) x y, i < k → (ahead ++ l)[i]? = some x → (ahead ++ l)[k]? = some y → j ≤ k → pairOk (b.getD k 0) i x y = true
  | [], ahead, j, hl, _, i, k, x, y, hik, hi, hk, hjk => by
    have := (List.getElem?_eq_some_iff.1 hk).1
    simp at this; omega
  | z :: l, ahead, j, hl, h, i, k, x, y, hik, hi, hk, hjk => by
    simp only [orderOk] at h
    cases hp : pairsOk (b.getD j 0) z 0 ahead with
    | false => rw [hp] at h; cases h
    | true =>
      rw [hp] at h
      by_cases c : k = j
      · subst c
        rw [List.getElem?_append_right (by omega), hl] at hk
        simp at hk
        subst hk
        rw [List.getElem?_append_left (by omega)] at hi
        have := pairsOk_spec hp i x hi
        rwa [Nat.zero_add] at this
      · refine orderOk_spec (ahead := ahead ++ [z]) (by simp [hl]) h i k x y hik ?_ ?_ (by omega)
        · simpa using hi
        · simpa using hk
structure OrderFacts (oa : Array Go.Oper) (m : List Op) : Prop where
  dst : ∀ (i k : Nat) x y p, i ≠ k → m[i]? = some x → m[k]? = some y → x.dst = some p → y.dst ≠ some p
  loud : ∀ (i k : Nat) x y, i < k → m[i]? = some x → m[k]? = some y → x.loud = true → y.loud = true → Bef oa i k
  reads : ∀ (i k : Nat) x y p, i ≠ k → m[i]? = some x → m[k]? = some y → x.dst = some p → p ∈ y.rd → Bef oa i k ∨ Bef oa k i
theorem orderFacts {oa : Array Go.Oper} {m : List Op} (h : orderOk (Go.Region.before oa) 0 [] (m.map skOf) = true) : OrderFacts oa m := by
  have key : ∀ (i k : Nat) x y, i < k → m[i]? = some x → m[k]? = some y → pairOk ((Go.Region.before oa).getD k 0) i (skOf x) (skOf y) = true := by
    intro i k x y hik hi hk
    exact orderOk_spec (ahead := []) rfl h i k _ _ hik (by simp [hi]) (by simp [hk]) (Nat.zero_le _)
  have dd : ∀ (i k : Nat) x y p, i < k → m[i]? = some x → m[k]? = some y → x.dst = some p → y.dst ≠ some p := by
    intro i k x y p hik hi hk hx hy
    have := key i k x y hik hi hk
    simp only [pairOk, skOf, Bool.and_eq_true] at this
    exact land_zero this.1 p.num ⟨dmask_testBit hx, dmask_testBit hy⟩
  refine ⟨fun i k x y p hne hi hk hx hy => ?_, fun i k x y hik hi hk hx hy => ?_, fun i k x y p hne hi hk hx hp => ?_⟩
  · rcases Nat.lt_or_gt_of_ne hne with h | h
    · exact dd i k x y p h hi hk hx hy
    · exact dd k i y x p h hk hi hy hx
  · have := key i k x y hik hi hk
    simp only [pairOk, skOf, Bool.and_eq_true] at this
    cases ht : Nat.testBit ((Go.Region.before oa).getD k 0) i with
    | true => exact before_spec oa i k ht
    | false => rw [ht] at this; simp [hx, hy] at this
  · rcases Nat.lt_or_gt_of_ne hne with hlt | hlt
    · have := key i k x y hlt hi hk
      simp only [pairOk, skOf, Bool.and_eq_true] at this
      cases ht : Nat.testBit ((Go.Region.before oa).getD k 0) i with
      | true => exact .inl (before_spec oa i k ht)
      | false =>
        rw [ht] at this
        simp only [Bool.and_eq_true] at this
        exact absurd ⟨dmask_testBit hx, rdMask_testBit hp⟩ (land_zero this.2.1.2 p.num)
    · have := key k i y x hlt hk hi
      simp only [pairOk, skOf, Bool.and_eq_true] at this
      cases ht : Nat.testBit ((Go.Region.before oa).getD i 0) k with
      | true => exact .inr (before_spec oa k i ht)
      | false =>
        rw [ht] at this
        simp only [Bool.and_eq_true] at this
        exact absurd ⟨dmask_testBit hx, rdMask_testBit hp⟩ (land_zero this.2.2 p.num)
end Ds
namespace Ds
open Go (IntKind Value World Addr MapEntry Program Sem Result Operand TypeId)
theorem get3_putO_self (t : T3 AV) (p : P3) (v : AV) : get3 (putO t (some p) v) p = v := by simp [putO, get3_set3]
theorem get3_putO_ne (t : T3 AV) (d : Option P3) (v : AV) {p : P3} (h : d ≠ some p) : get3 (putO t d v) p = get3 t p := by
  cases d with
  | none => rfl
  | some q => simp only [putO, get3_set3]; rw [if_neg (fun e => h (by rw [e]))]
theorem put_TR {X : Cx} {ρ ρ' : Rho} {t : T3 AV} {a : Go.Act} (hT : TR X ρ t a.tmps) (hle : ρ.le ρ') {d : Option Nat} (hd : ∀ n, d = some n → n < a.tmps.size) {v : AV} {v' : Value} (r : VR X ρ' v v') :
    TR X ρ' (putO t (d.map P3.ofNat) v) (a.put d v').tmps := by
  cases d with
  | none => exact hT.le hle
  | some n => exact (hT.le hle).set n (hd n rfl) r
theorem put_size (a : Go.Act) (d : Option Nat) (v : Value) : (a.put d v).tmps.size = a.tmps.size := by cases d <;> simp [Go.Act.put]
theorem put_defers (a : Go.Act) (d : Option Nat) (v : Value) : (a.put d v).defers = a.defers := by cases d <;> rfl
theorem cOpers_spec {P : Program} {names : List String} {nt : Nat} {oa : Array Go.Oper} {draw late : Bool} {bd : Nat → Nat × Nat} : ∀ {l : List Go.Oper} {k : Nat} {m : List Op}, cOpers P names nt oa draw late bd k l = some m →
    m.length = l.length ∧ ∀ i o, l[i]? = some o → ∃ op, m[i]? = some op ∧ cOper P names nt oa draw late (bd (k + i)).1 (bd (k + i)).2 o = some op
  | [], k, m, h => by simp only [cOpers, Option.some.injEq] at h; subst h; exact ⟨rfl, fun i o hi => by simp at hi⟩
  | x :: l, k, m, h => by
    simp only [cOpers] at h
    cases hx : cOper P names nt oa draw late (bd k).1 (bd k).2 x with
    | none => rw [hx] at h; cases h
    | some y =>
      rw [hx] at h
      simp only [] at h
      cases hl : cOpers P names nt oa draw late bd (k + 1) l with
      | none => rw [hl] at h; cases h
      | some m' =>
        rw [hl] at h
        simp only [Option.some.injEq] at h; subst h
        obtain ⟨h1, h2⟩ := cOpers_spec hl
        refine ⟨by simp [h1], fun i o hi => ?_⟩
        cases i with
        | zero => simp only [List.getElem?_cons_zero, Option.some.injEq] at hi; subst hi; exact ⟨y, rfl, hx⟩
        | succ i =>
          obtain ⟨op, h3, h4⟩ := h2 i o (by simpa using hi)
          refine ⟨op, by simpa using h3, ?_⟩
          rw [show k + (i + 1) = k + 1 + i by omega]; exact h4
theorem cOper_loud {P : Program} {names : List String} {nt : Nat} {oa : Array Go.Oper} {late : Bool} {lo hi : Nat} {o : Go.Oper} {op : Op} (h : cOper P names nt oa true late lo hi o = some op) : op.loud = !quietOp P names late o := by
  obtain ⟨_, _, base, hb, hg⟩ := cOper_spec h
  have h1 : op.loud = (softB P true base).loud := by
    rcases hg with ⟨_, rfl⟩ | ⟨j, want, n, _, _, _, rfl⟩ <;> rfl
  have h2 := (cBase_spec hb).2
  rw [h1]
  unfold quietOp
  cases hq : lateQ late o ((cOp P names o).getD (.q (.bad 0))) with
  | q x =>
    rw [hq] at h2
    rcases softB_or P true base with h | ⟨_, d, f, as, rfl, _, h⟩
    · rw [h]; simp [h2.1]
    · have := h2.1; simp [Op.loud] at this
  | l x => rw [hq] at h2; simp only [BaseOf] at h2; subst h2; rfl
  | k x =>
    rw [hq] at h2
    simp only [BaseOf] at h2
    subst h2
    cases x with
    | fn f as => simp only [softB]; cases isSoft P f <;> rfl
    | fv y as => rfl
    | inv y m as => rfl
section seq
variable {P : Program} {X : Cx} {E : Env} {pd : P5 → Prop} {call : CallF} {names : List String} {oa : Array Go.Oper} {nt : Nat} {bd : Nat → Nat × Nat} {Q : Go.Exit → Go.Act → World → Prop}
theorem seq_sound (hok : EnvOk P X E) (hcall : CallOk P X call) (hnm : ∀ i m, names.findIdx? (· == m) = some i → X.nm i = m) :
    ∀ (l : List Go.Oper) (k : Nat) (m : List Op) (t t' : T3 AV) (H H' : Hp) (ρ : Rho) (a : Go.Act) (w : World), (∀ i o, l[i]? = some o → oa[k + i]? = some o) → cOpers P names nt oa false false bd k l = some m → ops E call m t H = .ok t' H' →
      HR X pd ρ H w → GR P ρ → TR X ρ t a.tmps → nt ≤ a.tmps.size →
      (∀ ρ' a' w', Stp X pd ρ H w ρ' H' w' → TR X ρ' t' a'.tmps → a'.defers = a.defers → a'.tmps.size = a.tmps.size → Q .normal a' w') →
      Go.wpOps P oa Q (List.range' k l.length) a w
  | [], k, m, t, t', H, H', ρ, a, w, hl, hc, he, hH, hG, hT, hnt, hQ => by
    simp only [cOpers, Option.some.injEq] at hc; subst hc
    simp only [ops, Rs.ok.injEq] at he
    obtain ⟨rfl, rfl⟩ := he
    exact hQ ρ a w (Stp.refl hH) hT rfl rfl
  | o :: l, k, m, t, t', H, H', ρ, a, w, hl, hc, he, hH, hG, hT, hnt, hQ => by
    simp only [cOpers] at hc
    cases hx : cOper P names nt oa false false (bd k).1 (bd k).2 o with
    | none => rw [hx] at hc; cases hc
    | some y =>
      rw [hx] at hc
      simp only [] at hc
      cases hm : cOpers P names nt oa false false bd (k + 1) l with
      | none => rw [hm] at hc; cases hc
      | some m' =>
        rw [hm] at hc
        simp only [Option.some.injEq] at hc; subst hc
        simp only [ops] at he
        cases hy : Op.ev E call y t H with
        | no => rw [hy] at he; cases he
        | ok t1 H1 =>
          rw [hy] at he
          simp only [] at he
          obtain ⟨v, hv, rfl⟩ := Op.ev_val hy
          have ho : oa[k]? = some o := by simpa using hl 0 o (by simp)
          obtain ⟨hd, hdn, _⟩ := cOper_spec hx
          simp only [List.length_cons, List.range'_succ]
          rw [Go.wpOps_cons]
          refine op_sound hok hcall hH hG hT hnm hnt ho rfl hx hv (fun ρ' w' v' hs hr => ?_)
          refine seq_sound hok hcall hnm l (k + 1) m' _ t' H1 H' ρ' _ w' (fun i o hi => ?_) hm he hs.hr (hG.le hs.le) ?_ ?_ (fun ρ2 a2 w2 hs2 hT2 hd2 hz2 => ?_)
          · have := hl (i + 1) o (by simpa using hi)
            rwa [show k + (i + 1) = k + 1 + i by omega] at this
          · rw [hd]; exact put_TR hT hs.le (fun n hn => Nat.lt_of_lt_of_le (hdn n hn) hnt) hr
          · rw [put_size]; exact hnt
          · exact hQ ρ2 a2 w2 (hs.trans hs2) hT2 (by rw [hd2, put_defers]) (by rw [hz2, put_size])
end seq
end Ds
