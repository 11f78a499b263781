/- The deterministic evaluator D and what is proved with it, part CoreF of the claim on YtpopgcbejolepaaGreatDoor. -/
import Derived.Test.YtpopgcbejolepaaGreatDoorCoreA
import Derived.Test.YtpopgcbejolepaaGreatDoorCoreD
import Derived.Test.YtpopgcbejolepaaGreatDoorCoreE
noncomputable section
namespace Ds
open Go (IntKind Value World Addr MapEntry Program)
theorem kbeq_eq (a b : IntKind) (h : IntKind.beq a b = true) : a = b := by
  cases a <;> cases b <;> first | rfl | (exact absurd h (by decide))
structure Sb where
  i : Nat → SI
  s : Nat → SS
mutual
def SI.sub (b : Sb) : SI → SI
  | .lit n => .lit n
  | .var i => b.i i
  | .bin o k x y => .bin o k (SI.sub b x) (SI.sub b y)
  | .cv k x => .cv k (SI.sub b x)
  | .slen s => .slen (SS.sub b s)
def SS.sub (b : Sb) : SS → SS
  | .lit l => .lit l
  | .var i => b.s i
  | .dig e => .dig (SI.sub b e)
  | .cat x y => .cat (SS.sub b x) (SS.sub b y)
end
structure SubOk (σ : Val) (b : Sb) (τ : Val) : Prop where
  i : ∀ n, (b.i n).ev σ = τ.i n
  s : ∀ n, (b.s n).ev σ = τ.s n
section
variable {σ τ : Val} {b : Sb} (h : SubOk σ b τ)
include h
mutual
theorem SI.sub_ev : ∀ (e : SI), (SI.sub b e).ev σ = e.ev τ
  | .lit n => rfl
  | .var i => h.i i
  | .bin o k x y => by simp only [SI.sub, SI.ev, SI.sub_ev x, SI.sub_ev y]
  | .cv k x => by simp only [SI.sub, SI.ev, SI.sub_ev x]
  | .slen s => by simp only [SI.sub, SI.ev, SS.sub_ev s]
theorem SS.sub_ev : ∀ (s : SS), (SS.sub b s).ev σ = s.ev τ
  | .lit l => rfl
  | .var i => h.s i
  | .dig e => by simp only [SS.sub, SS.ev, SI.sub_ev e]
  | .cat x y => by simp only [SS.sub, SS.ev, SS.sub_ev x, SS.sub_ev y]
end
end
mutual
theorem SI.sub_wf (b : Sb) : ∀ (e : SI), (SI.sub b e).wf → e.wf
  | .lit _n, _ => trivial
  | .var _i, _ => trivial
  | .bin _o _k x y, h => ⟨SI.sub_wf b x h.1, SI.sub_wf b y h.2⟩
  | .cv _k x, h => SI.sub_wf b x h
  | .slen s, h => SS.sub_wf b s h
theorem SS.sub_wf (b : Sb) : ∀ (s : SS), (SS.sub b s).wf → s.wf
  | .lit _l, h => h
  | .var _i, _ => trivial
  | .dig e, h => SI.sub_wf b e h
  | .cat x y, h => ⟨SS.sub_wf b x h.1, SS.sub_wf b y h.2⟩
end
mutual
def SI.nrm : SI → SI
  | .lit n => .lit n
  | .var i => .var i
  | .bin o k x y => .bin o k (SI.nrm x) (SI.nrm y)
  | .cv k x => .cv k (SI.nrm x)
  | .slen s => .slen (SS.nrm s)
def SS.nrm : SS → SS
  | .lit l => .lit l
  | .var i => .var i
  | .dig e => .dig (SI.nrm e)
  | .cat x y => SS.app (SS.nrm x) (SS.nrm y)
end
mutual
theorem SI.nrm_ev (σ : Val) : ∀ (e : SI), (SI.nrm e).ev σ = e.ev σ
  | .lit n => rfl
  | .var i => rfl
  | .bin o k x y => by simp only [SI.nrm, SI.ev, SI.nrm_ev σ x, SI.nrm_ev σ y]
  | .cv k x => by simp only [SI.nrm, SI.ev, SI.nrm_ev σ x]
  | .slen s => by simp only [SI.nrm, SI.ev, SS.nrm_ev σ s]
theorem SS.nrm_ev (σ : Val) : ∀ (s : SS), (SS.nrm s).ev σ = s.ev σ
  | .lit l => rfl
  | .var i => rfl
  | .dig e => by simp only [SS.nrm, SS.ev, SI.nrm_ev σ e]
  | .cat x y => by simp only [SS.nrm, SS.ev, SS.app_ev, SS.nrm_ev σ x, SS.nrm_ev σ y]
end
theorem SS.app_wf' : ∀ (b a : SS), (SS.app a b).wf → a.wf ∧ b.wf
  | .lit l, a => by
    unfold SS.app
    split <;> intro h <;> simp_all [SS.wf]
    all_goals first | (exact ⟨fun c hc => h c (.inl hc), fun c hc => h c (.inr hc)⟩) | (exact ⟨fun c hc => h.2 c (.inl hc), fun c hc => h.2 c (.inr hc)⟩) | skip
  | .var i, a => by unfold SS.app; split <;> intro h <;> simp_all [SS.wf]
  | .dig e, a => by unfold SS.app; split <;> intro h <;> simp_all [SS.wf]
  | .cat b c, a => by
    have ih := SS.app_wf' b a
    unfold SS.app
    split <;> intro h <;> simp_all [SS.wf]
mutual
theorem SI.nrm_wf : ∀ (e : SI), (SI.nrm e).wf → e.wf
  | .lit _n, _ => trivial
  | .var _i, _ => trivial
  | .bin _o _k x y, h => ⟨SI.nrm_wf x h.1, SI.nrm_wf y h.2⟩
  | .cv _k x, h => SI.nrm_wf x h
  | .slen s, h => SS.nrm_wf s h
theorem SS.nrm_wf : ∀ (s : SS), (SS.nrm s).wf → s.wf
  | .lit l, h => h
  | .var i, _ => trivial
  | .dig e, h => SI.nrm_wf e h
  | .cat x y, h => by
    have := SS.app_wf' _ _ h
    exact ⟨SS.nrm_wf x this.1, SS.nrm_wf y this.2⟩
end
def idm (ι : P5 → Option P5) (i j : P5) : Bool := match ι i with | some q => P5.beq q j | none => false
theorem idm_eq {ι : P5 → Option P5} {i j : P5} (h : idm ι i j = true) : ι i = some j := by
  unfold idm at h
  split at h
  · rename_i q hq; rw [hq, (P5.beq_iff _ _).1 h]
  · cases h
mutual
def AVm (b : Sb) (ι : P5 → Option P5) : AV → AV → Bool
  | .any, _ => true
  | .bool x, y => (match y with | .bool y => x == y | _ => false)
  | .int k e, y => (match y with | .int k' f => IntKind.beq k k' && SI.eqb (SI.nrm (SI.sub b e)) f | _ => false)
  | .str s, y => (match y with | .str t => SS.eqb (SS.nrm (SS.sub b s)) t | _ => false)
  | .nilp, y => (match y with | .nilp => true | _ => false)
  | .ptr i o, y => (match y with | .ptr j p => idm ι i j && Nat.beq o p | _ => false)
  | .nils, y => (match y with | .nils => true | _ => false)
  | .sl i o n c, y => (match y with | .sl j o' n' c' => idm ι i j && Nat.beq o o' && Nat.beq n n' && Nat.beq c c' | _ => false)
  | .su i o n z, y => (match y with | .su j o' n' z' => idm ι i j && Nat.beq o o' && Nat.beq n n' && Nat.beq z z' | _ => false)
  | .buf i n, y => (match y with | .buf j m => idm ι i j && SI.eqb (SI.nrm (SI.sub b n)) m | _ => false)
  | .nilm, y => (match y with | .nilm => true | _ => false)
  | .map i, y => (match y with | .map j => idm ι i j | _ => false)
  | .nilf, y => (match y with | .nilf => true | _ => false)
  | .func f l, y => (match y with | .func g m => Nat.beq f g && AVms b ι l m | _ => false)
  | .meth f l, y => (match y with | .meth g m => Nat.beq f g && AVm b ι l m | _ => false)
  | .nili, y => (match y with | .nili => true | _ => false)
  | .ifc i v, y => (match y with | .ifc j w => Nat.beq i j && AVm b ι v w | _ => false)
  | .agg l, y => (match y with | .agg m => AVms b ι l m | _ => false)
  | .tup l, y => (match y with | .tup m => AVms b ι l m | _ => false)
def AVms (b : Sb) (ι : P5 → Option P5) : List AV → List AV → Bool
  | [], m => (match m with | [] => true | _ => false)
  | a :: l, m => (match m with | c :: m => AVm b ι a c && AVms b ι l m | [] => false)
end
section
variable {X Y : Cx} {ρ ρ' : Rho} {b : Sb} {ι : P5 → Option P5}
mutual
theorem VR.weak (hs : SubOk X.σ b Y.σ) (hn : Y.nm = X.nm) (hι : ∀ i j, ι i = some j → ρ' i = ρ j) : ∀ (a : AV) {c : AV} {v : Value}, AVm b ι a c = true → VR X ρ c v → VR Y ρ' a v
  | .any, c, v, _, _ => .any v
  | .bool x, c, v, h, r => by
    cases c <;> simp only [AVm, Bool.false_eq_true] at h
    cases r; rw [eq_of_beq h]; exact .bool _
  | .int k e, c, v, h, r => by
    cases c <;> simp only [AVm, Bool.and_eq_true, Bool.false_eq_true] at h
    cases r with
    | int k' f n w hv =>
      have h1 := kbeq_eq _ _ h.1
      have h2 := SI.eqb_eq _ _ h.2
      subst h1 h2
      exact .int _ _ _ (SI.sub_wf b e (SI.nrm_wf _ w)) (by rw [hv, SI.nrm_ev, SI.sub_ev hs])
  | .str s, c, v, h, r => by
    cases c <;> simp only [AVm, Bool.false_eq_true] at h
    cases r with
    | str t bb w hv =>
      have h2 := SS.eqb_eq _ _ h
      subst h2
      exact .str _ _ (SS.sub_wf b s (SS.nrm_wf _ w)) (by rw [hv, SS.nrm_ev, SS.sub_ev hs])
  | .nilp, c, v, h, r => by cases c <;> simp only [AVm, Bool.false_eq_true] at h; cases r; exact .nilp
  | .ptr i o, c, v, h, r => by
    cases c <;> simp only [AVm, Bool.and_eq_true, Bool.false_eq_true] at h
    cases r with
    | ptr j p B base C e =>
      obtain rfl := Nat.eq_of_beq_eq_true h.2
      exact .ptr _ _ B base C (by rw [hι _ _ (idm_eq h.1)]; exact e)
  | .nils, c, v, h, r => by cases c <;> simp only [AVm, Bool.false_eq_true] at h; cases r; exact .nils
  | .sl i o n c', c, v, h, r => by
    cases c <;> simp only [AVm, Bool.and_eq_true, Bool.false_eq_true] at h
    cases r with
    | sl j _ _ _ B base C e l =>
      obtain ⟨⟨⟨h1, h2⟩, h3⟩, h4⟩ := h
      obtain rfl := Nat.eq_of_beq_eq_true h2
      obtain rfl := Nat.eq_of_beq_eq_true h3
      obtain rfl := Nat.eq_of_beq_eq_true h4
      exact .sl _ _ _ _ B base C (by rw [hι _ _ (idm_eq h1)]; exact e) l
  | .su i o n z, c, v, h, r => by
    cases c <;> simp only [AVm, Bool.and_eq_true, Bool.false_eq_true] at h
    cases r with
    | su j _ _ _ B base C cap a e l =>
      obtain ⟨⟨⟨h1, h2⟩, h3⟩, h4⟩ := h
      obtain rfl := Nat.eq_of_beq_eq_true h2
      obtain rfl := Nat.eq_of_beq_eq_true h3
      obtain rfl := Nat.eq_of_beq_eq_true h4
      exact .su _ _ _ _ B base C cap a (by rw [hι _ _ (idm_eq h1)]; exact e) l
  | .buf i n, c, v, h, r => by
    cases c <;> simp only [AVm, Bool.and_eq_true, Bool.false_eq_true] at h
    cases r with
    | buf j m len B base C w e x y =>
      have h2 := SI.eqb_eq _ _ h.2
      subst h2
      exact .buf _ _ len B base C (SI.sub_wf b n (SI.nrm_wf _ w)) (by rw [hι _ _ (idm_eq h.1)]; exact e) (by rw [← SI.sub_ev hs, ← SI.nrm_ev]; exact x) y
  | .nilm, c, v, h, r => by cases c <;> simp only [AVm, Bool.false_eq_true] at h; cases r; exact .nilm
  | .map i, c, v, h, r => by
    cases c <;> simp only [AVm, Bool.false_eq_true] at h
    cases r with
    | map j B base C e => exact .map _ B base C (by rw [hι _ _ (idm_eq h)]; exact e)
  | .nilf, c, v, h, r => by cases c <;> simp only [AVm, Bool.false_eq_true] at h; cases r; exact .nilf
  | .func f l, c, v, h, r => by
    cases c <;> simp only [AVm, Bool.and_eq_true, Bool.false_eq_true] at h
    cases r with
    | func g m cs k => obtain rfl := Nat.eq_of_beq_eq_true h.1; exact .func _ _ cs (VRs.weak hs hn hι l h.2 k)
  | .meth f l, c, v, h, r => by
    cases c <;> simp only [AVm, Bool.and_eq_true, Bool.false_eq_true] at h
    cases r with
    | meth g m u k => obtain rfl := Nat.eq_of_beq_eq_true h.1; rw [← hn]; exact .meth _ _ u (VR.weak hs hn hι l h.2 k)
  | .nili, c, v, h, r => by cases c <;> simp only [AVm, Bool.false_eq_true] at h; cases r; exact .nili
  | .ifc i u, c, v, h, r => by
    cases c <;> simp only [AVm, Bool.and_eq_true, Bool.false_eq_true] at h
    cases r with
    | ifc j w x k => obtain rfl := Nat.eq_of_beq_eq_true h.1; exact .ifc _ _ x (VR.weak hs hn hι u h.2 k)
  | .agg l, c, v, h, r => by
    cases c <;> simp only [AVm, Bool.false_eq_true] at h
    cases r with
    | agg m vs k => exact .agg _ vs (VRs.weak hs hn hι l h k)
  | .tup l, c, v, h, r => by
    cases c <;> simp only [AVm, Bool.false_eq_true] at h
    cases r with
    | tup m vs k => exact .tup _ vs (VRs.weak hs hn hι l h k)
theorem VRs.weak (hs : SubOk X.σ b Y.σ) (hn : Y.nm = X.nm) (hι : ∀ i j, ι i = some j → ρ' i = ρ j) : ∀ (l : List AV) {m : List AV} {vs : List Value}, AVms b ι l m = true → VRs X ρ m vs → VRs Y ρ' l vs
  | [], m, vs, h, r => by
    cases m <;> simp only [AVms, Bool.false_eq_true] at h
    cases r; exact .nil
  | a :: l, m, vs, h, r => by
    cases m <;> simp only [AVms, Bool.and_eq_true, Bool.false_eq_true] at h
    cases r with
    | cons c m v vs r1 r2 => exact .cons _ _ _ _ (VR.weak hs hn hι a h.1 r1) (VRs.weak hs hn hι l h.2 r2)
end
end
def Objm (b : Sb) (ι : P5 → Option P5) : Obj → Obj → Bool
  | .none, _ => true
  | .cells n c, y => (match y with | .cells m d => Nat.ble n m && AVms b ι (Cells.getl c 0 n) (Cells.getl d 0 n) | _ => false)
  | .grown n c, y => (match y with | .grown m d => Nat.ble n m && AVms b ι (Cells.getl c 0 n) (Cells.getl d 0 n) | _ => false)
  | .bytes s, y => (match y with | .bytes t => SS.eqb (SS.nrm (SS.sub b s)) t | _ => false)
  | .map es, y => (match y with | .map fs => AVms b ι (es.map (·.1)) (fs.map (·.1)) && AVms b ι (es.map (·.2)) (fs.map (·.2)) | _ => false)
  | .iter l p, y => (match y with | .iter m q => lbeq l m && Nat.beq p q | _ => false)
theorem Objm_live {b : Sb} {ι : P5 → Option P5} {o y : Obj} (h : Objm b ι o y = true) (ho : o ≠ .none) : y ≠ .none := by
  rintro rfl
  cases o <;> simp [Objm] at h
  exact ho rfl
theorem AVms_get {b : Sb} {ι : P5 → Option P5} : ∀ {l m : List AV}, AVms b ι l m = true → l.length = m.length ∧ ∀ (j : Nat), j < l.length → AVm b ι (l.getD j .any) (m.getD j .any) = true
  | [], [], _ => ⟨rfl, fun j h => by simp at h⟩
  | [], _ :: _, h => by simp [AVms] at h
  | _ :: _, [], h => by simp [AVms] at h
  | a :: l, c :: m, h => by
    simp only [AVms, Bool.and_eq_true] at h
    obtain ⟨h1, h2⟩ := AVms_get h.2
    refine ⟨by simp [h1], fun j hj => ?_⟩
    cases j with
    | zero => simpa using h.1
    | succ j => simpa using h2 j (by simpa using hj)
theorem getl_getD : ∀ (n : Nat) (c : Cells) (i j : Nat), j < n → (Cells.getl c i n).getD j .any = c.get (i + j)
  | 0, c, i, j, h => by omega
  | n + 1, c, i, 0, h => by simp [Cells.getl]
  | n + 1, c, i, j + 1, h => by
    simp only [Cells.getl, List.getD_cons_succ]
    rw [getl_getD n c (Nat.succ i) j (by omega)]
    congr 1; omega
theorem getl_len : ∀ (n : Nat) (c : Cells) (i : Nat), (Cells.getl c i n).length = n
  | 0, c, i => rfl
  | n + 1, c, i => by simp [Cells.getl, getl_len n c]
theorem cells_weak {b : Sb} {ι : P5 → Option P5} {n : Nat} {c d : Cells} (h : AVms b ι (Cells.getl c 0 n) (Cells.getl d 0 n) = true) (j : Nat) (hj : j < n) : AVm b ι (c.get j) (d.get j) = true := by
  have := (AVms_get h).2 j (by rw [getl_len]; exact hj)
  rw [getl_getD n c 0 j hj, getl_getD n d 0 j hj, Nat.zero_add] at this
  exact this
theorem ObjR.weak {X Y : Cx} {ρ ρ' : Rho} {b : Sb} {ι : P5 → Option P5} (hs : SubOk X.σ b Y.σ) (hn : Y.nm = X.nm) (hι : ∀ i j, ι i = some j → ρ' i = ρ j) {w : World} {id' id : P5} (e : ι id' = some id) {o' o : Obj} (h : Objm b ι o' o = true) (r : ObjR X ρ w id o) : ObjR Y ρ' w id' o' := by
  have e' := hι _ _ e
  cases o' with
  | none => trivial
  | cells n c =>
    cases o <;> simp only [Objm, Bool.and_eq_true, Bool.false_eq_true] at h
    obtain ⟨B, base, C, arr, el, e1, hb, h1, h2, h3, h4⟩ := r
    have hnm := Nat.le_of_ble_eq_true h.1
    refine ⟨B, base, C, arr, el, by rw [e']; exact e1, hb, h1, by omega, by omega, fun j hj => ?_⟩
    obtain ⟨v, hv, rv⟩ := h4 j (by omega)
    exact ⟨v, hv, VR.weak hs hn hι _ (cells_weak h.2 j hj) rv⟩
  | grown n c =>
    cases o <;> simp only [Objm, Bool.and_eq_true, Bool.false_eq_true] at h
    obtain ⟨B, base, C, arr, el, e1, hb, h1, h2, h3, h4⟩ := r
    have hnm := Nat.le_of_ble_eq_true h.1
    refine ⟨B, base, C, arr, el, by rw [e']; exact e1, hb, h1, by omega, by omega, fun j hj => ?_⟩
    obtain ⟨v, hv, rv⟩ := h4 j (by omega)
    exact ⟨v, hv, VR.weak hs hn hι _ (cells_weak h.2 j hj) rv⟩
  | bytes s =>
    cases o <;> simp only [Objm, Bool.false_eq_true] at h
    have h2 := SS.eqb_eq _ _ h
    subst h2
    obtain ⟨B, base, C, arr, el, e1, hb, h1, h2, h3, h4⟩ := r
    rw [SS.nrm_ev, SS.sub_ev hs] at h2 h4
    exact ⟨B, base, C, arr, el, by rw [e']; exact e1, hb, h1, h2, SS.sub_wf b s (SS.nrm_wf _ h3), h4⟩
  | map es =>
    cases o <;> simp only [Objm, Bool.and_eq_true, Bool.false_eq_true] at h
    obtain ⟨B, base, C, ents, clock, e1, hb, h1, h2⟩ := r
    exact ⟨B, base, C, ents, clock, by rw [e']; exact e1, hb, VRs.weak hs hn hι _ h.1 h1, VRs.weak hs hn hι _ h.2 h2⟩
  | iter l p =>
    cases o <;> simp only [Objm, Bool.and_eq_true, Bool.false_eq_true] at h
    obtain ⟨B, C, bb, e1, hb, h1⟩ := r
    have hl := (lbeq_iff _ _).1 h.1
    have hp := Nat.eq_of_beq_eq_true h.2
    subst hl hp
    exact ⟨B, C, bb, by rw [e']; exact e1, hb, h1⟩
structure Weak (nx1 : Nat) (σ : Val) (t : T3 AV) (H : Hp) (τ : Val) (t' : T3 AV) (H' : Hp) : Prop where
  ex : ∃ (b : Sb) (ι : P5 → Option P5), SubOk σ b τ ∧ (∀ id, Live H' id → ∃ j, ι id = some j ∧ Objm b ι (H'.get id) (H.get j) = true) ∧ (∀ i j k, Live H' i → Live H' j → ι i = some k → ι j = some k → i = j) ∧
    (∀ id : P5, H'.nx.num ≤ id.num → ι id = none) ∧ (∀ id : P5, id.num < nx1 → ι id = some id) ∧ (∀ i, i < 511 → AVm b ι (get3 t' (P3.ofNat i)) (get3 t (P3.ofNat i)) = true)
  nx : nx1 ≤ H'.nx.num
theorem Stp.weak {X Y : Cx} {pd : P5 → Prop} {ρ0 ρ : Rho} {H0 H : Hp} {w0 w : World} {t : T3 AV} {tm : Array Value} (h : Stp X pd ρ0 H0 w0 ρ H w) (hT : TR X ρ t tm) (h0 : ∀ id x, ρ0 id = some x → id.num < H0.nx.num) (hpd : ∀ id, pd id → id.num < H0.nx.num)
    (hn : Y.nm = X.nm) (hf : Y.fix = X.fix) {t' : T3 AV} {H' : Hp} (wk : Weak H0.nx.num X.σ t H Y.σ t' H') : ∃ ρ', Stp Y pd ρ0 H0 w0 ρ' H' w ∧ TR Y ρ' t' tm := by
  obtain ⟨⟨b, ι, hs, hlive, hinj, hfresh, hlow, htr⟩, hnx⟩ := wk
  let ρ' : Rho := fun id => (ι id).bind ρ
  have hι : ∀ i j, ι i = some j → ρ' i = ρ j := fun i j e => by show (ι i).bind ρ = ρ j; rw [e]; rfl
  have hlow' : ∀ id : P5, id.num < H0.nx.num → ρ' id = ρ id := fun id hid => hι _ _ (hlow id hid)
  have lives : ∀ id, Live H' id → ∃ j, ι id = some j ∧ Live H j := by
    intro id hl
    obtain ⟨j, e, ho⟩ := hlive id hl
    exact ⟨j, e, Objm_live ho hl⟩
  refine ⟨ρ', ⟨fun id x e => ?_, ⟨⟨fun id => ?_, fun i j hi hj hne => ?_, fun id hid => ?_, fun id B base C e => ?_, fun id hp => ?_⟩, fun bb o e => ?_⟩, ⟨h.fr.keeps, h.fr.size, h.fr.os, h.fr.output, h.fr.tape, fun id B hl e => ?_, hnx, fun id hid => ?_⟩⟩, ⟨fun i hi => ?_, hT.size⟩⟩
  · rw [hlow' id (h0 id x e)]; exact h.le id x e
  · by_cases hl : Live H' id
    · obtain ⟨j, e, ho⟩ := hlive id hl
      exact ObjR.weak hs hn hι e ho (h.hr.obj j)
    · have : H'.get id = .none := Classical.byContradiction hl
      rw [this]; trivial
  · obtain ⟨a, ea, la⟩ := lives i hi
    obtain ⟨c, ec, lc⟩ := lives j hj
    have hac : a ≠ c := fun x => hne (hinj i j a hi hj ea (by rw [ec, x]))
    have := h.hr.inj a c la lc hac
    simpa only [Rho.blk, hι _ _ ea, hι _ _ ec] using this
  · refine ⟨by show (ι id).bind ρ = none; rw [hfresh id hid]; rfl, fun hl => ?_⟩
    obtain ⟨j, e, _⟩ := lives id hl
    rw [hfresh id hid] at e; cases e
  · simp only [ρ'] at e
    cases hx : ι id with
    | none => rw [hx] at e; cases e
    | some j => rw [hx] at e; exact h.hr.below j B base C e
  · obtain ⟨B, base, C, e, hm, hno, hnl, hu⟩ := h.hr.pend id hp
    refine ⟨B, base, C, by rw [hlow' id (hpd id hp)]; exact e, hm, fun j hj => ?_, fun hl => ?_, fun j hj ej => hu j hj ?_⟩
    · obtain ⟨c, ec, lc⟩ := lives j hj
      have := hno c lc
      simpa only [Rho.blk, hι _ _ ec] using this
    · obtain ⟨c, ec, lc⟩ := lives id hl
      rw [hlow id (hpd id hp)] at ec
      cases ec
      exact hnl lc
    · simpa only [Rho.blk, hlow' j (hpd j hj)] using ej
  · rw [hf] at e
    obtain ⟨g1, g2, g3⟩ := h.hr.fixd bb o e
    refine ⟨g1, fun id hl => ?_, fun id hp => ?_⟩
    · obtain ⟨c, ec, lc⟩ := lives id hl
      have := g2 c lc
      simpa only [Rho.blk, hι _ _ ec] using this
    · have := g3 id hp
      simpa only [Rho.blk, hlow' id (hpd id hp)] using this
  · obtain ⟨c, ec, lc⟩ := lives id hl
    refine h.fr.live c B lc ?_
    simpa only [Rho.blk, hι _ _ ec] using e
  · rw [hlow' id hid]; exact h.fr.old id hid
  · exact VR.weak hs hn hι _ (htr i hi) (hT.get i hi)
end Ds
end
namespace Ds
open Go (IntKind Value World Addr MapEntry Program Sem Result Operand TypeId)
theorem Stp.trans' {X Y : Cx} {pd : P5 → Prop} {ρ ρ' ρ'' : Rho} {H H' H'' : Hp} {w w' w'' : World} (h : Stp X pd ρ H w ρ' H' w') (k : Stp Y pd ρ' H' w' ρ'' H'' w'') : Stp Y pd ρ H w ρ'' H'' w'' :=
  ⟨Rho.le_trans h.le k.le, k.hr, h.fr.trans k.fr⟩
theorem HR.dom {X : Cx} {pd : P5 → Prop} {ρ : Rho} {H : Hp} {w : World} (h : HR X pd ρ H w) : ∀ id x, ρ id = some x → id.num < H.nx.num := by
  intro id x e
  rcases Nat.lt_or_ge id.num H.nx.num with c | c
  · exact c
  · rw [(h.fresh id c).1] at e; cases e
theorem HR.pdom {X : Cx} {pd : P5 → Prop} {ρ : Rho} {H : Hp} {w : World} (h : HR X pd ρ H w) : ∀ id, pd id → id.num < H.nx.num := by
  intro id hp
  obtain ⟨B, base, C, e, _⟩ := h.pend id hp
  exact h.dom id _ e
inductive Rch (P : Program) (nm : Nat → String) (fx : Nat → Option Go.Obj) (nx1 : Nat) (body : Code) (R : Val → T3 AV → Hp → Nat → Prop) : Val → T3 AV → Hp → Prop
  | step {σ : Val} {E : Env} {call : CallF} {t t' : T3 AV} {h h' : Hp} : EnvOk P ⟨σ, nm, fx⟩ E → CallOk P ⟨σ, nm, fx⟩ call → Code.ev E call body t h = .normal t' h' → Rch P nm fx nx1 body R σ t' h' → Rch P nm fx nx1 body R σ t h
  | done {σ : Val} {E : Env} {call : CallF} {t t' : T3 AV} {h h' : Hp} {id : Nat} : EnvOk P ⟨σ, nm, fx⟩ E → CallOk P ⟨σ, nm, fx⟩ call → Code.ev E call body t h = .exit id t' h' → R σ t' h' id → Rch P nm fx nx1 body R σ t h
  | weak {σ τ : Val} {t t' : T3 AV} {h h' : Hp} : Weak nx1 σ t h τ t' h' → Rch P nm fx nx1 body R τ t' h' → Rch P nm fx nx1 body R σ t h
def PostR (nm : Nat → String) (fx : Nat → Option Go.Obj) (pd : P5 → Prop) (ρ0 : Rho) (H0 : Hp) (w0 : World) (R : Val → T3 AV → Hp → Nat → Prop) (a : Go.Act) (e : Go.Exit) (a' : Go.Act) (w' : World) : Prop :=
  a'.defers = a.defers ∧ a'.tmps.size = a.tmps.size ∧ ∃ id σ' ρ' t' H', e = .exit id ∧ Stp ⟨σ', nm, fx⟩ pd ρ0 H0 w0 ρ' H' w' ∧ TR ⟨σ', nm, fx⟩ ρ' t' a'.tmps ∧ R σ' t' H' id
section
variable {P : Program} {nm : Nat → String} {fx : Nat → Option Go.Obj} {names : List String} {nt : Nat}
theorem rch_sound (hmix : P.follows .mixedOrders = true) (hnm : ∀ i m, names.findIdx? (· == m) = some i → nm i = m) (h511 : nt ≤ 511) {c : Go.Code} {cc : Code} (hc : cCode P names nt c = some cc)
    {pd : P5 → Prop} {ρ0 : Rho} {H0 : Hp} {w0 : World} (h0 : ∀ id x, ρ0 id = some x → id.num < H0.nx.num) (hpd : ∀ id, pd id → id.num < H0.nx.num) (hG0 : GR P ρ0) {nx1 : Nat} (hnx : H0.nx.num = nx1) {R : Val → T3 AV → Hp → Nat → Prop} {σ : Val} {t : T3 AV} {H : Hp}
    (hr : Rch P nm fx nx1 cc R σ t H) : ∀ (ρ : Rho) (w : World) (a : Go.Act), Stp ⟨σ, nm, fx⟩ pd ρ0 H0 w0 ρ H w → TR ⟨σ, nm, fx⟩ ρ t a.tmps → nt ≤ a.tmps.size →
      ∀ b k cs, ∃ e a' w', PostR nm fx pd ρ0 H0 w0 R a e a' w' ∧ Go.Arrives P (Go.lone (b.at a (.code c :: .inLoop c :: k)) cs w) b k cs e a' w' := by
  induction hr with
  | @step σ E call t t' h h' hok hcall hev _ ih =>
    intro ρ w a hs hT hnt b k cs
    obtain ⟨e, a1, w1, hp, harr⟩ := code_sound hmix hok hcall hnm h511 c cc hc pd ρ h w t a _ hs.hr (hG0.le hs.le) hT hnt hev (by simp) b (.inLoop c :: k) cs
    obtain ⟨p1, p2, ρ1, t1, H1, p3, p4, p5⟩ := hp
    rcases p5 with ⟨p5, rfl⟩ | ⟨id, p5, rfl⟩ | ⟨p5, rfl⟩
    · cases p5
      obtain ⟨e2, a2, w2, hq2, harr2⟩ := ih ρ1 w1 a1 (hs.trans p3) p4 (by rw [p2]; exact hnt) b k cs
      obtain ⟨q1, q2, q3⟩ := hq2
      exact ⟨e2, a2, w2, ⟨q1.trans p1, q2.trans p2, q3⟩, .of_steps (Go.Steps.trans harr (.one Go.step_inLoop)) harr2⟩
    · cases p5
    · cases p5
  | @done σ E call t t' h h' id hok hcall hev hR =>
    intro ρ w a hs hT hnt b k cs
    obtain ⟨e, a1, w1, hp, harr⟩ := code_sound hmix hok hcall hnm h511 c cc hc pd ρ h w t a _ hs.hr (hG0.le hs.le) hT hnt hev (by simp) b (.inLoop c :: k) cs
    obtain ⟨p1, p2, ρ1, t1, H1, p3, p4, p5⟩ := hp
    rcases p5 with ⟨p5, rfl⟩ | ⟨id', p5, rfl⟩ | ⟨p5, rfl⟩
    · cases p5
    · cases p5
      exact ⟨_, a1, w1, ⟨p1, p2, id, σ, ρ1, _, _, rfl, hs.trans p3, p4, hR⟩, .pass (x := .inLoop c) rfl (fun _ _ => .inl (by simp)) harr⟩
    · cases p5
  | @weak σ τ t t' h h' wk _ ih =>
    intro ρ w a hs hT hnt b k cs
    obtain ⟨ρ', hs', hT'⟩ := Stp.weak (Y := ⟨τ, nm, fx⟩) hs hT h0 hpd rfl rfl (by rw [hnx]; exact wk)
    exact ih ρ' w a hs' hT' hnt b k cs
theorem rch_loop (hmix : P.follows .mixedOrders = true) (hnm : ∀ i m, names.findIdx? (· == m) = some i → nm i = m) (h511 : nt ≤ 511) {c : Go.Code} {cc : Code} (hc : cCode P names nt c = some cc)
    {pd : P5 → Prop} {ρ0 : Rho} {H0 : Hp} {w0 : World} (h0 : ∀ id x, ρ0 id = some x → id.num < H0.nx.num) (hpd : ∀ id, pd id → id.num < H0.nx.num) (hG0 : GR P ρ0) {nx1 : Nat} (hnx : H0.nx.num = nx1) {R : Val → T3 AV → Hp → Nat → Prop} {σ : Val} {t : T3 AV} {H : Hp}
    (hr : Rch P nm fx nx1 cc R σ t H) {ρ : Rho} {w : World} {a : Go.Act} (hs : Stp ⟨σ, nm, fx⟩ pd ρ0 H0 w0 ρ H w) (hT : TR ⟨σ, nm, fx⟩ ρ t a.tmps) (hnt : nt ≤ a.tmps.size) : (Go.Code.loop c).wp P (PostR nm fx pd ρ0 H0 w0 R a) a w := by
  intro b k cs
  obtain ⟨e, a', w', hq, harr⟩ := rch_sound hmix hnm h511 hc h0 hpd hG0 hnx hr ρ w a hs hT hnt b k cs
  exact ⟨e, a', w', hq, .of_steps (.one Go.step_loop) harr⟩
end
def iterN (body : T3 AV → Hp → Rc) : Nat → T3 AV → Hp → Rc
  | 0 => fun t h => .normal t h
  | n + 1 => fun t h => match body t h with | .normal t' h' => iterN body n t' h' | _ => .no
theorem Rch.iter {P : Program} {nm : Nat → String} {fx : Nat → Option Go.Obj} {nx1 : Nat} {body : Code} {R : Val → T3 AV → Hp → Nat → Prop} {σ : Val} {E : Env} {call : CallF} (hok : EnvOk P ⟨σ, nm, fx⟩ E) (hcall : CallOk P ⟨σ, nm, fx⟩ call) :
    ∀ (n : Nat) {t t' : T3 AV} {h h' : Hp}, iterN (Code.ev E call body) n t h = .normal t' h' → Rch P nm fx nx1 body R σ t' h' → Rch P nm fx nx1 body R σ t h
  | 0, t, t', h, h', e, r => by
    simp only [iterN, Rc.normal.injEq] at e
    obtain ⟨rfl, rfl⟩ := e; exact r
  | n + 1, t, t', h, h', e, r => by
    simp only [iterN] at e
    cases hb : Code.ev E call body t h with
    | normal t1 h1 => rw [hb] at e; exact .step hok hcall hb (Rch.iter hok hcall n e r)
    | no => rw [hb] at e; cases e
    | exit => rw [hb] at e; cases e
    | ret => rw [hb] at e; cases e
end Ds
namespace Ds
open Go (IntKind Value World Addr MapEntry Program Sem Result Operand TypeId)
theorem dfr_end {P : Program} {X : Cx} {E : Env} {call : CallF} {names : List String} (hmix : P.follows .mixedOrders = true) (hok : EnvOk P X E) (hcall : CallOk P X call) (hnm : ∀ i m, names.findIdx? (· == m) = some i → X.nm i = m)
    {f g : Nat} {rs : List Rv} {ca cr : Code} {cs : List Opn} {k : Nat} {drs : List Rv} {j : Nat} {ml : List Op} {cd cd2 : Code} (S : DfrShape P names f g rs ca cr cs k drs j ml cd cd2)
    {pd : P5 → Prop} {ρ3 : Rho} {H3 : Hp} {w3 : World} (hr3 : HR X pd ρ3 H3 w3) (hG3 : GR P ρ3) {t3 : T3 AV} {a3 : Go.Act} (hTf : TR X ρ3 t3 a3.tmps) {caps : List AV} {cvs : List Value} (hcap3 : VRs X ρ3 caps cvs) {v : AV} {H' : Hp}
    (hend : endD E call rs (.func g caps) g drs (.seq (.seq (.reg (.q (P3.ofNat j) (.mv (.c .nili)) :: ml)) cd) cd2) t3 H3 = .ok v H') (hd : a3.defers = [{ target := .fn (.func g) cvs.toArray, args := #[] }])
    {Q : Go.Ending → World → Prop} (hQ : ∀ ρ' w' v', Stp X pd ρ3 H3 w3 ρ' H' w' → VR X ρ' v v' → Q (.returned v') w') : Go.Leaves P S.fn a3.tmps Q a3.defers .returning w3 := by
  simp only [endD] at hend
  cases hc : (Nat.beq g g && Nat.ble caps.length 511) with
  | false => rw [hc] at hend; cases hend
  | true =>
    rw [hc] at hend
    simp only [Bool.and_eq_true, ble_true] at hc
    simp only [] at hend
    have hlc : caps.length < 512 := by omega
    cases hfin : finish drs (Code.ev E call (.seq (.seq (.reg (.q (P3.ofNat j) (.mv (.c .nili)) :: ml)) cd) cd2) (enterL anym 0 caps) H3) with
    | no => rw [hfin] at hend; cases hend
    | ok u H4 =>
      rw [hfin] at hend
      simp only [] at hend
      cases hrv : rvs t3 H4 rs with
      | none => rw [hrv] at hend; cases hend
      | some v0 =>
        rw [hrv] at hend
        simp only [Rr.ok.injEq] at hend
        obtain ⟨rfl, rfl⟩ := hend
        rw [hd]
        refine Go.leaves_cons (f := g) (args := cvs.toArray) (by simp) ?_ ?_
        · simp only [Go.invoke, Array.empty_append]
          exact run_callFunc S.hfd S.hnameD (by rw [S.hbD]; rfl) w3
        · -- the deferred call
          have hcD : Go.CallsD P g cvs.toArray .returning w3 (fun e u' w' => u' = .returning ∧ (∃ v', e = .returned v') ∧ ∃ ρ4, Stp X pd ρ3 H3 w3 ρ4 H4 w') := by
            refine Go.callsD_of_wpS S.hfd S.hbD (fun c₀ fs hc0 => Go.wpS_seq (Go.wpS_seq (Go.wpS_region ?_)))
            have hTD := enter_TR hcap3 hlc S.fd.ntmps S.hntD
            have hszD : S.fd.ntmps ≤ (cvs.toArray ++ Array.replicate (S.fd.ntmps - cvs.toArray.size) Go.undef).size := by simp; omega
            generalize hb0 : ({ tmps := cvs.toArray ++ Array.replicate (S.fd.ntmps - cvs.toArray.size) Go.undef, defers := [] } : Go.Act) = b0
            have htb : b0.tmps = cvs.toArray ++ Array.replicate (S.fd.ntmps - cvs.toArray.size) Go.undef := by rw [← hb0]
            have hdb : b0.defers = [] := by rw [← hb0]
            rw [← htb] at hTD hszD
            have hrange : List.range (S.rc :: S.l).toArray.size = 0 :: List.range' 1 S.l.length := by
              simp [List.range_eq_range', List.range'_succ]
            rw [hrange]
            simp only [Go.wpOpsS, List.getElem?_toArray, List.getElem?_cons_zero]
            rw [if_pos (by simp [Go.Region.wanted, S.hrg])]
            have hrr : (Go.execOp b0.eval S.rc).run P w3 = .ok .recover w3 := by
              simp [Go.execOp, S.hrc, Go.resolve, Go.invoke, Go.builtin]
            rw [hrr]
            have hrec : Go.recoverD (c₀ :: fs) = none := by simp [Go.recoverD, hc0]
            simp only [hrec]
            have hjb : j < b0.tmps.size := Nat.lt_of_lt_of_le S.hj hszD
            have hT3 : TR X ρ3 (set3 (enterL anym 0 caps) (P3.ofNat j) .nili) (b0.put S.rc.dst .nilIface).tmps := by
              rw [S.hrd]; exact hTD.set j hjb .nili
            simp only [Code.ev, ops, Op.ev, Ds.Q.ev, Opn.ev] at hfin
            cases ho : ops E call ml (set3 (enterL anym 0 caps) (P3.ofNat j) .nili) H3 with
            | no => rw [ho] at hfin; simp [finish] at hfin
            | ok t5 H5 =>
              rw [ho] at hfin
              simp only [] at hfin
              have hwo : Go.wpOps P (S.rc :: S.l).toArray (fun e a' w' => e = .normal ∧ a'.defers = [] ∧ a'.tmps.size = b0.tmps.size ∧ ∃ ρ5, Stp X pd ρ3 H3 w3 ρ5 H5 w' ∧ TR X ρ5 t5 a'.tmps) (List.range' 1 S.l.length) (b0.put S.rc.dst .nilIface) w3 := by
                refine seq_sound hok hcall hnm S.l 1 ml _ t5 H3 H5 ρ3 _ w3 (fun i o hi => ?_) S.hml ho hr3 hG3 hT3 (by rw [put_size]; exact hszD) (fun ρ5 a5 w5 s1 s2 s3 s4 => ⟨rfl, by rw [s3, put_defers, hdb], by rw [s4, put_size], ρ5, s1, s2⟩)
                rw [List.getElem?_toArray, Nat.add_comm 1 i, List.getElem?_cons_succ]; exact hi
              have hws := wpOpsS_of_wpOps (cs := c₀ :: fs) (by rintro ⟨_, _, h, _⟩; cases h) _ _ _ hwo
              have monoS : ∀ {QA QB : Go.Exit → Go.Act → List Go.Frame → World → Prop}, (∀ e a cs w, QA e a cs w → QB e a cs w) → ∀ (l : List Nat) (a : Go.Act) (cs : List Go.Frame) (w : World), Go.wpOpsS P (S.rc :: S.l).toArray QA l a cs w → Go.wpOpsS P (S.rc :: S.l).toArray QB l a cs w := by
                intro QA QB hAB l
                induction l with
                | nil => intro a cs w h; exact hAB _ _ _ _ h
                | cons i l ih =>
                  intro a cs w h
                  simp only [Go.wpOpsS] at h ⊢
                  split
                  · rename_i hn; rw [hn] at h; exact ih _ _ _ h
                  · rename_i o hn
                    rw [hn] at h
                    simp only [] at h
                    split
                    · rename_i hw
                      rw [if_pos hw] at h
                      split at h
                      · split at h
                        · exact ih _ _ _ h
                        · exact ih _ _ _ h
                      · rename_i r hr
                        generalize (Go.execOp a.eval o).run P w = rr at *
                        cases rr with
                        | ok n w' =>
                          cases n <;> simp only [Go.Oper.upon] at h ⊢
                          case value v => exact ih _ _ _ h
                          case skip => exact ih _ _ _ h
                          case defer d => exact ih _ _ _ h
                          case enter f args =>
                            refine h.mono (fun e w'' he => ?_)
                            cases e with
                            | returned v => exact ih _ _ _ he
                            | panicked c => exact hAB _ _ _ _ he
                            | outgrown => obtain ⟨x, y, z⟩ := he; exact ⟨x, y, hAB _ _ _ _ z⟩
                          case row row args => exact h.mono (fun v w'' he => ih _ _ _ he)
                        | halt x w' =>
                          cases x <;> simp only [Go.Oper.upon] at h ⊢
                          case panic v => exact hAB _ _ _ _ h
                    · rename_i hw
                      rw [if_neg hw] at h
                      exact ih _ _ _ h
              refine monoS (fun e a5 cs5 w5 hh => ?_) _ _ _ _ hws
              obtain ⟨hcs5, he5, d5, z5, ρ5, s1, s2⟩ := hh
              subst he5 hcs5
              simp only [Go.Exit.thenS]
              have fin2 : ∀ (a6 : Go.Act) (w6 : World) (ρ6 : Rho) (t6 : T3 AV) (H6 : Hp), a6.defers = [] → Stp X pd ρ3 H3 w3 ρ6 H6 w6 → TR X ρ6 t6 a6.tmps → rvs t6 H6 drs = some u → H6 = H4 →
                  a6.defers = [] ∧ ∃ u', c₀ :: fs = { c₀ with mode := u' } :: fs ∧ ∃ v', (Go.results S.fd a6.tmps).run P w6 = .ok v' w6 ∧ u' = .returning ∧ (∃ v'', Go.Ending.returned v' = .returned v'') ∧ ∃ ρ4, Stp X pd ρ3 H3 w3 ρ4 H4 w6 := by
                intro a6 w6 ρ6 t6 H6 d6 r3 r4 hvs hH6
                subst hH6
                obtain ⟨v', g1, g2⟩ := rvs_sound (P := P) r3.hr r4 S.hdrs hvs
                refine ⟨d6, .returning, ?_, v', g1, rfl, ⟨v', rfl⟩, ρ6, r3⟩
                congr 1
                rw [← hc0]
              have hno5 : Code.ev E call cd t5 H5 ≠ .no := by
                intro e; rw [e] at hfin; simp [finish] at hfin
              refine Go.wpS_of_wp (Go.wp_mono (code_sound (a := a5) hmix hok hcall hnm S.hntD S.d cd S.hcd pd ρ5 H5 w5 t5 _ s1.hr (hG3.le s1.le) s2 (by rw [z5]; exact hszD) rfl hno5) (fun e a6 w6 hp => ?_))
              obtain ⟨r1, r2, ρ6, t6, H6, r3, r4, r5⟩ := hp
              rcases r5 with ⟨r5, rfl⟩ | ⟨id, r5, rfl⟩ | ⟨r5, rfl⟩
              · rw [r5] at hfin
                simp only [] at hfin
                simp only [Go.Exit.thenS]
                have hno6 : Code.ev E call cd2 t6 H6 ≠ .no := by
                  intro e; rw [e] at hfin; simp [finish] at hfin
                refine Go.wpS_of_wp (Go.wp_mono (code_sound (a := a6) hmix hok hcall hnm S.hntD S.d2 cd2 S.hcd2 pd ρ6 H6 w6 t6 _ r3.hr ((hG3.le s1.le).le r3.le) r4 (by rw [r2, z5]; exact hszD) rfl hno6) (fun e a7 w7 hp => ?_))
                obtain ⟨x1, x2, ρ7, t7, H7, x3, x4, x5⟩ := hp
                rcases x5 with ⟨x5, rfl⟩ | ⟨id, x5, rfl⟩ | ⟨x5, rfl⟩
                · rw [x5] at hfin
                  simp only [finish] at hfin
                  split at hfin
                  · rename_i u0 hu0
                    simp only [Rr.ok.injEq] at hfin
                    exact fin2 a7 w7 ρ7 t7 H7 (by rw [x1, r1, d5]) ((s1.trans r3).trans x3) x4 (by rw [hu0, hfin.1]) hfin.2
                  · cases hfin
                · rw [x5] at hfin; simp [finish] at hfin
                · rw [x5] at hfin
                  simp only [finish] at hfin
                  split at hfin
                  · rename_i u0 hu0
                    simp only [Rr.ok.injEq] at hfin
                    exact fin2 a7 w7 ρ7 t7 H7 (by rw [x1, r1, d5]) ((s1.trans r3).trans x3) x4 (by rw [hu0, hfin.1]) hfin.2
                  · cases hfin
              · rw [r5] at hfin; simp [finish] at hfin
              · rw [r5] at hfin
                simp only [finish] at hfin
                split at hfin
                · rename_i u0 hu0
                  simp only [Rr.ok.injEq] at hfin
                  exact fin2 a6 w6 ρ6 t6 H6 (by rw [r1, d5]) (s1.trans r3) r4 (by rw [hu0, hfin.1]) hfin.2
                · cases hfin
          refine hcD.mono (fun e u' w' he => ?_)
          obtain ⟨rfl, ⟨v', rfl⟩, ρ4, s4⟩ := he
          show Go.Leaves P S.fn a3.tmps _ [] (Go.settle .returning) w'
          have hset : Go.settle .returning = .returning := rfl
          rw [hset]
          obtain ⟨v1, g1, g2⟩ := rvs_sound (P := P) s4.hr (hTf.le s4.le) S.hrs hrv
          exact ⟨v1, g1, hQ _ _ _ s4 g2⟩
theorem dfr_loop {P : Program} {nm : Nat → String} {fx : Nat → Option Go.Obj} {σ : Val} {E : Env} {call : CallF} {names : List String} (hmix : P.follows .mixedOrders = true) (hok : EnvOk P ⟨σ, nm, fx⟩ E) (hcall : CallOk P ⟨σ, nm, fx⟩ call) (hnm : ∀ i m, names.findIdx? (· == m) = some i → nm i = m)
    {f g : Nat} {rs : List Rv} {ca cr : Code} {cs : List Opn} {k : Nat} {drs : List Rv} {j : Nat} {ml : List Op} {cd cd2 : Code} (S : DfrShape P names f g rs ca cr cs k drs j ml cd cd2)
    {rb r2 : Go.Code} {body rest : Code} {lb : Nat} (hr : S.r = .seq (.block lb (.loop rb)) r2) (hrb : cCode P names S.fn.ntmps rb = some body) (hr2 : cCode P names S.fn.ntmps r2 = some rest)
    {pd : P5 → Prop} {ρ : Rho} {H : Hp} {w : World} {as : List AV} {vs : List Value} (hG : GR P ρ) (hH : HR ⟨σ, nm, fx⟩ pd ρ H w) (hv : VRs ⟨σ, nm, fx⟩ ρ as vs) (hla : as.length < 512)
    {t1 : T3 AV} {H2 : Hp} (e1 : Code.ev E call ca (enterL anym 0 as) H = .normal t1 H2) {nx1 : Nat} (hnx : H2.nx.num = nx1) (Q : Val → AV → Hp → Prop) {caps : List AV} (hcaps : evs t1 cs = caps)
    (hcc : ∀ (σ' : Val) (ρ1 ρ3 : Rho) (us : List Value), ρ1.le ρ3 → VRs ⟨σ, nm, fx⟩ ρ1 caps us → VRs ⟨σ', nm, fx⟩ ρ3 caps us)
    (hrch : Rch P nm fx nx1 body (fun σ' t' H' id => id = lb ∧ ∃ E' call' t3 H3 v H4, EnvOk P ⟨σ', nm, fx⟩ E' ∧ CallOk P ⟨σ', nm, fx⟩ call' ∧ (Code.ev E' call' rest t' H' = .normal t3 H3 ∨ Code.ev E' call' rest t' H' = .ret t3 H3) ∧
      endD E' call' rs (.func g caps) g drs (.seq (.seq (.reg (.q (P3.ofNat j) (.mv (.c .nili)) :: ml)) cd) cd2) t3 H3 = .ok v H4 ∧ Q σ' v H4) σ (set3 t1 (P3.ofNat k) (.func g caps)) H2) :
    (∃ fn, P.funcs[f]? = some fn ∧ (fn.name == "runtime.NumGoroutine") = false ∧ fn.body.isNone = false) ∧
    Go.Calls P f vs.toArray w (fun e w' => ∃ σ' ρ' v' v H', e = .returned v' ∧ Stp ⟨σ', nm, fx⟩ pd ρ H w ρ' H' w' ∧ VR ⟨σ', nm, fx⟩ ρ' v v' ∧ Q σ' v H') := by
  refine ⟨⟨S.fn, S.hfn, S.hname, by rw [S.hb]; rfl⟩, Go.calls_of_wp_defers S.hfn S.hb ?_⟩
  have hT := enter_TR hv hla S.fn.ntmps S.hnt
  have hsz : S.fn.ntmps ≤ (vs.toArray ++ Array.replicate (S.fn.ntmps - vs.toArray.size) Go.undef).size := by simp; omega
  refine Go.wp_seq (Go.wp_mono (code_sound (a := { tmps := vs.toArray ++ Array.replicate (S.fn.ntmps - vs.toArray.size) Go.undef, defers := [] }) hmix hok hcall hnm S.hnt S.a ca S.hca pd ρ H w (enterL anym 0 as) _ hH hG hT hsz e1 (by simp)) (fun e a1 w1 hp => ?_))
  obtain ⟨p1, p2, ρ1, t', H'', p3, p4, p5⟩ := hp
  rcases p5 with ⟨p5, rfl⟩ | ⟨id, p5, _⟩ | ⟨p5, _⟩
  case inr.inl => cases p5
  case inr.inr => cases p5
  simp only [Rc.normal.injEq] at p5
  obtain ⟨rfl, rfl⟩ := p5
  refine Go.wp_seq (Go.wp_region ?_)
  have hk1 : k < a1.tmps.size := by rw [p2]; exact Nat.lt_of_lt_of_le S.hk hsz
  have hcapr := cOpns_VR p4 (hG.le p3.le) S.hcs
  show Go.wpOps P #[S.mko, S.df] _ [0, 1] a1 w1
  simp only [Go.wpOps]
  simp only [List.getElem?_toArray, List.getElem?_cons_zero, List.getElem?_cons_succ]
  rw [if_pos (by simp [Go.Region.wanted, S.hmg])]
  refine .inl ?_
  unfold Go.Oper.wp
  have hr1 : (Go.execOp a1.eval S.mko).run P w1 = .ok (.value (.func (.func g) #[] (S.caps.map a1.eval).toArray)) w1 := by
    simp [Go.execOp, S.hmk, Go.Instr.makeFunc]
  rw [hr1, Go.Oper.upon_value]
  rw [if_pos (by simp [Go.Region.wanted, S.hdg])]
  refine .inl ?_
  have hev : (a1.put S.mko.dst (.func (.func g) #[] (S.caps.map a1.eval).toArray)).eval (.tmp k) = .func (.func g) #[] (S.caps.map a1.eval).toArray := by
    rw [S.hmd]
    simp [Go.Act.put, Go.Act.eval, hk1]
  have hr2' : (Go.execOp (a1.put S.mko.dst (.func (.func g) #[] (S.caps.map a1.eval).toArray)).eval S.df).run P w1 = .ok (.defer { target := .fn (.func g) (S.caps.map a1.eval).toArray, args := #[] }) w1 := by
    simp [Go.execOp, S.hdf, Go.resolve, hev, Go.Deferred.ofValue]
  rw [hr2', Go.Oper.upon_defer]
  rw [S.hdd]
  have hT2 : TR ⟨σ, nm, fx⟩ ρ1 (set3 t1 (P3.ofNat k) (.func g (evs t1 cs))) (a1.put S.mko.dst (.func (.func g) #[] (S.caps.map a1.eval).toArray)).tmps := by
    rw [S.hmd]; exact p4.set k hk1 (.func g _ _ hcapr)
  generalize hd0 : ({ target := .fn (.func g) (S.caps.map a1.eval).toArray, args := #[] } : Go.Deferred) = dd
  generalize ha2 : (({ (a1.put S.mko.dst (.func (.func g) #[] (S.caps.map a1.eval).toArray)) with defers := dd :: (a1.put S.mko.dst (.func (.func g) #[] (S.caps.map a1.eval).toArray)).defers } : Go.Act).put none Go.undef) = a2
  have ht2 : a2.tmps = (a1.put S.mko.dst (.func (.func g) #[] (S.caps.map a1.eval).toArray)).tmps := by rw [← ha2]; rfl
  have hdf2 : a2.defers = [dd] := by rw [← ha2]; show dd :: (a1.put S.mko.dst _).defers = [dd]; rw [put_defers, p1]
  have hz2 : a2.tmps.size = a1.tmps.size := by rw [ht2, put_size]
  rw [hcaps] at hT2 hcapr
  show S.r.wp P (Go.bodyPostD P S.fn _) a2 w1
  rw [hr]
  have hG1 := hG.le p3.le
  refine Go.wp_seq (Go.wp_block (Go.wp_mono (rch_loop (ρ0 := ρ1) (H0 := H2) (w0 := w1) hmix hnm S.hnt hrb p3.hr.dom p3.hr.pdom hG1 hnx hrch (Stp.refl p3.hr) (by rw [ht2]; exact hT2) (by rw [hz2, p2]; exact hsz)) (fun e a3 w3 hp => ?_)))
  obtain ⟨q1, q2, id, σ', ρ3, t3, H3, rfl, q3, q4, rfl, E', call', t4, H4, v, H5, hok', hcall', hrun, hend, hQ⟩ := hp
  simp only [Go.Exit.inBlock, if_pos]
  have hno : Code.ev E' call' rest t3 H3 ≠ .no := by
    intro e
    rw [e] at hrun
    rcases hrun with h | h <;> cases h
  refine Go.wp_mono (code_sound (a := a3) hmix hok' hcall' hnm S.hnt r2 rest hr2 pd ρ3 H3 w3 t3 _ q3.hr (hG1.le q3.le) q4 (by rw [q2, hz2, p2]; exact hsz) rfl hno) (fun e a4 w4 hp => ?_)
  obtain ⟨x1, x2, ρ4, t5, H6, x3, x4, x5⟩ := hp
  have fin : t5 = t4 → H6 = H4 → Go.Leaves P S.fn a4.tmps (fun e w' => ∃ σ' ρ' v' v H', e = .returned v' ∧ Stp ⟨σ', nm, fx⟩ pd ρ H w ρ' H' w' ∧ VR ⟨σ', nm, fx⟩ ρ' v v' ∧ Q σ' v H') a4.defers .returning w4 := by
    rintro rfl rfl
    refine dfr_end hmix hok' hcall' hnm S x3.hr ((hG1.le q3.le).le x3.le) x4 (hcc σ' ρ1 ρ4 _ (Rho.le_trans q3.le x3.le) hcapr) hend (by rw [x1, q1, hdf2, ← hd0]) (fun ρ' w' v' s1 s2 => ⟨σ', ρ', v', v, H5, rfl, ?_, s2, hQ⟩)
    exact Stp.trans' (Stp.trans' p3 q3) (x3.trans s1)
  rcases x5 with ⟨x5, rfl⟩ | ⟨id', x5, rfl⟩ | ⟨x5, rfl⟩
  · rcases hrun with h | h
    · rw [h] at x5; cases x5; exact fin rfl rfl
    · rw [h] at x5; cases x5
  · rcases hrun with h | h <;> rw [h] at x5 <;> cases x5
  · rcases hrun with h | h
    · rw [h] at x5; cases x5
    · rw [h] at x5; cases x5; exact fin rfl rfl
end Ds
noncomputable section
namespace Ds
open Go (IntKind Value World Addr Program)
def BdOk (σ : Val) (bd : List (Nat × Int × Int)) : Prop := ∀ x ∈ bd, x.2.1 ≤ σ.i x.1 ∧ σ.i x.1 ≤ x.2.2
def lookB : List (Nat × Int × Int) → Nat → Option (Int × Int)
  | [], _ => none
  | (j, b) :: l, i => match Nat.beq j i with | true => some b | false => lookB l i
def ile (a b : Int) : Bool := match ilt b a with | true => false | false => true
def inB (lo hi k : Int) : Bool := match ile (-9223372036854775808) (Int.add lo k) with | true => ile (Int.add hi k) 9223372036854775807 | false => false
def linStep (bd : List (Nat × Int × Int)) (r : Option (Nat × Int)) (c : Int) : Option (Nat × Int) := match r with
  | some (i, k) => (match lookB bd i with
    | some (lo, hi) => (match inB lo hi (Int.add k c) with | true => some (i, Int.add k c) | false => none)
    | none => none)
  | none => none
def linB (bd : List (Nat × Int × Int)) : SI → Option (Nat × Int)
  | .var i => (match lookB bd i with | some (lo, hi) => (match inB lo hi 0 with | true => some (i, 0) | false => none) | none => none)
  | .bin .add .i64 a (.lit c) => linStep bd (linB bd a) c
  | .bin .sub .i64 a (.lit c) => linStep bd (linB bd a) (Int.neg c)
  | _ => none
def rngB (bd : List (Nat × Int × Int)) (e : SI) : Option (Int × Int) := match e with
  | .lit n => some (n, n)
  | e => (match linB bd e with
    | some (i, k) => (match lookB bd i with | some (lo, hi) => some (Int.add lo k, Int.add hi k) | none => none)
    | none => none)
def bndF (bd : List (Nat × Int × Int)) (c : Cond) : Option Bool := match c with
  | .lti a b => (match rngB bd a, rngB bd b with
    | some (l, h), some (l', h') => (match ilt h l' with | true => some true | false => (match ile h' l with | true => some false | false => none))
    | _, _ => none)
  | .eqi a b => (match rngB bd a, rngB bd b with
    | some (l, h), some (l', h') => (match ilt h l' with | true => some false | false => (match ilt h' l with | true => some false | false => none))
    | _, _ => none)
  | _ => none
theorem ilt_iff (a b : Int) : ilt a b = true ↔ a < b := by rw [ilt_eq]; simp
theorem ile_iff (a b : Int) : ile a b = true ↔ a ≤ b := by
  unfold ile
  cases h : ilt b a with
  | true => have := (ilt_iff b a).1 h; simp; omega
  | false =>
    have : ¬ (b < a) := fun x => by rw [(ilt_iff b a).2 x] at h; cases h
    simp; omega
theorem lookB_mem : ∀ {bd : List (Nat × Int × Int)} {i : Nat} {b : Int × Int}, lookB bd i = some b → (i, b) ∈ bd
  | [], i, b, h => by cases h
  | (j, c) :: l, i, b, h => by
    simp only [lookB] at h
    cases hb : Nat.beq j i with
    | true =>
      rw [hb] at h
      have := Nat.eq_of_beq_eq_true hb
      subst this
      cases h; exact List.mem_cons_self ..
    | false => rw [hb] at h; exact List.mem_cons_of_mem _ (lookB_mem h)
section
variable {σ : Val} {bd : List (Nat × Int × Int)} (ok : BdOk σ bd)
include ok
theorem inB_ok {lo hi k : Int} (h : inB lo hi k = true) : -9223372036854775808 ≤ lo + k ∧ hi + k ≤ 9223372036854775807 := by
  have _u := ok
  unfold inB at h
  cases h1 : ile (-9223372036854775808) (Int.add lo k) with
  | false => rw [h1] at h; cases h
  | true =>
    rw [h1] at h
    exact ⟨(ile_iff _ _).1 h1, (ile_iff _ _).1 h⟩
theorem linStep_ok {r : Option (Nat × Int)} {c v : Int} (hr : ∀ i k, r = some (i, k) → v = σ.i i + k) {i : Nat} {k : Int} (h : linStep bd r c = some (i, k)) : IntKind.wrap .i64 (v + c) = σ.i i + k := by
  unfold linStep at h
  split at h
  · rename_i j m
    cases hb : lookB bd j with
    | none => rw [hb] at h; cases h
    | some b =>
      obtain ⟨lo, hi⟩ := b
      rw [hb] at h
      simp only [] at h
      cases hi2 : inB lo hi (Int.add m c) with
      | false => rw [hi2] at h; cases h
      | true =>
        rw [hi2] at h
        simp only [Option.some.injEq, Prod.mk.injEq] at h
        obtain ⟨rfl, rfl⟩ := h
        have h1 := ok _ (lookB_mem hb)
        have h2 := inB_ok ok hi2
        have h3 := hr j m rfl
        simp only [Int.add_def] at h1 h2 h3 ⊢
        rw [h3, wrap_id (by omega)]
        omega
  · cases h
theorem linB_ok : ∀ (e : SI) (i : Nat) (k : Int), linB bd e = some (i, k) → e.ev σ = σ.i i + k
  | .lit n, i, k, h => by simp [linB] at h
  | .cv _ _, i, k, h => by simp [linB] at h
  | .slen _, i, k, h => by simp [linB] at h
  | .var j, i, k, h => by
    simp only [linB] at h
    split at h
    · split at h
      · simp only [Option.some.injEq, Prod.mk.injEq] at h
        obtain ⟨rfl, rfl⟩ := h
        show σ.i j = σ.i j + 0
        omega
      · cases h
    · cases h
  | .bin o kk a b, i, k, h => by
    have ih := linB_ok a
    cases b with
    | lit c =>
      cases o <;> cases kk <;> simp only [linB, reduceCtorEq] at h
      · exact linStep_ok ok (fun i k e => ih i k e) h
      · have := linStep_ok ok (v := a.ev σ) (fun i k e => ih i k e) h
        show IntKind.wrap .i64 (a.ev σ - c) = _
        rw [← this]
        congr 1
    | var _ => cases o <;> cases kk <;> simp [linB] at h
    | bin _ _ _ _ => cases o <;> cases kk <;> simp [linB] at h
    | cv _ _ => cases o <;> cases kk <;> simp [linB] at h
    | slen _ => cases o <;> cases kk <;> simp [linB] at h
theorem rngB_ok {e : SI} {l h : Int} (hr : rngB bd e = some (l, h)) : l ≤ e.ev σ ∧ e.ev σ ≤ h := by
  unfold rngB at hr
  split at hr
  · simp only [Option.some.injEq, Prod.mk.injEq] at hr
    obtain ⟨rfl, rfl⟩ := hr
    exact ⟨Int.le_refl _, Int.le_refl _⟩
  · split at hr
    · rename_i i k hl
      split at hr
      · rename_i lo hi hb
        simp only [Option.some.injEq, Prod.mk.injEq] at hr
        obtain ⟨rfl, rfl⟩ := hr
        have h1 := ok _ (lookB_mem hb)
        have h2 := linB_ok ok _ i k hl
        simp only [Int.add_def] at *
        omega
      · cases hr
    · cases hr
theorem bndF_ok : Facts σ (bndF bd) := by
  intro c r h
  cases c with
  | lti a b =>
    simp only [bndF] at h
    split at h
    · rename_i l u l' u' h1 h2
      have e1 := rngB_ok ok h1
      have e2 := rngB_ok ok h2
      cases hc : ilt u l' with
      | true => rw [hc] at h; cases h; have := (ilt_iff _ _).1 hc; exact decide_eq_true (show a.ev σ < b.ev σ by omega)
      | false =>
        rw [hc] at h
        simp only [] at h
        cases hd : ile u' l with
        | true => rw [hd] at h; cases h; have := (ile_iff _ _).1 hd; exact decide_eq_false (show ¬ (a.ev σ < b.ev σ) by omega)
        | false => rw [hd] at h; cases h
    · cases h
  | eqi a b =>
    simp only [bndF] at h
    split at h
    · rename_i l u l' u' h1 h2
      have e1 := rngB_ok ok h1
      have e2 := rngB_ok ok h2
      cases hc : ilt u l' with
      | true => rw [hc] at h; cases h; have := (ilt_iff _ _).1 hc; exact decide_eq_false (show ¬ (a.ev σ = b.ev σ) by omega)
      | false =>
        rw [hc] at h
        simp only [] at h
        cases hd : ilt u' l with
        | true => rw [hd] at h; cases h; have := (ilt_iff _ _).1 hd; exact decide_eq_false (show ¬ (a.ev σ = b.ev σ) by omega)
        | false => rw [hd] at h; cases h
    · cases h
  | eqs a b => simp [bndF] at h
  | lts a b => simp [bndF] at h
end
def hpT (t : T5 Obj) : List (P5 × Obj) → T5 Obj
  | [] => t
  | x :: l => hpT (set5 t x.1 x.2) l
def Hp.of (nx : P5) (l : List (P5 × Obj)) : Hp := .mk (hpT (T5.all .none) l) nx
theorem hpT_get : ∀ (l : List (P5 × Obj)) (t : T5 Obj) (id : P5), get5 (hpT t l) id = get5 t id ∨ (id, get5 (hpT t l) id) ∈ l
  | [], t, id => .inl rfl
  | x :: l, t, id => by
    rcases hpT_get l (set5 t x.1 x.2) id with h | h
    · by_cases c : x.1 = id
      · right
        have e : get5 (hpT (set5 t x.1 x.2) l) id = x.2 := by rw [h, get5_set5, if_pos c]
        show (id, get5 (hpT (set5 t x.1 x.2) l) id) ∈ x :: l
        rw [e, ← c]; exact List.mem_cons_self ..
      · left; show get5 (hpT (set5 t x.1 x.2) l) id = _; rw [h, get5_set5, if_neg c]
    · exact .inr (List.mem_cons_of_mem _ h)
theorem Hp.of_live {nx : P5} {l : List (P5 × Obj)} {id : P5} (h : Live (Hp.of nx l) id) : (id, (Hp.of nx l).get id) ∈ l := by
  rcases hpT_get l (T5.all .none) id with e | e
  · exact absurd (e.trans (get5_all _ _)) h
  · exact e
def fT (t : T3 AV) : List (Nat × AV) → T3 AV
  | [] => t
  | x :: l => fT (set3 t (P3.ofNat x.1) x.2) l
def fOf (l : List (Nat × AV)) : T3 AV := fT anym l
theorem fT_get : ∀ (l : List (Nat × AV)) (t : T3 AV) (p : P3), get3 (fT t l) p = get3 t p ∨ ∃ i, p = P3.ofNat i ∧ (i, get3 (fT t l) p) ∈ l
  | [], t, p => .inl rfl
  | x :: l, t, p => by
    rcases fT_get l (set3 t (P3.ofNat x.1) x.2) p with h | ⟨i, e, h⟩
    · by_cases c : P3.ofNat x.1 = p
      · right
        have e : get3 (fT (set3 t (P3.ofNat x.1) x.2) l) p = x.2 := by rw [h, get3_set3, if_pos c]
        refine ⟨x.1, c.symm, ?_⟩
        show (x.1, get3 (fT (set3 t (P3.ofNat x.1) x.2) l) p) ∈ x :: l
        rw [e]; exact List.mem_cons_self ..
      · left; show get3 (fT (set3 t (P3.ofNat x.1) x.2) l) p = _; rw [h, get3_set3, if_neg c]
    · exact .inr ⟨i, e, List.mem_cons_of_mem _ h⟩
def lookP : List (P5 × P5) → P5 → Option P5
  | [], _ => none
  | (a, b) :: l, p => match P5.beq a p with | true => some b | false => lookP l p
def iota (nx1 nxn : Nat) (m : List (P5 × P5)) (id : P5) : Option P5 := match Nat.ble (Nat.succ id.num) nx1 with
  | true => some id
  | false => match Nat.ble (Nat.succ id.num) nxn with | true => lookP m id | false => none
def lookS : List (Nat × SI) → Nat → SI
  | [], n => .var n
  | (j, e) :: l, n => match Nat.beq j n with | true => e | false => lookS l n
def lookT : List (Nat × SS) → Nat → SS
  | [], n => .var n
  | (j, e) :: l, n => match Nat.beq j n with | true => e | false => lookT l n
def sbOf (li : List (Nat × SI)) (ls : List (Nat × SS)) : Sb := ⟨lookS li, lookT ls⟩
def imgs (ι : P5 → Option P5) : List (P5 × Obj) → List P5
  | [] => []
  | x :: l => match ι x.1 with | some j => j :: imgs ι l | none => imgs ι l
def notIn (p : P5) : List P5 → Bool
  | [] => true
  | q :: l => match P5.beq p q with | true => false | false => notIn p l
def distinct : List P5 → Bool
  | [] => true
  | p :: l => match notIn p l with | true => distinct l | false => false
def objsM (b : Sb) (ι : P5 → Option P5) (h : Hp) : List (P5 × Obj) → Bool
  | [] => true
  | x :: l => match ι x.1 with | some j => (match Objm b ι x.2 (h.get j) with | true => objsM b ι h l | false => false) | none => false
def slotsM (b : Sb) (ι : P5 → Option P5) (t : T3 AV) : List (Nat × AV) → Bool
  | [] => true
  | x :: l => match AVm b ι x.2 (get3 t (P3.ofNat x.1)) with | true => slotsM b ι t l | false => false
def stFits (nx1 kid : Nat) (li : List (Nat × SI)) (ls : List (Nat × SS)) (m : List (P5 × P5)) (fr : List (Nat × AV)) (nx : P5) (l : List (P5 × Obj)) (t : T3 AV) (h : Hp) : Bool :=
  match Nat.ble nx1 kid && Nat.ble kid nx.num with
  | true => (match objsM (sbOf li ls) (iota kid nx.num m) h l with
    | true => (match distinct (imgs (iota kid nx.num m) l) with
      | true => slotsM (sbOf li ls) (iota kid nx.num m) t fr
      | false => false)
    | false => false)
  | false => false
theorem objsM_mem {b : Sb} {ι : P5 → Option P5} {h : Hp} : ∀ {l : List (P5 × Obj)}, objsM b ι h l = true → ∀ x ∈ l, ∃ j, ι x.1 = some j ∧ Objm b ι x.2 (h.get j) = true
  | [], _, x, hx => by cases hx
  | y :: l, hc, x, hx => by
    simp only [objsM] at hc
    cases hi : ι y.1 with
    | none => rw [hi] at hc; cases hc
    | some j =>
      rw [hi] at hc
      simp only [] at hc
      cases ho : Objm b ι y.2 (h.get j) with
      | false => rw [ho] at hc; cases hc
      | true =>
        rw [ho] at hc
        rcases List.mem_cons.1 hx with rfl | hx
        · exact ⟨j, hi, ho⟩
        · exact objsM_mem hc x hx
theorem slotsM_mem {b : Sb} {ι : P5 → Option P5} {t : T3 AV} : ∀ {l : List (Nat × AV)}, slotsM b ι t l = true → ∀ x ∈ l, AVm b ι x.2 (get3 t (P3.ofNat x.1)) = true
  | [], _, x, hx => by cases hx
  | y :: l, hc, x, hx => by
    simp only [slotsM] at hc
    cases ho : AVm b ι y.2 (get3 t (P3.ofNat y.1)) with
    | false => rw [ho] at hc; cases hc
    | true =>
      rw [ho] at hc
      rcases List.mem_cons.1 hx with rfl | hx
      · exact ho
      · exact slotsM_mem hc x hx
theorem notIn_ok {p : P5} : ∀ {l : List P5}, notIn p l = true → p ∉ l
  | [], _, h => by cases h
  | q :: l, hc, h => by
    simp only [notIn] at hc
    cases hb : P5.beq p q with
    | true => rw [hb] at hc; cases hc
    | false =>
      rw [hb] at hc
      rcases List.mem_cons.1 h with rfl | h
      · rw [(P5.beq_iff _ _).2 rfl] at hb; cases hb
      · exact notIn_ok hc h
theorem imgs_mem {ι : P5 → Option P5} : ∀ {l : List (P5 × Obj)} {x : P5 × Obj} {j : P5}, x ∈ l → ι x.1 = some j → j ∈ imgs ι l
  | [], x, j, hx, e => by cases hx
  | y :: l, x, j, hx, e => by
    have key : imgs ι (y :: l) = (match ι y.1 with | some j => j :: imgs ι l | none => imgs ι l) := rfl
    rw [key]
    cases hy : ι y.1 with
    | none =>
      rcases List.mem_cons.1 hx with h | h
      · rw [h, hy] at e; cases e
      · exact imgs_mem h e
    | some k =>
      rcases List.mem_cons.1 hx with h | h
      · rw [h, hy] at e; cases e; exact List.mem_cons_self ..
      · exact List.mem_cons_of_mem _ (imgs_mem h e)
theorem distinct_inj {ι : P5 → Option P5} : ∀ {l : List (P5 × Obj)}, distinct (imgs ι l) = true → ∀ x ∈ l, ∀ y ∈ l, ∀ k, ι x.1 = some k → ι y.1 = some k → x = y
  | [], _, x, hx, _, _, _, _, _ => by cases hx
  | z :: l, hd, x, hx, y, hy, k, ex, ey => by
    simp only [imgs] at hd
    cases hz : ι z.1 with
    | none =>
      rw [hz] at hd
      rcases List.mem_cons.1 hx with rfl | hx
      · rw [hz] at ex; cases ex
      · rcases List.mem_cons.1 hy with rfl | hy
        · rw [hz] at ey; cases ey
        · exact distinct_inj hd x hx y hy k ex ey
    | some j =>
      rw [hz] at hd
      simp only [distinct] at hd
      cases hn : notIn j (imgs ι l) with
      | false => rw [hn] at hd; cases hd
      | true =>
        rw [hn] at hd
        rcases List.mem_cons.1 hx with hx1 | hx1
        · rcases List.mem_cons.1 hy with hy1 | hy1
          · rw [hx1, hy1]
          · rw [hx1, hz] at ex; cases ex
            exact absurd (imgs_mem hy1 ey) (notIn_ok hn)
        · rcases List.mem_cons.1 hy with hy1 | hy1
          · rw [hy1, hz] at ey; cases ey
            exact absurd (imgs_mem hx1 ex) (notIn_ok hn)
          · exact distinct_inj hd x hx1 y hy1 k ex ey
def updV (σ : Val) (li : List (Nat × SI)) (ls : List (Nat × SS)) (hls : ∀ n, ((lookT ls n).ev σ).length ≤ 1048576) : Val where
  i n := (lookS li n).ev σ
  s n := (lookT ls n).ev σ
  ok := hls
theorem stFits_weak {nx1 kid : Nat} {li : List (Nat × SI)} {ls : List (Nat × SS)} {m : List (P5 × P5)} {fr : List (Nat × AV)} {nx : P5} {l : List (P5 × Obj)} {t : T3 AV} {h : Hp} {σ τ : Val} (hf : stFits nx1 kid li ls m fr nx l t h = true) (hi : ∀ n, (lookS li n).ev σ = τ.i n) (hs : ∀ n, (lookT ls n).ev σ = τ.s n) :
    Weak nx1 σ t h τ (fOf fr) (Hp.of nx l) := by
  unfold stFits at hf
  cases c1 : (Nat.ble nx1 kid && Nat.ble kid nx.num) with
  | false => rw [c1] at hf; cases hf
  | true =>
    rw [c1] at hf
    simp only [] at hf
    cases c2 : objsM (sbOf li ls) (iota kid nx.num m) h l with
    | false => rw [c2] at hf; cases hf
    | true =>
      rw [c2] at hf
      simp only [] at hf
      cases c3 : distinct (imgs (iota kid nx.num m) l) with
      | false => rw [c3] at hf; cases hf
      | true =>
        rw [c3] at hf
        simp only [] at hf
        simp only [Bool.and_eq_true] at c1
        have hk1 : nx1 ≤ kid := Nat.le_of_ble_eq_true c1.1
        have hk2 : kid ≤ nx.num := Nat.le_of_ble_eq_true c1.2
        have hnx : nx1 ≤ nx.num := Nat.le_trans hk1 hk2
        refine ⟨⟨sbOf li ls, iota kid nx.num m, ⟨hi, hs⟩, fun id hl => ?_, fun i j k li' lj ei ej => ?_, fun id hid => ?_, fun id hid => ?_, fun i hi' => ?_⟩, hnx⟩
        · have := objsM_mem c2 (id, (Hp.of nx l).get id) (Hp.of_live hl)
          exact this
        · have := distinct_inj c3 (i, (Hp.of nx l).get i) (Hp.of_live li') (j, (Hp.of nx l).get j) (Hp.of_live lj) k ei ej
          exact (Prod.mk.inj this).1
        · have hid : nx.num ≤ id.num := hid
          unfold iota
          have e1 : Nat.ble (Nat.succ id.num) kid = false := by
            cases hx : Nat.ble (Nat.succ id.num) kid with
            | false => rfl
            | true => have := Nat.le_of_ble_eq_true hx; omega
          have e2 : Nat.ble (Nat.succ id.num) nx.num = false := by
            cases hx : Nat.ble (Nat.succ id.num) nx.num with
            | false => rfl
            | true => have := Nat.le_of_ble_eq_true hx; omega
          rw [e1, e2]
        · unfold iota
          rw [Nat.ble_eq_true_of_le (show Nat.succ id.num ≤ kid from Nat.lt_of_lt_of_le hid hk1)]
        · rcases fT_get fr anym (P3.ofNat i) with e | ⟨k, e1, e2⟩
          · have : get3 (fOf fr) (P3.ofNat i) = .any := by show get3 (fT anym fr) _ = _; rw [e]; exact get3_all _ _
            rw [this]; rfl
          · have := slotsM_mem hf _ e2
            have e3 : get3 (fT anym fr) (P3.ofNat i) = get3 (fOf fr) (P3.ofNat i) := rfl
            simp only [e3] at this
            rw [← e1] at this
            exact this
end Ds
end
