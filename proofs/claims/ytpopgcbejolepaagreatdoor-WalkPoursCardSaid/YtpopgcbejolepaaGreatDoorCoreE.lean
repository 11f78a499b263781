/- The deterministic evaluator D and what is proved with it, part CoreE of the claim on YtpopgcbejolepaaGreatDoor. -/
import Derived.Test.YtpopgcbejolepaaGreatDoorCoreA
import Derived.Test.YtpopgcbejolepaaGreatDoorCoreB
import Derived.Laws.BitsLemmas
noncomputable section
namespace Ds
open Go (IntKind)
inductive Pc | lit (l : List Nat) | dig (e : SI)
def SS.pcs : SS → List Pc → Option (List Pc)
  | .lit a, l => some (.lit a :: l)
  | .dig e, l => some (.dig e :: l)
  | .cat a b, l => match SS.pcs b l with | some m => SS.pcs a m | none => none
  | .var _, _ => none
structure Src where
  s : SS
  head : List Nat
  tail : List (SI × List Nat)
def Src.lits (S : Src) : List (List Nat) := S.head :: S.tail.map (·.2)
def nthLL : List (List Nat) → Nat → Option (List Nat)
  | [], _ => none
  | a :: _, 0 => some a
  | _ :: l, n + 1 => nthLL l n
def gapLo : List (List Nat) → Nat → Nat → Nat
  | _, _, 0 => 0
  | [], _, _ => 0
  | a :: l, 0, m + 1 => Nat.add (Nat.succ a.length) (gapLo l 0 m)
  | _ :: l, k + 1, m + 1 => gapLo l k m
def gapHi : List (List Nat) → Nat → Nat → Nat
  | _, _, 0 => 0
  | [], _, _ => 0
  | a :: l, 0, m + 1 => Nat.add (Nat.add a.length 21) (gapHi l 0 m)
  | _ :: l, k + 1, m + 1 => gapHi l k m
inductive Lin | no | at (k o : Nat)
def linAdd : Lin → Lin → Lin
  | .at k o, .at 0 p => (match Nat.ble (Nat.add o p) 1000000 with | true => .at k (Nat.add o p) | false => .no)
  | .at 0 o, .at k p => (match Nat.ble (Nat.add o p) 1000000 with | true => .at k (Nat.add o p) | false => .no)
  | _, _ => .no
def linSub : Lin → Lin → Lin
  | .at k o, .at m p => (match Nat.beq k m && Nat.ble p o with | true => .at 0 (Nat.sub o p) | false => .no)
  | _, _ => .no
def linBin (o : AOp) (k : IntKind) (a b : Lin) : Lin := match k with
  | .i64 => (match o with | .add => linAdd a b | .sub => linSub a b | _ => .no)
  | _ => .no
def linVar (S : Src) (i : Nat) : Lin := match Nat.ble 100 i && Nat.ble (Nat.sub i 100) S.tail.length with | true => .at (Nat.sub i 100) 0 | false => .no
def linLit (n : Int) : Lin := match n with | .ofNat n => (match Nat.ble n 1000000 with | true => .at 0 n | false => .no) | _ => .no
def lastLen (S : Src) : Nat := match nthLL S.lits S.tail.length with | some l => l.length | none => 0
def linLen (S : Src) (s : SS) : Lin := match SS.eqb s S.s with | true => .at S.tail.length (lastLen S) | false => .no
def linOf (S : Src) (e : SI) : Lin := SI.rec (motive_1 := fun _ => Lin) (motive_2 := fun _ => Unit)
  (fun n => linLit n) (fun i => linVar S i) (fun o k _ _ a b => linBin o k a b) (fun _ _ _ => .no) (fun s _ => linLen S s) (fun _ => ()) (fun _ => ()) (fun _ _ => ()) (fun _ _ _ _ => ()) e
def linLt (S : Src) : Lin → Lin → Option Bool
  | .at k o, .at m p => match Nat.beq k m with
    | true => some (Nat.ble (Nat.succ o) p)
    | false => match Nat.ble k m with
      | true => (match Nat.ble (Nat.succ o) (Nat.add (gapLo S.lits k m) p) with
        | true => some true
        | false => (match Nat.ble (Nat.add (gapHi S.lits k m) p) o with | true => some false | false => none))
      | false => (match Nat.ble p (Nat.add (gapLo S.lits m k) o) with
        | true => some false
        | false => (match Nat.ble (Nat.succ (Nat.add (gapHi S.lits m k) o)) p with | true => some true | false => none))
  | _, _ => none
def linEq (S : Src) (a b : Lin) : Option Bool := match linLt S a b with
  | some true => some false
  | _ => match linLt S b a with
    | some true => some false
    | some false => (match linLt S a b with | some false => some true | _ => none)
    | none => none
def isByte (S : Src) (e : SI) : Bool := match e with | .var i => Nat.ble 201 i && Nat.ble (Nat.sub i 200) S.tail.length | _ => false
def byteLt (S : Src) (a b : SI) : Option Bool := match isByte S a with
  | true => (match b with | .lit (.ofNat n) => (match Nat.ble 58 n with | true => some true | false => (match Nat.ble n 48 with | true => some false | false => none)) | _ => none)
  | false => match isByte S b with
    | true => (match a with | .lit (.ofNat n) => (match Nat.ble (Nat.succ n) 48 with | true => some true | false => (match Nat.ble 57 n with | true => some false | false => none)) | _ => none)
    | false => none
def byteEq (S : Src) (a b : SI) : Option Bool := match isByte S a with
  | true => (match b with | .lit (.ofNat n) => (match Nat.ble (Nat.succ n) 48 || Nat.ble 58 n with | true => some false | false => none) | _ => none)
  | false => none
def noDigit : List Nat → Bool
  | [] => true
  | c :: l => match (Nat.ble 48 c && Nat.ble c 57) || Nat.ble 256 c with | true => false | false => noDigit l
def isMix (S : Src) (s : SS) : Bool := match s with | .var i => Nat.ble 2 i && Nat.ble (Nat.div i 2) S.tail.length | _ => false
def mixEq (S : Src) (a b : SS) : Option Bool := match isMix S a with
  | true => (match b with | .lit l => (match noDigit l with | true => some false | false => none) | _ => none)
  | false => none
def orB (a b : Option Bool) : Option Bool := match a with | some r => some r | none => b
def orcF (S : Src) (facts : List (Cond × Bool)) (c : Cond) : Option Bool := match c with
  | .lti a b => orB (linLt S (linOf S a) (linOf S b)) (orB (byteLt S a b) (lookF c facts))
  | .eqi a b => orB (linEq S (linOf S a) (linOf S b)) (orB (byteEq S a b) (lookF c facts))
  | .eqs a b => orB (mixEq S a b) (lookF c facts)
  | c => lookF c facts
def orcIx (S : Src) (s : SS) (i : SI) : Option SI := match SS.eqb s S.s with
  | true => (match linOf S i with
    | .at k o => (match nthLL S.lits k with
      | some l => (match nthL l o with
        | some c => some (.lit (.ofNat c))
        | none => (match Nat.beq o l.length && Nat.ble (Nat.succ k) S.tail.length with | true => some (.var (Nat.add 201 k)) | false => none))
      | none => none)
    | .no => none)
  | false => none
def orcSl (S : Src) (s : SS) (a b : SI) : Option SS := match SS.eqb s S.s with
  | true => (match linOf S a, linOf S b with
    | .at k o, .at m p => (match Nat.beq k m && Nat.ble o p with
      | true => (match nthLL S.lits k with
        | some l => (match Nat.ble p l.length with
          | true => some (.lit (takeL (Nat.sub p o) (dropL o l)))
          | false => (match Nat.beq p (Nat.succ l.length) && Nat.ble (Nat.succ k) S.tail.length && Nat.beq (Nat.add o 2) p with
            | true => some (.var (Nat.mul 2 (Nat.succ k)))
            | false => (match Nat.beq o l.length && Nat.ble (Nat.succ k) S.tail.length && Nat.beq (Nat.add o 2) p && (match nthLL S.lits (Nat.succ k) with | some (_ :: _) => true | _ => false) with
              | true => some (.var (Nat.succ (Nat.mul 2 (Nat.succ k))))
              | false => none)))
        | none => none)
      | false => none)
    | _, _ => none)
  | false => none
end Ds
end
namespace Ds
open Go (IntKind)
def digs (σ : Val) (e : SI) : List UInt8 := Go.Lib.itoa (IntKind.wrap .i64 (e.ev σ))
def bytesF (σ : Val) : List Nat → List (SI × List Nat) → List UInt8
  | h, [] => b8 h
  | h, (e, l) :: r => b8 h ++ (digs σ e ++ bytesF σ l r)
def posF (σ : Val) : List Nat → List (SI × List Nat) → Nat → Nat
  | _, _, 0 => 0
  | _, [], _ + 1 => 0
  | h, (e, l) :: r, k + 1 => h.length + (digs σ e).length + posF σ l r k
def sufF : List Nat → List (SI × List Nat) → Nat → List Nat × List (SI × List Nat)
  | h, tl, 0 => (h, tl)
  | _h, [], _ + 1 => ([], [])
  | _, (_, l) :: r, k + 1 => sufF l r k
theorem b8_len (l : List Nat) : (b8 l).length = l.length := by simp [b8]
theorem drop_pos (σ : Val) : ∀ (k : Nat) (h : List Nat) (tl : List (SI × List Nat)), k ≤ tl.length → (bytesF σ h tl).drop (posF σ h tl k) = bytesF σ (sufF h tl k).1 (sufF h tl k).2 ∧ posF σ h tl k ≤ (bytesF σ h tl).length
  | 0, h, tl, _ => by simp [posF, sufF]
  | k + 1, h, [], hk => by simp at hk
  | k + 1, h, (e, l) :: r, hk => by
    have ih := drop_pos σ k l r (by simpa using hk)
    simp only [posF, bytesF, sufF]
    constructor
    · rw [← List.append_assoc, show h.length + (digs σ e).length + posF σ l r k = (b8 h ++ digs σ e).length + posF σ l r k by simp [b8_len], ← List.drop_drop, List.drop_left]
      exact ih.1
    · simp only [List.length_append, b8_len]; omega
theorem nthLL_suf : ∀ (k : Nat) (h : List Nat) (tl : List (SI × List Nat)), k ≤ tl.length → nthLL (h :: tl.map (·.2)) k = some (sufF h tl k).1 ∧ (sufF h tl k).2.length = tl.length - k
  | 0, h, tl, _ => by simp [nthLL, sufF]
  | k + 1, h, [], hk => by simp at hk
  | k + 1, h, (e, l) :: r, hk => by
    have ih := nthLL_suf k l r (by simpa using hk)
    simp only [List.map_cons, nthLL, sufF, List.length_cons]
    exact ⟨ih.1, by rw [ih.2]; omega⟩
theorem nthLL_big : ∀ (k : Nat) (ls : List (List Nat)), ls.length ≤ k → nthLL ls k = none
  | _, [], _ => by unfold nthLL; rfl
  | 0, a :: l, h => by simp at h
  | k + 1, a :: l, h => by simp only [nthLL]; exact nthLL_big k l (by simpa using h)
def DigOk (σ : Val) (tl : List (SI × List Nat)) : Prop := ∀ x ∈ tl, 1 ≤ (digs σ x.1).length ∧ (digs σ x.1).length ≤ 21
theorem gap_ok (σ : Val) : ∀ (m k : Nat) (h : List Nat) (tl : List (SI × List Nat)), DigOk σ tl → k ≤ m → m ≤ tl.length →
    posF σ h tl k + gapLo (h :: tl.map (·.2)) k m ≤ posF σ h tl m ∧ posF σ h tl m ≤ posF σ h tl k + gapHi (h :: tl.map (·.2)) k m
  | 0, k, h, tl, hd, hk, hm => by
    obtain rfl : k = 0 := by omega
    simp [posF, gapLo, gapHi]
  | m + 1, 0, h, [], hd, hk, hm => by simp at hm
  | m + 1, k + 1, h, [], hd, hk, hm => by simp at hm
  | m + 1, 0, h, (e, l) :: r, hd, hk, hm => by
    have ih := gap_ok σ m 0 l r (fun x hx => hd x (List.mem_cons_of_mem _ hx)) (by omega) (by simpa using hm)
    have := hd (e, l) (List.mem_cons_self ..)
    simp only [posF, List.map_cons, gapLo, gapHi, Nat.add_eq, Nat.succ_eq_add_one, Nat.zero_add] at ih this ⊢
    omega
  | m + 1, k + 1, h, (e, l) :: r, hd, hk, hm => by
    have ih := gap_ok σ m k l r (fun x hx => hd x (List.mem_cons_of_mem _ hx)) (by omega) (by simpa using hm)
    simp only [posF, List.map_cons, gapLo, gapHi] at ih ⊢
    omega
structure SrcOk (σ : Val) (S : Src) : Prop where
  txt : S.s.ev σ = bytesF σ S.head S.tail
  hw : ∀ c ∈ S.head, c < 256
  tw : ∀ x ∈ S.tail, ∀ c ∈ x.2, c < 256
  dig : DigOk σ S.tail
  small : (bytesF σ S.head S.tail).length ≤ 1000000
  pos : ∀ k, k ≤ S.tail.length → σ.i (100 + k) = (posF σ S.head S.tail k : Int)
  byte : ∀ k, k < S.tail.length → ∃ n : Nat, 48 ≤ n ∧ n ≤ 57 ∧ σ.i (201 + k) = (n : Int) ∧ (bytesF σ S.head S.tail)[posF σ S.head S.tail k + (sufF S.head S.tail k).1.length]? = some (UInt8.ofNat n)
  mixA : ∀ k, k < S.tail.length → 1 ≤ (sufF S.head S.tail k).1.length → σ.s (2 * (k + 1)) = ((bytesF σ S.head S.tail).drop (posF σ S.head S.tail k + (sufF S.head S.tail k).1.length - 1)).take 2
  mixB : ∀ k, k < S.tail.length → σ.s (2 * (k + 1) + 1) = ((bytesF σ S.head S.tail).drop (posF σ S.head S.tail k + (sufF S.head S.tail k).1.length)).take 2
  mixD : ∀ i, 2 ≤ i → i / 2 ≤ S.tail.length → ∃ c ∈ σ.s i, 48 ≤ c.toNat ∧ c.toNat ≤ 57
def LinOk (σ : Val) (S : Src) (e : SI) (x : Lin) : Prop := ∀ k o, x = .at k o → k ≤ S.tail.length ∧ o ≤ 1000000 ∧ e.ev σ = ((posF σ S.head S.tail k + o : Nat) : Int)
section
variable {σ : Val} {S : Src} (ok : SrcOk σ S)
include ok
theorem full_len : (bytesF σ S.head S.tail).length = posF σ S.head S.tail S.tail.length + lastLen S := by
  have _u := ok
  obtain ⟨h1, h2⟩ := drop_pos σ S.tail.length S.head S.tail (Nat.le_refl _)
  obtain ⟨h3, h4⟩ := nthLL_suf S.tail.length S.head S.tail (Nat.le_refl _)
  have h5 : (sufF S.head S.tail S.tail.length).2 = [] := List.length_eq_zero_iff.1 (by rw [h4]; omega)
  rw [h5] at h1
  have h6 : lastLen S = (sufF S.head S.tail S.tail.length).1.length := by
    unfold lastLen Src.lits
    rw [h3]
  have h7 := congrArg List.length h1
  simp only [List.length_drop, bytesF, b8_len] at h7
  omega
theorem wrap_small {n : Nat} (h : n ≤ 9000000) : IntKind.wrap .i64 (n : Int) = (n : Int) := by
  have _u := ok
  have := wrapF_eq .i64 (n : Int)
  rw [← this]
  show (match Nat.ble n 9223372036854775807 with | true => Int.ofNat n | false => IntKind.wrap .i64 (Int.ofNat n)) = _
  rw [Nat.ble_eq_true_of_le (by omega)]
  rfl
theorem pos_le {k : Nat} (hk : k ≤ S.tail.length) : posF σ S.head S.tail k ≤ 1000000 :=
  Nat.le_trans (drop_pos σ k S.head S.tail hk).2 ok.small
theorem linAdd_ok {a b : SI} {x y : Lin} (hx : LinOk σ S a x) (hy : LinOk σ S b y) : LinOk σ S (.bin .add .i64 a b) (linAdd x y) := by
  have base : ∀ k o p : Nat, k ≤ S.tail.length → o ≤ 1000000 → p ≤ 1000000 → o + p ≤ 1000000 → IntKind.wrap .i64 (((posF σ S.head S.tail k + o : Nat) : Int) + (p : Int)) = ((posF σ S.head S.tail k + (o + p) : Nat) : Int) := by
    intro k o p hk ho hp hs
    have := pos_le ok hk
    rw [← Nat.add_assoc, ← Int.natCast_add, wrap_small ok (by omega)]
  intro k o h
  cases x with
  | no => simp [linAdd] at h
  | «at» k1 o1 =>
    obtain ⟨a1, a2, a3⟩ := hx k1 o1 rfl
    cases y with
    | no => cases k1 <;> simp [linAdd] at h
    | «at» k2 o2 =>
      obtain ⟨b1, b2, b3⟩ := hy k2 o2 rfl
      have p0 : posF σ S.head S.tail 0 = 0 := by unfold posF; rfl
      cases k2 with
      | zero =>
        simp only [linAdd] at h
        cases hb : Nat.ble (Nat.add o1 o2) 1000000 with
        | false => rw [hb] at h; cases h
        | true =>
          rw [hb] at h
          simp only [Lin.at.injEq] at h
          obtain ⟨rfl, rfl⟩ := h
          have hb := Nat.le_of_ble_eq_true hb
          refine ⟨a1, hb, ?_⟩
          show IntKind.wrap .i64 (SI.ev σ a + SI.ev σ b) = _
          rw [a3, b3, p0, Nat.zero_add]
          exact base k1 o1 o2 a1 a2 b2 hb
      | succ k2 =>
        cases k1 with
        | succ k1 => simp [linAdd] at h
        | zero =>
          simp only [linAdd] at h
          cases hb : Nat.ble (Nat.add o1 o2) 1000000 with
          | false => rw [hb] at h; cases h
          | true =>
            rw [hb] at h
            simp only [Lin.at.injEq] at h
            obtain ⟨rfl, rfl⟩ := h
            have hb := Nat.le_of_ble_eq_true hb
            refine ⟨b1, hb, ?_⟩
            show IntKind.wrap .i64 (SI.ev σ a + SI.ev σ b) = _
            rw [a3, b3, p0, Nat.zero_add, Int.add_comm, base (k2 + 1) o2 o1 b1 b2 a2 (by simp only [Nat.add_eq] at hb; omega)]
            simp only [Nat.add_eq, Nat.add_comm o1 o2]
theorem linSub_ok {a b : SI} {x y : Lin} (hx : LinOk σ S a x) (hy : LinOk σ S b y) : LinOk σ S (.bin .sub .i64 a b) (linSub x y) := by
  intro k o h
  cases x with
  | no => simp [linSub] at h
  | «at» k1 o1 =>
    obtain ⟨a1, a2, a3⟩ := hx k1 o1 rfl
    cases y with
    | no => simp [linSub] at h
    | «at» k2 o2 =>
      obtain ⟨b1, b2, b3⟩ := hy k2 o2 rfl
      simp only [linSub] at h
      cases hb : (Nat.beq k1 k2 && Nat.ble o2 o1) with
      | false => rw [hb] at h; cases h
      | true =>
        rw [hb] at h
        simp only [Bool.and_eq_true] at hb
        simp only [Lin.at.injEq] at h
        obtain ⟨rfl, rfl⟩ := h
        have e1 := nbeq.1 hb.1
        have e2 := Nat.le_of_ble_eq_true hb.2
        subst e1
        have p0 : posF σ S.head S.tail 0 = 0 := by unfold posF; rfl
        refine ⟨by omega, by simp only [Nat.sub_eq]; omega, ?_⟩
        show IntKind.wrap .i64 (SI.ev σ a - SI.ev σ b) = _
        rw [a3, b3, p0, Nat.zero_add]
        have : (((posF σ S.head S.tail k1 + o1 : Nat) : Int) - ((posF σ S.head S.tail k1 + o2 : Nat) : Int)) = ((o1 - o2 : Nat) : Int) := by omega
        rw [this, wrap_small ok (by omega)]
        rfl
theorem linOf_ok : ∀ (e : SI), LinOk σ S e (linOf S e)
  | .lit n => by
    intro k o h
    have h : linLit n = .at k o := h
    cases n with
    | negSucc n => simp [linLit] at h
    | ofNat n =>
      simp only [linLit] at h
      cases hb : Nat.ble n 1000000 with
      | false => rw [hb] at h; cases h
      | true =>
        rw [hb] at h
        simp only [Lin.at.injEq] at h
        obtain ⟨rfl, rfl⟩ := h
        exact ⟨Nat.zero_le _, Nat.le_of_ble_eq_true hb, by unfold posF; simp [SI.ev]⟩
  | .var i => by
    intro k o h
    have h : linVar S i = .at k o := h
    unfold linVar at h
    cases hb : (Nat.ble 100 i && Nat.ble (Nat.sub i 100) S.tail.length) with
    | false => rw [hb] at h; cases h
    | true =>
      rw [hb] at h
      simp only [Bool.and_eq_true] at hb
      simp only [Lin.at.injEq] at h
      obtain ⟨rfl, rfl⟩ := h
      have h1 := Nat.le_of_ble_eq_true hb.1
      have h2 := Nat.le_of_ble_eq_true hb.2
      refine ⟨h2, by omega, ?_⟩
      have := ok.pos (i - 100) h2
      rw [show 100 + (i - 100) = i by omega] at this
      simpa [SI.ev] using this
  | .bin o k a b => by
    have ha := linOf_ok a
    have hb := linOf_ok b
    intro k' o' h
    have h : linBin o k (linOf S a) (linOf S b) = .at k' o' := h
    cases k <;> cases o <;> simp only [linBin, reduceCtorEq] at h
    · exact linAdd_ok ok ha hb k' o' h
    · exact linSub_ok ok ha hb k' o' h
  | .cv k a => by intro k o h; have h : Lin.no = .at k o := h; cases h
  | .slen s => by
    intro k o h
    have h : linLen S s = .at k o := h
    unfold linLen at h
    cases hb : SS.eqb s S.s with
    | false => rw [hb] at h; cases h
    | true =>
      rw [hb] at h
      simp only [Lin.at.injEq] at h
      obtain ⟨rfl, rfl⟩ := h
      have hl := full_len ok
      have hs := ok.small
      refine ⟨Nat.le_refl _, by omega, ?_⟩
      show ((SS.ev σ s).length : Int) = _
      rw [SS.eqb_ev σ _ _ hb, ok.txt, hl]
theorem linLt_ok {a b : SI} {x y : Lin} (hx : LinOk σ S a x) (hy : LinOk σ S b y) {r : Bool} (h : linLt S x y = some r) : r = decide (a.ev σ < b.ev σ) := by
  cases x with
  | no => simp [linLt] at h
  | «at» k o =>
    cases y with
    | no => simp [linLt] at h
    | «at» m p =>
      obtain ⟨a1, a2, a3⟩ := hx k o rfl
      obtain ⟨b1, b2, b3⟩ := hy m p rfl
      rw [a3, b3]
      have ble : ∀ {i j : Nat} {r : Bool}, Nat.ble i j = r → (r = true ∧ i ≤ j) ∨ (r = false ∧ j < i) := by
        intro i j r e
        cases r with
        | true => exact .inl ⟨rfl, Nat.le_of_ble_eq_true e⟩
        | false =>
          refine .inr ⟨rfl, ?_⟩
          rcases Nat.lt_or_ge j i with h | h
          · exact h
          · rw [Nat.ble_eq_true_of_le h] at e; cases e
      simp only [linLt] at h
      cases hb : Nat.beq k m with
      | true =>
        have e := nbeq.1 hb
        subst e
        rw [hb] at h
        simp only [Option.some.injEq] at h
        rcases ble h with ⟨rfl, h⟩ | ⟨rfl, h⟩
        · exact (decide_eq_true (by simp only [Nat.succ_eq_add_one] at h; omega)).symm
        · exact (decide_eq_false (by simp only [Nat.succ_eq_add_one] at h; omega)).symm
      | false =>
        rw [hb] at h
        simp only [] at h
        cases hc : Nat.ble k m with
        | true =>
          rw [hc] at h
          have hg := gap_ok σ m k S.head S.tail ok.dig (Nat.le_of_ble_eq_true hc) b1
          simp only [] at h
          cases h1 : Nat.ble (Nat.succ o) (Nat.add (gapLo S.lits k m) p) with
          | true =>
            rw [h1] at h
            simp only [Option.some.injEq] at h
            subst h
            have h1 := Nat.le_of_ble_eq_true h1
            simp only [Src.lits, Nat.add_eq, Nat.succ_eq_add_one] at h1
            exact (decide_eq_true (by omega)).symm
          | false =>
            rw [h1] at h
            simp only [] at h
            cases h2 : Nat.ble (Nat.add (gapHi S.lits k m) p) o with
            | true =>
              rw [h2] at h
              simp only [Option.some.injEq] at h
              subst h
              have h2 := Nat.le_of_ble_eq_true h2
              simp only [Src.lits, Nat.add_eq] at h2
              exact (decide_eq_false (by omega)).symm
            | false => rw [h2] at h; cases h
        | false =>
          rw [hc] at h
          have hlt : m ≤ k := by rcases ble hc with ⟨e, _⟩ | ⟨_, h⟩ <;> first | cases e | omega
          have hg := gap_ok σ k m S.head S.tail ok.dig hlt a1
          simp only [] at h
          cases h1 : Nat.ble p (Nat.add (gapLo S.lits m k) o) with
          | true =>
            rw [h1] at h
            simp only [Option.some.injEq] at h
            subst h
            have h1 := Nat.le_of_ble_eq_true h1
            simp only [Src.lits, Nat.add_eq] at h1
            exact (decide_eq_false (by omega)).symm
          | false =>
            rw [h1] at h
            simp only [] at h
            cases h2 : Nat.ble (Nat.succ (Nat.add (gapHi S.lits m k) o)) p with
            | true =>
              rw [h2] at h
              simp only [Option.some.injEq] at h
              subst h
              have h2 := Nat.le_of_ble_eq_true h2
              simp only [Src.lits, Nat.add_eq, Nat.succ_eq_add_one] at h2
              exact (decide_eq_true (by omega)).symm
            | false => rw [h2] at h; cases h
theorem linEq_ok {a b : SI} {x y : Lin} (hx : LinOk σ S a x) (hy : LinOk σ S b y) {r : Bool} (h : linEq S x y = some r) : r = decide (a.ev σ = b.ev σ) := by
  unfold linEq at h
  split at h
  · rename_i h1
    simp only [Option.some.injEq] at h; subst h
    have := of_decide_eq_true (linLt_ok ok hx hy h1).symm
    exact (decide_eq_false (by omega)).symm
  · split at h
    · rename_i h2
      simp only [Option.some.injEq] at h; subst h
      have := of_decide_eq_true (linLt_ok ok hy hx h2).symm
      exact (decide_eq_false (by omega)).symm
    · rename_i h2
      split at h
      · rename_i h1
        simp only [Option.some.injEq] at h; subst h
        have e1 := of_decide_eq_false (linLt_ok ok hx hy h1).symm
        have e2 := of_decide_eq_false (linLt_ok ok hy hx h2).symm
        exact (decide_eq_true (by omega)).symm
      · cases h
    · cases h
end
end Ds
namespace Ds
open Go (IntKind)
section
variable {σ : Val} {S : Src} (ok : SrcOk σ S)
include ok
theorem isByte_ok {e : SI} (h : isByte S e = true) : ∃ n : Nat, 48 ≤ n ∧ n ≤ 57 ∧ e.ev σ = (n : Int) := by
  cases e <;> simp only [isByte, Bool.false_eq_true] at h
  rename_i i
  simp only [Bool.and_eq_true] at h
  have h1 := Nat.le_of_ble_eq_true h.1
  have h2 := Nat.le_of_ble_eq_true h.2
  obtain ⟨n, a, b, c, _⟩ := ok.byte (i - 201) (by simp only [Nat.sub_eq] at h2; omega)
  rw [show 201 + (i - 201) = i by omega] at c
  exact ⟨n, a, b, c⟩
theorem byteLt_ok {a b : SI} {r : Bool} (h : byteLt S a b = some r) : r = decide (a.ev σ < b.ev σ) := by
  unfold byteLt at h
  cases ha : isByte S a with
  | true =>
    rw [ha] at h
    obtain ⟨n, h1, h2, h3⟩ := isByte_ok ok ha
    simp only [] at h
    cases b <;> (try simp only [reduceCtorEq] at h)
    rename_i z
    cases z <;> simp only [reduceCtorEq] at h
    rename_i m
    rw [h3]
    show r = decide ((n : Int) < Int.ofNat m)
    cases hb : Nat.ble 58 m with
    | true => rw [hb] at h; cases h; have := Nat.le_of_ble_eq_true hb; exact (decide_eq_true (by show (n : Int) < (m : Int); omega)).symm
    | false =>
      rw [hb] at h
      simp only [] at h
      cases hc : Nat.ble m 48 with
      | true => rw [hc] at h; cases h; have := Nat.le_of_ble_eq_true hc; exact (decide_eq_false (by show ¬ ((n : Int) < (m : Int)); omega)).symm
      | false => rw [hc] at h; cases h
  | false =>
    rw [ha] at h
    simp only [] at h
    cases hbb : isByte S b with
    | false => rw [hbb] at h; cases h
    | true =>
      rw [hbb] at h
      obtain ⟨n, h1, h2, h3⟩ := isByte_ok ok hbb
      simp only [] at h
      cases a <;> (try simp only [reduceCtorEq] at h)
      rename_i z
      cases z <;> simp only [reduceCtorEq] at h
      rename_i m
      rw [h3]
      show r = decide (Int.ofNat m < (n : Int))
      cases hb : Nat.ble (Nat.succ m) 48 with
      | true => rw [hb] at h; cases h; have := Nat.le_of_ble_eq_true hb; exact (decide_eq_true (by show (m : Int) < (n : Int); omega)).symm
      | false =>
        rw [hb] at h
        simp only [] at h
        cases hc : Nat.ble 57 m with
        | true => rw [hc] at h; cases h; have := Nat.le_of_ble_eq_true hc; exact (decide_eq_false (by show ¬ ((m : Int) < (n : Int)); omega)).symm
        | false => rw [hc] at h; cases h
theorem byteEq_ok {a b : SI} {r : Bool} (h : byteEq S a b = some r) : r = decide (a.ev σ = b.ev σ) := by
  unfold byteEq at h
  cases ha : isByte S a with
  | false => rw [ha] at h; cases h
  | true =>
    rw [ha] at h
    obtain ⟨n, h1, h2, h3⟩ := isByte_ok ok ha
    simp only [] at h
    cases b <;> (try simp only [reduceCtorEq] at h)
    rename_i z
    cases z <;> simp only [reduceCtorEq] at h
    rename_i m
    rw [h3]
    show r = decide ((n : Int) = Int.ofNat m)
    cases hb : (Nat.ble (Nat.succ m) 48 || Nat.ble 58 m) with
    | false => rw [hb] at h; cases h
    | true =>
      rw [hb] at h; cases h
      simp only [Bool.or_eq_true] at hb
      refine (decide_eq_false (fun e => ?_)).symm
      have e : (n : Int) = (m : Int) := e
      rcases hb with hb | hb <;> have := Nat.le_of_ble_eq_true hb <;> omega
omit ok in
theorem noDigit_ok : ∀ {l : List Nat}, noDigit l = true → ∀ c ∈ b8 l, ¬ (48 ≤ c.toNat ∧ c.toNat ≤ 57)
  | [], _ => by simp [b8]
  | c :: l, h => by
    simp only [noDigit] at h
    cases hb : ((Nat.ble 48 c && Nat.ble c 57) || Nat.ble 256 c) with
    | true => rw [hb] at h; cases h
    | false =>
      rw [hb] at h
      have ih := noDigit_ok (l := l) h
      simp only [Bool.or_eq_false_iff] at hb
      intro x hx
      simp only [b8, List.map_cons, List.mem_cons] at hx
      rcases hx with rfl | hx
      · have hc : c < 256 := by
          rcases Nat.lt_or_ge c 256 with h | h
          · exact h
          · have := hb.2; rw [Nat.ble_eq_true_of_le h] at this; cases this
        have : (UInt8.ofNat c).toNat = c := by simp [UInt8.toNat_ofNat']; omega
        rw [this]
        rintro ⟨h1, h2⟩
        have := hb.1
        rw [Nat.ble_eq_true_of_le h1, Nat.ble_eq_true_of_le h2] at this
        cases this
      · exact ih x hx
theorem mixEq_ok {a b : SS} {r : Bool} (h : mixEq S a b = some r) : r = decide (a.ev σ = b.ev σ) := by
  unfold mixEq at h
  cases hm : isMix S a with
  | false => rw [hm] at h; cases h
  | true =>
    rw [hm] at h
    simp only [] at h
    cases a <;> simp only [isMix, Bool.false_eq_true] at hm
    rename_i i
    simp only [Bool.and_eq_true] at hm
    obtain ⟨c, hc, h1⟩ := ok.mixD i (Nat.le_of_ble_eq_true hm.1) (Nat.le_of_ble_eq_true hm.2)
    cases b <;> simp only [reduceCtorEq] at h
    rename_i l
    cases hn : noDigit l with
    | false => rw [hn] at h; cases h
    | true =>
      rw [hn] at h; cases h
      refine (decide_eq_false (fun e => ?_)).symm
      have e : σ.s i = b8 l := e
      rw [e] at hc
      exact noDigit_ok hn c hc h1
theorem orB_some {a b : Option Bool} {r : Bool} (h : orB a b = some r) : a = some r ∨ b = some r := by
  have _u := ok
  cases a with
  | some x => exact .inl h
  | none => exact .inr h
theorem orcF_ok {facts : List (Cond × Bool)} (hf : FactsL σ facts) : Facts σ (orcF S facts) := by
  intro c b h
  cases c with
  | eqi x y =>
    rcases orB_some ok h with h | h
    · exact (linEq_ok ok (linOf_ok ok x) (linOf_ok ok y) h).symm
    · rcases orB_some ok h with h | h
      · exact (byteEq_ok ok h).symm
      · exact lookF_val σ _ _ _ hf h
  | lti x y =>
    rcases orB_some ok h with h | h
    · exact (linLt_ok ok (linOf_ok ok x) (linOf_ok ok y) h).symm
    · rcases orB_some ok h with h | h
      · exact (byteLt_ok ok h).symm
      · exact lookF_val σ _ _ _ hf h
  | eqs x y =>
    rcases orB_some ok h with h | h
    · exact (mixEq_ok ok h).symm
    · exact lookF_val σ _ _ _ hf h
  | lts x y => exact lookF_val σ _ _ _ hf h
theorem lit_at {k : Nat} {l : List Nat} (h : nthLL S.lits k = some l) : k ≤ S.tail.length ∧ l = (sufF S.head S.tail k).1 ∧
    (bytesF σ S.head S.tail).drop (posF σ S.head S.tail k) = b8 l ++ (match (sufF S.head S.tail k).2 with | [] => [] | (e, l') :: r => digs σ e ++ bytesF σ l' r) ∧ posF σ S.head S.tail k + l.length ≤ (bytesF σ S.head S.tail).length := by
  have _u := ok
  have hk : k ≤ S.tail.length := by
    rcases Nat.lt_or_ge S.tail.length k with hlt | hge
    · rw [nthLL_big k S.lits (by simp [Src.lits]; omega)] at h; cases h
    · exact hge
  obtain ⟨h1, h2⟩ := nthLL_suf k S.head S.tail hk
  unfold Src.lits at h
  rw [h1] at h
  simp only [Option.some.injEq] at h
  obtain ⟨h3, h4⟩ := drop_pos σ k S.head S.tail hk
  rw [h] at h3
  have h5 : (bytesF σ S.head S.tail).drop (posF σ S.head S.tail k) = b8 l ++ (match (sufF S.head S.tail k).2 with | [] => [] | (e, l') :: r => digs σ e ++ bytesF σ l' r) := by
    rw [h3]
    cases (sufF S.head S.tail k).2 with
    | nil => simp [bytesF]
    | cons x r => obtain ⟨e, l'⟩ := x; rfl
  refine ⟨hk, h.symm, h5, ?_⟩
  have := congrArg List.length h5
  simp only [List.length_drop, List.length_append, b8_len] at this
  omega
theorem lits_wf {k : Nat} (_hk : k ≤ S.tail.length) : ∀ c ∈ (sufF S.head S.tail k).1, c < 256 := by
  have key : ∀ (k : Nat) (h : List Nat) (tl : List (SI × List Nat)), (∀ c ∈ h, c < 256) → (∀ x ∈ tl, ∀ c ∈ x.2, c < 256) → ∀ c ∈ (sufF h tl k).1, c < 256 := by
    intro k
    induction k with
    | zero => intro h tl h1 _; simpa [sufF] using h1
    | succ k ih =>
      intro h tl h1 h2
      cases tl with
      | nil => simp [sufF]
      | cons x r =>
        obtain ⟨e, l⟩ := x
        simp only [sufF]
        exact ih l r (h2 (e, l) (List.mem_cons_self ..)) (fun y hy => h2 y (List.mem_cons_of_mem _ hy))
  exact key k _ _ ok.hw ok.tw
theorem orcIx_ok {s : SS} {i c : SI} (h : orcIx S s i = some c) : c.wf ∧ ∃ n : Nat, ∃ h : n < (s.ev σ).length, i.ev σ = (n : Int) ∧ c.ev σ = (((s.ev σ)[n]).toNat : Int) := by
  unfold orcIx at h
  cases he : SS.eqb s S.s with
  | false => rw [he] at h; cases h
  | true =>
    rw [he] at h
    have hs : s.ev σ = bytesF σ S.head S.tail := by rw [SS.eqb_ev σ _ _ he, ok.txt]
    simp only [] at h
    have hl := linOf_ok ok i
    cases hx : linOf S i with
    | no => rw [hx] at h; cases h
    | «at» k o =>
      rw [hx] at h hl
      obtain ⟨_, _, hv⟩ := hl k o rfl
      simp only [] at h
      cases hn : nthLL S.lits k with
      | none => rw [hn] at h; cases h
      | some l =>
        rw [hn] at h
        obtain ⟨hk, hl1, hd, hle⟩ := lit_at ok hn
        simp only [nthL_get] at h
        have fin : ∀ (c : SI) (u : UInt8), (bytesF σ S.head S.tail)[posF σ S.head S.tail k + o]? = some u → c.wf → c.ev σ = (u.toNat : Int) → c.wf ∧ ∃ n : Nat, ∃ h : n < (s.ev σ).length, i.ev σ = (n : Int) ∧ c.ev σ = (((s.ev σ)[n]).toNat : Int) := by
          intro c u hu wc hc
          obtain ⟨hlt, e⟩ := List.getElem?_eq_some_iff.1 hu
          have hlt' : posF σ S.head S.tail k + o < (s.ev σ).length := by rw [hs]; exact hlt
          refine ⟨wc, _, hlt', hv, ?_⟩
          rw [hc]
          congr 2
          simp only [hs]
          exact e.symm
        cases hg : l[o]? with
        | some c0 =>
          rw [hg] at h
          simp only [Option.some.injEq] at h
          subst h
          have hc0 : c0 < 256 := by rw [hl1] at hg; exact lits_wf ok hk c0 (List.mem_of_getElem? hg)
          have hol : o < l.length := (List.getElem?_eq_some_iff.1 hg).1
          refine fin _ (UInt8.ofNat c0) ?_ trivial (by simp [SI.ev]; omega)
          rw [← List.getElem?_drop, hd, List.getElem?_append_left (by rw [b8_len]; exact hol)]
          simp [b8, hg]
        | none =>
          rw [hg] at h
          simp only [] at h
          cases hb : (Nat.beq o l.length && Nat.ble (Nat.succ k) S.tail.length) with
          | false => rw [hb] at h; cases h
          | true =>
            rw [hb] at h
            simp only [Option.some.injEq] at h
            subst h
            simp only [Bool.and_eq_true] at hb
            have e1 := nbeq.1 hb.1
            have e2 := Nat.le_of_ble_eq_true hb.2
            obtain ⟨n, h1, h2, h3, h4⟩ := ok.byte k e2
            rw [← hl1, ← e1] at h4
            exact fin _ (UInt8.ofNat n) h4 trivial (by show σ.i (201 + k) = _; rw [h3]; simp; omega)
theorem orcSl_ok {s : SS} {a b : SI} {r : SS} (h : orcSl S s a b = some r) : r.wf ∧ ∃ m n : Nat, a.ev σ = (m : Int) ∧ b.ev σ = (n : Int) ∧ m ≤ n ∧ n ≤ (s.ev σ).length ∧ r.ev σ = ((s.ev σ).drop m).take (n - m) := by
  unfold orcSl at h
  cases he : SS.eqb s S.s with
  | false => rw [he] at h; cases h
  | true =>
    rw [he] at h
    have hs : s.ev σ = bytesF σ S.head S.tail := by rw [SS.eqb_ev σ _ _ he, ok.txt]
    simp only [] at h
    have hla := linOf_ok ok a
    have hlb := linOf_ok ok b
    cases hx : linOf S a with
    | no => rw [hx] at h; cases h
    | «at» k o =>
      cases hy : linOf S b with
      | no => rw [hx, hy] at h; cases h
      | «at» m p =>
        rw [hx, hy] at h
        rw [hx] at hla
        rw [hy] at hlb
        obtain ⟨_, _, hva⟩ := hla k o rfl
        obtain ⟨_, _, hvb⟩ := hlb m p rfl
        simp only [] at h
        cases hb : (Nat.beq k m && Nat.ble o p) with
        | false => rw [hb] at h; cases h
        | true =>
          rw [hb] at h
          simp only [Bool.and_eq_true] at hb
          have e1 := nbeq.1 hb.1
          have e2 := Nat.le_of_ble_eq_true hb.2
          subst e1
          simp only [] at h
          cases hn : nthLL S.lits k with
          | none => rw [hn] at h; cases h
          | some l =>
            rw [hn] at h
            obtain ⟨hk, hl1, hd, hle⟩ := lit_at ok hn
            simp only [] at h
            have fin : ∀ r : SS, r.wf → posF σ S.head S.tail k + p ≤ (bytesF σ S.head S.tail).length → r.ev σ = ((bytesF σ S.head S.tail).drop (posF σ S.head S.tail k + o)).take (p - o) → r.wf ∧ ∃ m n : Nat, a.ev σ = (m : Int) ∧ b.ev σ = (n : Int) ∧ m ≤ n ∧ n ≤ (s.ev σ).length ∧ r.ev σ = ((s.ev σ).drop m).take (n - m) := by
              intro r wr h1 h2
              refine ⟨wr, _, _, hva, hvb, by omega, by rw [hs]; exact h1, ?_⟩
              rw [h2, hs]
              congr 1
              omega
            cases hc : Nat.ble p l.length with
            | true =>
              rw [hc] at h
              simp only [Option.some.injEq] at h
              subst h
              have hp := Nat.le_of_ble_eq_true hc
              refine fin _ ?_ (by omega) ?_
              · simp only [SS.wf]
                intro c hcc
                rw [takeL_eq, dropL_eq] at hcc
                exact (hl1 ▸ lits_wf ok hk) c (List.mem_of_mem_drop (List.mem_of_mem_take hcc))
              · rw [← List.drop_drop, hd, List.drop_append_of_le_length (by rw [b8_len]; omega), List.take_append_of_le_length (by simp [b8_len]; omega)]
                simp [SS.ev, b8, takeL_eq, dropL_eq, List.map_take, List.map_drop]
            | false =>
              rw [hc] at h
              simp only [] at h
              have key2 : ∀ q, q < S.tail.length → q = k → ∃ x, (sufF S.head S.tail k).2 = x := fun _ _ _ => ⟨_, rfl⟩
              have next : Nat.succ k ≤ S.tail.length → ∃ e l' r', (sufF S.head S.tail k).2 = (e, l') :: r' ∧ 1 ≤ (digs σ e).length ∧ nthLL S.lits (k + 1) = some l' := by
                intro hk1
                have hlen := (nthLL_suf k S.head S.tail hk).2
                have mem : ∀ (k : Nat) (h : List Nat) (tl : List (SI × List Nat)), ∀ x ∈ (sufF h tl k).2, x ∈ tl := by
                  intro k
                  induction k with
                  | zero => intro h tl x hx; simpa [sufF] using hx
                  | succ k ih =>
                    intro h tl x hx
                    cases tl with
                    | nil => simp [sufF] at hx
                    | cons y r => obtain ⟨e, l⟩ := y; simp only [sufF] at hx; exact List.mem_cons_of_mem _ (ih _ _ x hx)
                have nx : ∀ (k : Nat) (h : List Nat) (tl : List (SI × List Nat)) (e : SI) (l' : List Nat) (r' : List (SI × List Nat)), (sufF h tl k).2 = (e, l') :: r' → nthLL (h :: tl.map (·.2)) (k + 1) = some l' := by
                  intro k
                  induction k with
                  | zero => intro h tl e l' r' hx; simp only [sufF] at hx; subst hx; simp [nthLL]
                  | succ k ih =>
                    intro h tl e l' r' hx
                    cases tl with
                    | nil => simp [sufF] at hx
                    | cons y r => obtain ⟨e2, l2⟩ := y; simp only [sufF] at hx; simp only [List.map_cons, nthLL]; exact ih _ _ _ _ _ hx
                cases hsf : (sufF S.head S.tail k).2 with
                | nil => rw [hsf] at hlen; simp at hlen; omega
                | cons x r' =>
                  obtain ⟨e, l'⟩ := x
                  exact ⟨e, l', r', rfl, (ok.dig _ (mem k _ _ (e, l') (by rw [hsf]; exact List.mem_cons_self ..))).1, nx k _ _ _ _ _ hsf⟩
              cases hm : (Nat.beq p (Nat.succ l.length) && Nat.ble (Nat.succ k) S.tail.length && Nat.beq (Nat.add o 2) p) with
              | true =>
                rw [hm] at h
                simp only [Option.some.injEq] at h
                subst h
                simp only [Bool.and_eq_true] at hm
                obtain ⟨⟨m1, m2⟩, m3⟩ := hm
                have m1 := nbeq.1 m1
                have m2 := Nat.le_of_ble_eq_true m2
                have m3 := nbeq.1 m3
                simp only [Nat.add_eq, Nat.succ_eq_add_one] at m1 m3
                obtain ⟨e, l', r', hsf, hdl, _⟩ := next m2
                have htot := congrArg List.length hd
                rw [hsf] at htot
                simp only [List.length_drop, List.length_append, b8_len] at htot
                refine fin _ trivial (by omega) ?_
                show σ.s (2 * (k + 1)) = _
                have q1 : p - o = 2 := by omega
                have q2 : posF σ S.head S.tail k + l.length - 1 = posF σ S.head S.tail k + o := by omega
                rw [ok.mixA k m2 (by rw [← hl1]; omega), ← hl1, q1, q2]
              | false =>
                rw [hm] at h
                simp only [] at h
                split at h
                · rename_i hq
                  simp only [Option.some.injEq] at h
                  subst h
                  simp only [Bool.and_eq_true] at hq
                  obtain ⟨⟨⟨m1, m2⟩, m3⟩, m4⟩ := hq
                  have m1 := nbeq.1 m1
                  have m2 := Nat.le_of_ble_eq_true m2
                  have m3 := nbeq.1 m3
                  simp only [Nat.add_eq] at m3
                  obtain ⟨e, l', r', hsf, hdl, hnx⟩ := next m2
                  have hl' : 1 ≤ l'.length := by
                    rw [show Nat.succ k = k + 1 from rfl, hnx] at m4
                    cases l' with
                    | nil => simp at m4
                    | cons _ _ => simp
                  have htot := congrArg List.length hd
                  rw [hsf] at htot
                  have hbl : l'.length ≤ (bytesF σ l' r').length := by cases r' with | nil => simp [bytesF, b8_len] | cons y _ => obtain ⟨_, _⟩ := y; simp [bytesF, b8_len]
                  simp only [List.length_drop, List.length_append, b8_len] at htot
                  refine fin _ trivial (by omega) ?_
                  show σ.s (2 * (k + 1) + 1) = _
                  have q1 : p - o = 2 := by omega
                  rw [ok.mixB k m2, ← hl1, m1] at *
                  rw [q1]
                · cases h
end
end Ds
namespace Ds
open Go (IntKind)
def SI.rng : SI → Bool
  | .var _ => true
  | .bin o k a _ => (match k with
    | .i64 => (match o with | .rem => SI.rng a | _ => true)
    | _ => false)
  | .cv k _ => (match k with | .i64 => true | _ => false)
  | _ => false
def isZero : SI → Bool | .lit (.ofNat 0) => true | _ => false
def negOf : SI → Option SI
  | .bin .sub .i64 z e => (match isZero z with | true => some e | false => none)
  | _ => none
def nfBin (o : AOp) (k : IntKind) (a b : SI) : SI := match o, k with
  | .sub, .i64 => (match isZero a with
    | true => (match negOf b with | some e => (match SI.rng e with | true => e | false => .bin o k a b) | none => .bin o k a b)
    | false => .bin o k a b)
  | o, k => .bin o k a b
def SI.nf : SI → SI
  | .bin o k a b => nfBin o k (SI.nf a) (SI.nf b)
  | e => e
def SS.nf : SS → SS
  | .dig e => .dig (SI.nf e)
  | .cat a b => .cat (SS.nf a) (SS.nf b)
  | s => s
def SI.ub : SI → Option Nat
  | .lit (.ofNat n) => some n
  | .slen s => some (SS.ub s)
  | .bin .add .i64 a b => (match SI.ub a, SI.ub b with
    | some x, some y => (match Nat.ble (Nat.add x y) 1000000000 with | true => some (Nat.add x y) | false => none)
    | _, _ => none)
  | _ => none
def ubLt (a b : SI) : Option Bool := match a with
  | .lit (.ofNat n) => (match SI.ub b with | some m => (match Nat.ble m n with | true => some false | false => none) | none => none)
  | _ => none
def digLit (a b : SS) : Option Bool := match a with
  | .dig _ => (match b with | .lit l => (match noDigit l with | true => some false | false => none) | _ => none)
  | _ => none
def symG (fl : List (Cond × Bool)) (c : Cond) : Option Bool := match c with
  | .lti a b => orB (ubLt a b) (lookF (.lti (SI.nf a) (SI.nf b)) fl)
  | .eqi a b => (match SI.eqb (SI.nf a) (SI.nf b) with | true => some true | false => lookF (.eqi (SI.nf a) (SI.nf b)) fl)
  | .eqs a b => (match SS.eqb (SS.nf a) (SS.nf b) with | true => some true | false => digLit a b)
  | .lts _ _ => none
noncomputable def symF (S : Src) (fl : List (Cond × Bool)) (c : Cond) : Option Bool := orB (orcF S fl c) (symG fl c)
def symF0 (fl : List (Cond × Bool)) (c : Cond) : Option Bool := orB (lookF c fl) (symG fl c)
theorem u8n {n : Nat} (h : n < 256) : (UInt8.ofNat n).toNat = n := by simp [UInt8.toNat_ofNat', Nat.mod_eq_of_lt h]
def Rng (σ : Val) : Prop := ∀ i, -9223372036854775808 ≤ σ.i i ∧ σ.i i ≤ 9223372036854775807
theorem wrap_rng (n : Int) : -9223372036854775808 ≤ IntKind.wrap .i64 n ∧ IntKind.wrap .i64 n ≤ 9223372036854775807 := by
  rw [IntKind.wrap_i64]; omega
theorem wrap_id {n : Int} (h : -9223372036854775808 ≤ n ∧ n ≤ 9223372036854775807) : IntKind.wrap .i64 n = n := by
  rw [IntKind.wrap_i64]; omega
section
variable {σ : Val} (hr : Rng σ)
include hr
theorem rng_ok : ∀ (e : SI), SI.rng e = true → -9223372036854775808 ≤ e.ev σ ∧ e.ev σ ≤ 9223372036854775807
  | .lit n, h => by simp [SI.rng] at h
  | .var i, _ => hr i
  | .bin o k a b, h => by
    cases k <;> simp only [SI.rng, Bool.false_eq_true] at h
    cases o with
    | rem =>
      simp only [] at h
      have := rng_ok a h
      show -9223372036854775808 ≤ (a.ev σ).tmod (b.ev σ) ∧ _
      have h1 : ((a.ev σ).tmod (b.ev σ)).natAbs ≤ (a.ev σ).natAbs := by
        rw [Int.natAbs_tmod]; exact Nat.mod_le _ _
      have h2 : 0 ≤ a.ev σ → 0 ≤ (a.ev σ).tmod (b.ev σ) := fun h => Int.tmod_nonneg _ h
      have h3 : a.ev σ ≤ 0 → (a.ev σ).tmod (b.ev σ) ≤ 0 := fun h => by
        have := Int.tmod_nonneg (b.ev σ) (show 0 ≤ -(a.ev σ) by omega)
        rw [Int.neg_tmod] at this; omega
      show _ ∧ (a.ev σ).tmod (b.ev σ) ≤ _
      omega
    | add => exact wrap_rng _
    | sub => exact wrap_rng _
    | mul => exact wrap_rng _
    | quo => exact wrap_rng _
  | .cv k a, h => by
    cases k <;> simp only [SI.rng, Bool.false_eq_true] at h
    exact wrap_rng _
  | .slen s, h => by simp [SI.rng] at h
omit hr in
theorem isZero_ok {e : SI} (h : isZero e = true) : e = .lit 0 := by
  unfold isZero at h
  split at h
  · rfl
  · cases h
omit hr in
theorem negOf_ok {b e : SI} (h : negOf b = some e) : b = .bin .sub .i64 (.lit 0) e := by
  unfold negOf at h
  split at h
  · rename_i z e'
    cases hz : isZero z with
    | true => rw [hz] at h; simp only [Option.some.injEq] at h; subst h; rw [isZero_ok hz]
    | false => rw [hz] at h; cases h
  · cases h
theorem nfBin_ok (o : AOp) (k : IntKind) (a b : SI) : (nfBin o k a b).ev σ = (SI.bin o k a b).ev σ := by
  unfold nfBin
  split
  · cases hz : isZero a with
    | false => rfl
    | true =>
      simp only []
      cases hn : negOf b with
      | none => rfl
      | some e =>
        simp only []
        cases he : SI.rng e with
        | false => rfl
        | true =>
          have h1 := rng_ok hr e he
          rw [isZero_ok hz, negOf_ok hn]
          show e.ev σ = IntKind.wrap .i64 (0 - IntKind.wrap .i64 (0 - e.ev σ))
          rw [IntKind.wrap_i64, IntKind.wrap_i64]; omega
  · rfl
theorem nfI_ok : ∀ (e : SI), (SI.nf e).ev σ = e.ev σ
  | .lit n => rfl
  | .var i => rfl
  | .bin o k a b => by
    show (nfBin o k (SI.nf a) (SI.nf b)).ev σ = _
    rw [nfBin_ok hr]
    simp only [SI.ev, nfI_ok a, nfI_ok b]
  | .cv k a => rfl
  | .slen s => rfl
theorem nfS_ok : ∀ (s : SS), (SS.nf s).ev σ = s.ev σ
  | .lit l => rfl
  | .var i => rfl
  | .dig e => by simp only [SS.nf, SS.ev, nfI_ok hr e]
  | .cat a b => by simp only [SS.nf, SS.ev, nfS_ok a, nfS_ok b]
omit hr in
theorem ub_ok : ∀ (e : SI) (m : Nat), SI.ub e = some m → 0 ≤ e.ev σ ∧ e.ev σ ≤ m
  | .lit n, m, h => by
    cases n with
    | ofNat n => simp only [SI.ub, Option.some.injEq] at h; subst h; show 0 ≤ (n : Int) ∧ (n : Int) ≤ n; omega
    | negSucc n => simp [SI.ub] at h
  | .var i, m, h => by simp [SI.ub] at h
  | .cv k a, m, h => by simp [SI.ub] at h
  | .slen s, m, h => by
    simp only [SI.ub, Option.some.injEq] at h; subst h
    have : (s.ev σ).length ≤ SS.ub s := SS.ev_ub ⟨σ, fun _ => "", fun _ => none⟩ s
    show 0 ≤ ((s.ev σ).length : Int) ∧ ((s.ev σ).length : Int) ≤ _
    omega
  | .bin o k a b, m, h => by
    cases o <;> cases k <;> simp only [SI.ub, reduceCtorEq] at h
    split at h
    · rename_i x y hx hy
      cases hb : Nat.ble (Nat.add x y) 1000000000 with
      | false => rw [hb] at h; cases h
      | true =>
        rw [hb] at h
        simp only [Option.some.injEq] at h
        have hb := Nat.le_of_ble_eq_true hb
        have h1 := ub_ok a x hx
        have h2 := ub_ok b y hy
        have hb' : x + y ≤ 1000000000 := hb
        have h' : x + y = m := h
        show 0 ≤ IntKind.wrap .i64 (a.ev σ + b.ev σ) ∧ IntKind.wrap .i64 (a.ev σ + b.ev σ) ≤ m
        rw [wrap_id (by omega)]
        omega
    · cases h
omit hr in
theorem ubLt_ok {a b : SI} {r : Bool} (h : ubLt a b = some r) : decide (a.ev σ < b.ev σ) = r := by
  unfold ubLt at h
  split at h
  · rename_i n
    cases hu : SI.ub b with
    | none => rw [hu] at h; cases h
    | some m =>
      rw [hu] at h
      simp only [] at h
      cases hb : Nat.ble m n with
      | false => rw [hb] at h; cases h
      | true =>
        rw [hb] at h; cases h
        have := ub_ok (σ := σ) b m hu
        have hb := Nat.le_of_ble_eq_true hb
        refine decide_eq_false ?_
        show ¬ ((n : Int) < b.ev σ)
        omega
  · cases h
omit hr in
theorem noDigit_all : ∀ {l : List Nat}, noDigit l = true → ∀ c ∈ b8 l, ¬ (48 ≤ c.toNat ∧ c.toNat ≤ 57)
  | [], _, c, h => by simp [b8] at h
  | a :: l, hn, c, h => by
    simp only [noDigit] at hn
    cases hb : ((Nat.ble 48 a && Nat.ble a 57) || Nat.ble 256 a) with
    | true => rw [hb] at hn; cases hn
    | false =>
      rw [hb] at hn
      simp only [b8, List.map_cons, List.mem_cons] at h
      rcases h with rfl | h
      · simp only [Bool.or_eq_false_iff, Bool.and_eq_false_iff] at hb
        intro hc
        have h256 : a < 256 := by
          rcases Nat.lt_or_ge a 256 with x | x
          · exact x
          · rw [Nat.ble_eq_true_of_le x] at hb; cases hb.2
        have e : (UInt8.ofNat a).toNat = a := by simp [Nat.mod_eq_of_lt h256]
        rw [e] at hc
        rcases hb.1 with x | x
        · rw [Nat.ble_eq_true_of_le hc.1] at x; cases x
        · rw [Nat.ble_eq_true_of_le hc.2] at x; cases x
      · exact noDigit_all hn c h
omit hr in
theorem dec_digit (n : Nat) : ∃ c ∈ Go.Lib.decDigits n, 48 ≤ c.toNat ∧ c.toNat ≤ 57 := by
  rw [Go.Lib.decDigits]
  split
  · rename_i h
    exact ⟨_, List.mem_singleton.2 rfl, by rw [u8n (by omega)]; omega⟩
  · exact ⟨UInt8.ofNat (48 + n % 10), by simp, by rw [u8n (by omega)]; omega⟩
omit hr in
theorem itoa_digit (n : Int) : ∃ c ∈ Go.Lib.itoa n, 48 ≤ c.toNat ∧ c.toNat ≤ 57 := by
  unfold Go.Lib.itoa
  split
  · obtain ⟨c, h1, h2⟩ := dec_digit n.natAbs
    exact ⟨c, List.mem_cons_of_mem _ h1, h2⟩
  · exact dec_digit _
omit hr in
theorem digLit_ok {a b : SS} {r : Bool} (h : digLit a b = some r) : decide (a.ev σ = b.ev σ) = r := by
  unfold digLit at h
  split at h
  · rename_i e
    split at h
    · rename_i l
      cases hn : noDigit l with
      | false => rw [hn] at h; cases h
      | true =>
        rw [hn] at h; cases h
        refine decide_eq_false (fun hx => ?_)
        obtain ⟨c, h1, h2⟩ := itoa_digit (IntKind.wrap .i64 (e.ev σ))
        have hx : Go.Lib.itoa (IntKind.wrap .i64 (e.ev σ)) = b8 l := hx
        rw [hx] at h1
        exact noDigit_all hn c h1 h2
    · cases h
  · cases h
theorem symG_ok {fl : List (Cond × Bool)} (hf : FactsL σ fl) : Facts σ (symG fl) := by
  intro c b h
  have orS : ∀ {a b : Option Bool} {r : Bool}, orB a b = some r → a = some r ∨ b = some r := by
    intro a b r h
    cases a with
    | some x => exact .inl h
    | none => exact .inr h
  cases c with
  | lti x y =>
    rcases orS h with h | h
    · exact ubLt_ok h
    · have := lookF_val σ _ _ _ hf h
      simp only [Cond.val, nfI_ok hr] at this ⊢
      exact this
  | eqi x y =>
    simp only [symG] at h
    cases he : SI.eqb (SI.nf x) (SI.nf y) with
    | true =>
      rw [he] at h; cases h
      have := SI.eqb_ev σ _ _ he
      rw [nfI_ok hr, nfI_ok hr] at this
      exact decide_eq_true this
    | false =>
      rw [he] at h
      have := lookF_val σ _ _ _ hf h
      simp only [Cond.val, nfI_ok hr] at this ⊢
      exact this
  | eqs x y =>
    simp only [symG] at h
    cases he : SS.eqb (SS.nf x) (SS.nf y) with
    | true =>
      rw [he] at h; cases h
      have := SS.eqb_ev σ _ _ he
      rw [nfS_ok hr, nfS_ok hr] at this
      exact decide_eq_true this
    | false =>
      rw [he] at h
      exact digLit_ok h
  | lts x y => simp [symG] at h
theorem symF_ok {S : Src} (ok : SrcOk σ S) {fl : List (Cond × Bool)} (hf : FactsL σ fl) : Facts σ (symF S fl) := by
  intro c b h
  rcases orB_some ok h with h | h
  · exact orcF_ok ok hf c b h
  · exact symG_ok hr hf c b h
theorem symF0_ok {fl : List (Cond × Bool)} (hf : FactsL σ fl) : Facts σ (symF0 fl) := by
  intro c b h
  unfold symF0 at h
  cases hx : lookF c fl with
  | some r => rw [hx] at h; exact lookF_val σ _ _ _ hf (by rw [hx]; exact h)
  | none => rw [hx] at h; exact symG_ok hr hf c b h
end
def SI.base : SI → Bool
  | .lit _ => true
  | .var i => Nat.ble i 99 || Nat.ble 400 i
  | .bin _ _ a b => SI.base a && SI.base b
  | .cv _ a => SI.base a
  | .slen _ => false
def SS.base : SS → Bool
  | .lit l => l.all (Nat.ble · 255)
  | .var i => Nat.ble 400 i
  | .dig e => SI.base e
  | .cat a b => SS.base a && SS.base b
theorem SI.base_ev {σ τ : Val} (h : ∀ i, i ≤ 99 ∨ 400 ≤ i → σ.i i = τ.i i) : ∀ (e : SI), SI.base e = true → e.ev σ = e.ev τ
  | .lit n, _ => rfl
  | .var i, hb => h i (by
    simp only [SI.base, Bool.or_eq_true] at hb
    rcases hb with hb | hb
    · exact .inl (Nat.le_of_ble_eq_true hb)
    · exact .inr (Nat.le_of_ble_eq_true hb))
  | .bin o k a b, hb => by
    simp only [SI.base, Bool.and_eq_true] at hb
    simp only [SI.ev, SI.base_ev h a hb.1, SI.base_ev h b hb.2]
  | .cv k a, hb => by simp only [SI.ev, SI.base_ev h a hb]
  | .slen s, hb => by simp [SI.base] at hb
theorem SI.base_wf : ∀ (e : SI), SI.base e = true → e.wf
  | .lit n, _ => trivial
  | .var i, hb => trivial
  | .bin o k a b, hb => by
    simp only [SI.base, Bool.and_eq_true] at hb
    exact ⟨SI.base_wf a hb.1, SI.base_wf b hb.2⟩
  | .cv k a, hb => SI.base_wf a hb
  | .slen s, hb => by simp [SI.base] at hb
theorem SS.base_ev {σ τ : Val} (h : ∀ i, i ≤ 99 ∨ 400 ≤ i → σ.i i = τ.i i) (hs : ∀ i, 400 ≤ i → σ.s i = τ.s i) : ∀ (s : SS), SS.base s = true → s.ev σ = s.ev τ
  | .lit l, _ => rfl
  | .var i, hb => hs i (Nat.le_of_ble_eq_true hb)
  | .dig e, hb => by simp only [SS.ev, SI.base_ev h e hb]
  | .cat a b, hb => by
    simp only [SS.base, Bool.and_eq_true] at hb
    simp only [SS.ev, SS.base_ev h hs a hb.1, SS.base_ev h hs b hb.2]
theorem SS.base_wf : ∀ (s : SS), SS.base s = true → s.wf
  | .lit l, hb => fun c hc => by have := List.all_eq_true.1 hb c hc; have := Nat.le_of_ble_eq_true this; omega
  | .var i, hb => trivial
  | .dig e, hb => SI.base_wf e hb
  | .cat a b, hb => by
    simp only [SS.base, Bool.and_eq_true] at hb
    exact ⟨SS.base_wf a hb.1, SS.base_wf b hb.2⟩
def srcS : SS → List (SI × List Nat) → SS
  | acc, [] => acc
  | acc, (e, l) :: r => srcS (.cat (.cat acc (.dig e)) (.lit l)) r
def mkSrc (h : List Nat) (tl : List (SI × List Nat)) : Src := { s := .var 1, head := h, tail := tl }
theorem srcS_ev (σ : Val) : ∀ (tl : List (SI × List Nat)) (acc : SS) , (srcS acc tl).ev σ = acc.ev σ ++ (match tl with | [] => [] | (e, l) :: r => digs σ e ++ bytesF σ l r)
  | [], acc => by simp [srcS]
  | (e, l) :: r, acc => by
    rw [srcS, srcS_ev σ r]
    have hb : ∀ (l : List Nat) (r : List (SI × List Nat)), bytesF σ l r = b8 l ++ (match r with | [] => [] | (e, l) :: r => digs σ e ++ bytesF σ l r) := by
      intro l r
      cases r with
      | nil => simp [bytesF]
      | cons x r => rfl
    simp only [SS.ev, digs, List.append_assoc, hb l r]
theorem srcS_bytes (σ : Val) (h : List Nat) (tl : List (SI × List Nat)) : (srcS (.lit h) tl).ev σ = bytesF σ h tl := by
  rw [srcS_ev]
  cases tl with
  | nil => simp [SS.ev, bytesF]
  | cons x r => rfl
def extV (σ : Val) (S : Src) : Val where
  i n := if n ≤ 99 then σ.i n else if 400 ≤ n then σ.i n else if n ≤ 100 + S.tail.length then (posF σ S.head S.tail (n - 100) : Int)
    else if 201 ≤ n ∧ n < 201 + S.tail.length then (((bytesF σ S.head S.tail).getD (posF σ S.head S.tail (n - 201) + (sufF S.head S.tail (n - 201)).1.length) 48).toNat : Int) else 0
  s n := if 400 ≤ n then σ.s n else if n / 2 = 0 then (bytesF σ S.head S.tail).take 1000000 else if n % 2 = 0 then
      (if (sufF S.head S.tail (n / 2 - 1)).1.length = 0 then [48] else ((bytesF σ S.head S.tail).drop (posF σ S.head S.tail (n / 2 - 1) + (sufF S.head S.tail (n / 2 - 1)).1.length - 1)).take 2)
    else ((bytesF σ S.head S.tail).drop (posF σ S.head S.tail (n / 2 - 1) + (sufF S.head S.tail (n / 2 - 1)).1.length)).take 2
  ok n := by
    split
    · exact σ.ok n
    · split
      · rw [List.length_take]; omega
      · split
        · split
          · simp
          · rw [List.length_take]; omega
        · rw [List.length_take]; omega
theorem extV_i {σ : Val} {S : Src} {n : Nat} (h : n ≤ 99 ∨ 400 ≤ n) : (extV σ S).i n = σ.i n := by
  show (if n ≤ 99 then σ.i n else if 400 ≤ n then σ.i n else _) = _
  rcases h with h | h
  · rw [if_pos h]
  · rw [if_neg (by omega), if_pos h]
theorem extV_t {σ : Val} {S : Src} {n : Nat} (h : 400 ≤ n) : (extV σ S).s n = σ.s n := if_pos h
theorem extV_s (σ : Val) (S : Src) (n : Nat) (hn : 2 ≤ n) (h4 : n < 400) : ((extV σ S).s n).length ≤ 2 := by
  show (if 400 ≤ n then σ.s n else if n / 2 = 0 then (bytesF σ S.head S.tail).take 1000000 else _).length ≤ 2
  rw [if_neg (by omega)]
  split
  · omega
  · split
    · split
      · simp
      · rw [List.length_take]; omega
    · rw [List.length_take]; omega
def srcShape (h : List Nat) (tl : List (SI × List Nat)) : Bool :=
  h.all (Nat.ble · 255) && tl.all (fun x => x.2.all (Nat.ble · 255) && SI.base x.1) && Nat.ble tl.length 90 && Nat.ble (gapHi (h :: tl.map (·.2)) 0 tl.length) 900000 && Nat.ble ((h :: tl.map (·.2)).foldl (fun n l => n + l.length) 0) 90000
theorem bytesF_congr {σ τ : Val} : ∀ (h : List Nat) (tl : List (SI × List Nat)), (∀ x ∈ tl, x.1.ev σ = x.1.ev τ) → bytesF σ h tl = bytesF τ h tl
  | h, [], _ => rfl
  | h, (e, l) :: r, hx => by
    simp only [bytesF, digs, hx (e, l) (List.mem_cons_self ..), bytesF_congr l r (fun x hm => hx x (List.mem_cons_of_mem _ hm))]
theorem posF_congr {σ τ : Val} : ∀ (k : Nat) (h : List Nat) (tl : List (SI × List Nat)), (∀ x ∈ tl, x.1.ev σ = x.1.ev τ) → posF σ h tl k = posF τ h tl k
  | 0, h, tl, _ => by simp [posF]
  | k + 1, h, [], _ => rfl
  | k + 1, h, (e, l) :: r, hx => by
    simp only [posF, digs, hx (e, l) (List.mem_cons_self ..), posF_congr k l r (fun x hm => hx x (List.mem_cons_of_mem _ hm))]
theorem nDig_le (n : Nat) (k : Nat) (h : n < 10 ^ (k + 1)) : (Go.Lib.decDigits n).length ≤ k + 1 := by
  induction k generalizing n with
  | zero => rw [Go.Lib.decDigits, dif_pos (by simpa using h)]; simp
  | succ k ih =>
    by_cases c : n < 10
    · rw [Go.Lib.decDigits, dif_pos c]; simp
    · rw [Go.Lib.decDigits, dif_neg c]
      have := ih (n / 10) (by rw [Nat.div_lt_iff_lt_mul (by decide)]; rw [Nat.pow_succ] at h; exact h)
      simp; omega
theorem dec_all (n : Nat) : ∀ c ∈ Go.Lib.decDigits n, 48 ≤ c.toNat ∧ c.toNat ≤ 57 := by
  induction n using Nat.strongRecOn with
  | _ n ih =>
    rw [Go.Lib.decDigits]
    split
    · intro c hc
      rw [List.mem_singleton.1 hc, u8n (by omega)]; omega
    · intro c hc
      rcases List.mem_append.1 hc with hc | hc
      · exact ih (n / 10) (by omega) c hc
      · rw [List.mem_singleton.1 hc, u8n (by omega)]; omega
theorem dec_ne (n : Nat) : Go.Lib.decDigits n ≠ [] := by
  rw [Go.Lib.decDigits]; split <;> simp
def NumsOk (σ : Val) (tl : List (SI × List Nat)) : Prop := ∀ x ∈ tl, 0 ≤ x.1.ev σ ∧ x.1.ev σ < 1000000000000000000
theorem digs_pos {σ : Val} {e : SI} (h : 0 ≤ e.ev σ ∧ e.ev σ < 1000000000000000000) : digs σ e = Go.Lib.decDigits (e.ev σ).toNat := by
  unfold digs
  rw [wrap_id (by omega), Go.Lib.itoa, if_neg (by omega)]
theorem extV_ok {σ : Val} {h : List Nat} {tl : List (SI × List Nat)} (hs : srcShape h tl = true) (hn : NumsOk σ tl) : SrcOk (extV σ (mkSrc h tl)) (mkSrc h tl) := by
  simp only [srcShape, Bool.and_eq_true] at hs
  obtain ⟨⟨⟨⟨h1, h2⟩, h3⟩, h4⟩, h5⟩ := hs
  have h3 := Nat.le_of_ble_eq_true h3
  have hev : ∀ x ∈ tl, x.1.ev (extV σ (mkSrc h tl)) = x.1.ev σ := fun x hx => by
    have := List.all_eq_true.1 h2 x hx
    simp only [Bool.and_eq_true] at this
    exact SI.base_ev (fun i hi => extV_i hi) _ this.2
  have hb : bytesF (extV σ (mkSrc h tl)) h tl = bytesF σ h tl := bytesF_congr h tl hev
  have hp : ∀ k, posF (extV σ (mkSrc h tl)) h tl k = posF σ h tl k := fun k => posF_congr k h tl hev
  have hd0 : DigOk σ tl := fun x hx => by
    rw [digs_pos (hn x hx)]
    have := nDig_le (x.1.ev σ).toNat 17 (by have := hn x hx; omega)
    have := List.length_pos_iff.2 (dec_ne (x.1.ev σ).toNat)
    omega
  have hd : DigOk (extV σ (mkSrc h tl)) tl := fun x hx => by
    have := hd0 x hx
    unfold digs at this ⊢
    rw [hev x hx]; exact this
  have hsuf : ∀ k, k < tl.length → ∃ e l r, (sufF h tl k).2 = (e, l) :: r ∧ (e, l) ∈ tl := by
    intro k hk
    have h6 := (nthLL_suf k h tl (by omega)).2
    cases hx : (sufF h tl k).2 with
    | nil => rw [hx] at h6; simp at h6; omega
    | cons x r =>
      refine ⟨x.1, x.2, r, rfl, ?_⟩
      have key : ∀ (k : Nat) (h : List Nat) (tl : List (SI × List Nat)), ∀ y ∈ (sufF h tl k).2, y ∈ tl := by
        intro k
        induction k with
        | zero => intro h tl y hy; simpa [sufF] using hy
        | succ k ih =>
          intro h tl y hy
          cases tl with
          | nil => simp [sufF] at hy
          | cons z r => exact List.mem_cons_of_mem _ (ih _ _ y (by simpa [sufF] using hy))
      exact key k h tl x (by rw [hx]; exact List.mem_cons_self ..)
  have hdig : ∀ k, k < tl.length → ∃ (c : UInt8) (m : List UInt8), (bytesF σ h tl).drop (posF σ h tl k + (sufF h tl k).1.length) = c :: m ∧ 48 ≤ c.toNat ∧ c.toNat ≤ 57 := by
    intro k hk
    obtain ⟨e, l, r, he, hm⟩ := hsuf k hk
    have hdr := (drop_pos σ k h tl (by omega)).1
    rw [← List.drop_drop, hdr]
    cases hsf : sufF h tl k with
    | mk a b =>
      rw [hsf] at he
      subst he
      simp only [bytesF]
      rw [show a.length = (b8 a).length by simp [b8_len], List.drop_left, digs_pos (hn _ hm)]
      cases hx : Go.Lib.decDigits (e.ev σ).toNat with
      | nil => exact absurd hx (dec_ne _)
      | cons c m => exact ⟨c, m ++ bytesF σ l r, rfl, dec_all _ c (by rw [hx]; exact List.mem_cons_self ..)⟩
  have hlen : (bytesF σ h tl).length ≤ 1000000 := by
    have hg := (gap_ok σ tl.length 0 h tl hd0 (by omega) (Nat.le_refl _)).2
    obtain ⟨g1, g2⟩ := drop_pos σ tl.length h tl (Nat.le_refl _)
    obtain ⟨g3, g4⟩ := nthLL_suf tl.length h tl (Nat.le_refl _)
    have g5 : (sufF h tl tl.length).2 = [] := List.eq_nil_of_length_eq_zero (by omega)
    have g6 := congrArg List.length g1
    rw [List.length_drop] at g6
    cases hsf : sufF h tl tl.length with
    | mk a b =>
      rw [hsf] at g5 g6 g3
      simp only [] at g5
      subst g5
      simp only [bytesF, b8_len] at g6
      have h4' := Nat.le_of_ble_eq_true h4
      have h5' := Nat.le_of_ble_eq_true h5
      have ha : a.length ≤ (h :: tl.map (·.2)).foldl (fun n l => n + l.length) 0 := by
        have key : ∀ (ls : List (List Nat)) (k : Nat) (x : List Nat) (n : Nat), nthLL ls k = some x → x.length ≤ ls.foldl (fun n l => n + l.length) n := by
          have mono : ∀ (ls : List (List Nat)) (n : Nat), n ≤ ls.foldl (fun n l => n + l.length) n := by
            intro ls
            induction ls with
            | nil => intro n; exact Nat.le_refl _
            | cons y ls ih => intro n; exact Nat.le_trans (Nat.le_add_right _ _) (ih _)
          intro ls
          induction ls with
          | nil => intro k x n hx; unfold nthLL at hx; cases hx
          | cons y ls ih =>
            intro k x n hx
            cases k with
            | zero => simp only [nthLL, Option.some.injEq] at hx; subst hx; exact Nat.le_trans (Nat.le_add_left _ _) (mono _ _)
            | succ k => exact ih k x _ (by simpa [nthLL] using hx)
        exact key _ _ _ _ g3
      simp only [posF] at hg
      omega
  refine ⟨?_, fun c hc => ?_, fun x hx c hc => ?_, hd, ?_, fun k hk => ?_, fun k hk => ?_, fun k hk h1 => ?_, fun k hk => ?_, fun i hi hk => ?_⟩
  · have e1 : (extV σ (mkSrc h tl)).s 1 = (bytesF σ h tl).take 1000000 := rfl
    show (extV σ (mkSrc h tl)).s 1 = bytesF (extV σ (mkSrc h tl)) h tl
    rw [e1, hb, List.take_of_length_le hlen]
  · have := List.all_eq_true.1 h1 c hc; have := Nat.le_of_ble_eq_true this; omega
  · have := List.all_eq_true.1 h2 x hx
    simp only [Bool.and_eq_true] at this
    have := List.all_eq_true.1 this.1 c hc; have := Nat.le_of_ble_eq_true this; omega
  · show (bytesF (extV σ (mkSrc h tl)) h tl).length ≤ 1000000
    rw [hb]; exact hlen
  · show (extV σ (mkSrc h tl)).i (100 + k) = (posF (extV σ (mkSrc h tl)) h tl k : Int)
    have hk : k ≤ tl.length := hk
    rw [hp]
    show (if 100 + k ≤ 99 then _ else if 400 ≤ 100 + k then _ else if 100 + k ≤ 100 + tl.length then (posF σ h tl (100 + k - 100) : Int) else _) = _
    rw [if_neg (by omega), if_neg (by omega), if_pos (by omega), show 100 + k - 100 = k by omega]
  · have hk : k < tl.length := hk
    obtain ⟨c, m, e1, e2, e3⟩ := hdig k hk
    have hget : (bytesF σ h tl)[posF σ h tl k + (sufF h tl k).1.length]? = some c := by
      have := congrArg (fun l => l[0]?) e1
      simpa [List.getElem?_drop] using this
    refine ⟨c.toNat, e2, e3, ?_, ?_⟩
    · show (if 201 + k ≤ 99 then _ else if 400 ≤ 201 + k then _ else if 201 + k ≤ 100 + tl.length then _ else if 201 ≤ 201 + k ∧ 201 + k < 201 + tl.length then (((bytesF σ h tl).getD (posF σ h tl (201 + k - 201) + (sufF h tl (201 + k - 201)).1.length) 48).toNat : Int) else 0) = _
      rw [if_neg (by omega), if_neg (by omega), if_neg (by omega), if_pos (by omega), show 201 + k - 201 = k by omega, List.getD_eq_getElem?_getD, hget]
      rfl
    · show (bytesF (extV σ (mkSrc h tl)) h tl)[posF (extV σ (mkSrc h tl)) h tl k + (sufF h tl k).1.length]? = _
      rw [hb, hp, hget]
      simp
  · have hk : k < tl.length := hk
    have h1 : 1 ≤ (sufF h tl k).1.length := h1
    show (if 400 ≤ 2 * (k + 1) then _ else if 2 * (k + 1) / 2 = 0 then (bytesF σ h tl).take 1000000 else if 2 * (k + 1) % 2 = 0 then (if (sufF h tl (2 * (k + 1) / 2 - 1)).1.length = 0 then [48] else ((bytesF σ h tl).drop (posF σ h tl (2 * (k + 1) / 2 - 1) + (sufF h tl (2 * (k + 1) / 2 - 1)).1.length - 1)).take 2) else _) = ((bytesF (extV σ (mkSrc h tl)) h tl).drop (posF (extV σ (mkSrc h tl)) h tl k + (sufF h tl k).1.length - 1)).take 2
    rw [hb, hp, if_neg (by omega), if_neg (by omega), if_pos (by omega), show 2 * (k + 1) / 2 - 1 = k by omega, if_neg (by omega)]
  · have hk : k < tl.length := hk
    show (if 400 ≤ 2 * (k + 1) + 1 then _ else if (2 * (k + 1) + 1) / 2 = 0 then (bytesF σ h tl).take 1000000 else if (2 * (k + 1) + 1) % 2 = 0 then _ else ((bytesF σ h tl).drop (posF σ h tl ((2 * (k + 1) + 1) / 2 - 1) + (sufF h tl ((2 * (k + 1) + 1) / 2 - 1)).1.length)).take 2) = ((bytesF (extV σ (mkSrc h tl)) h tl).drop (posF (extV σ (mkSrc h tl)) h tl k + (sufF h tl k).1.length)).take 2
    rw [hb, hp, if_neg (by omega), if_neg (by omega), if_neg (by omega), show (2 * (k + 1) + 1) / 2 - 1 = k by omega]
  · have hk : i / 2 ≤ tl.length := hk
    have hk' : i / 2 - 1 < tl.length := by omega
    obtain ⟨c, m, e1, e2, e3⟩ := hdig (i / 2 - 1) hk'
    show ∃ c ∈ (if 400 ≤ i then σ.s i else if i / 2 = 0 then (bytesF σ h tl).take 1000000 else if i % 2 = 0 then (if (sufF h tl (i / 2 - 1)).1.length = 0 then [48] else ((bytesF σ h tl).drop (posF σ h tl (i / 2 - 1) + (sufF h tl (i / 2 - 1)).1.length - 1)).take 2) else ((bytesF σ h tl).drop (posF σ h tl (i / 2 - 1) + (sufF h tl (i / 2 - 1)).1.length)).take 2), _
    rw [if_neg (by omega), if_neg (by omega)]
    split
    · split
      · exact ⟨48, by simp, by decide⟩
      · rename_i hz
        have : (bytesF σ h tl).drop (posF σ h tl (i / 2 - 1) + (sufF h tl (i / 2 - 1)).1.length - 1) = (bytesF σ h tl).drop (posF σ h tl (i / 2 - 1) + (sufF h tl (i / 2 - 1)).1.length - 1) := rfl
        have hne : posF σ h tl (i / 2 - 1) + (sufF h tl (i / 2 - 1)).1.length - 1 < (bytesF σ h tl).length := by
          have := congrArg List.length e1
          rw [List.length_drop] at this
          simp only [List.length_cons] at this
          omega
        rw [List.drop_eq_getElem_cons hne, show posF σ h tl (i / 2 - 1) + (sufF h tl (i / 2 - 1)).1.length - 1 + 1 = posF σ h tl (i / 2 - 1) + (sufF h tl (i / 2 - 1)).1.length by omega, e1]
        exact ⟨c, by simp, e2, e3⟩
    · rw [e1]
      exact ⟨c, by simp, e2, e3⟩
end Ds
