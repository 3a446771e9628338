import PyProof.Rows.All
import Wide.All
import OpenK.AllK
import Wide.FinOn
import HandS.ForMost
import HandS.Evl
import HandS.Deep
import HandS.Conv
import HandS.More
import KE.KSortTupG
import KE.KDictDisplayH
import HandS.Codes
import PySem.Challenge.RW_carpetkin_k45_whole_all_by_few
import HandS.Small
import HandS.Walk
set_option Elab.async false
set_option linter.all false
set_option maxRecDepth 100000
set_option maxHeartbeats 4000000
namespace Ck
/-! ### ways, movements -/
inductive W8 where
  | back | cross | flip | half | other | side | stay | turn
  deriving DecidableEq
def allW : List W8 := [.back, .cross, .flip, .half, .other, .side, .stay, .turn]
theorem mem_allW (w : W8) : w ∈ allW := by cases w <;> decide
def wi : W8 → Nat
  | .back => 0 | .cross => 1 | .flip => 2 | .half => 3 | .other => 4 | .side => 5 | .stay => 6 | .turn => 7
theorem wi_inj {a b : W8} (h : wi a = wi b) : a = b := by
  cases a <;> cases b <;> first | rfl | (exact absurd h (by decide))
structure S4 where
  a : Int
  b : Int
  c : Int
  d : Int
  deriving DecidableEq
def sg : W8 → S4
  | .stay => ⟨1, 0, 0, 1⟩ | .turn => ⟨0, 1, -1, 0⟩ | .half => ⟨-1, 0, 0, -1⟩ | .back => ⟨0, -1, 1, 0⟩
  | .side => ⟨1, 0, 0, -1⟩ | .flip => ⟨-1, 0, 0, 1⟩ | .cross => ⟨0, 1, 1, 0⟩ | .other => ⟨0, -1, -1, 0⟩
def mulS (o s : S4) : S4 := ⟨o.a * s.a + o.b * s.c, o.a * s.b + o.b * s.d, o.c * s.a + o.d * s.c, o.c * s.b + o.d * s.d⟩
def cw (a b : W8) : W8 := (allW.find? fun w => decide (sg w = mulS (sg b) (sg a))).getD .stay
theorem sg_cw (a b : W8) : sg (cw a b) = mulS (sg b) (sg a) := by cases a <;> cases b <;> decide
theorem sg_inj {a b : W8} (h : sg a = sg b) : a = b := by
  cases a <;> cases b <;> first | rfl | (exact absurd h (by decide))
theorem cw_uniq {a b c : W8} (h : sg c = mulS (sg b) (sg a)) : c = cw a b := sg_inj (h.trans (sg_cw a b).symm)
theorem cw_assoc (a b c : W8) : cw (cw a b) c = cw a (cw b c) := by
  cases a <;> cases b <;> cases c <;> decide
theorem cw_stay (a : W8) : cw a .stay = a := by cases a <;> decide
theorem stay_cw (a : W8) : cw .stay a = a := by cases a <;> decide
def winv : W8 → W8
  | .turn => .back | .back => .turn | w => w
theorem cw_winv (a : W8) : cw a (winv a) = .stay := by cases a <;> decide
theorem winv_cw (a : W8) : cw (winv a) a = .stay := by cases a <;> decide

def pl (w : W8) (p : Int × Int) : Int × Int := ((sg w).a * p.1 + (sg w).b * p.2, (sg w).c * p.1 + (sg w).d * p.2)
theorem pl_cw (a b : W8) (p : Int × Int) : pl (cw a b) p = pl b (pl a p) := by
  unfold pl
  rw [sg_cw]
  unfold mulS
  dsimp only
  rw [Int.mul_add, Int.mul_add, Int.mul_add, Int.mul_add, Int.add_mul, Int.add_mul, Int.add_mul, Int.add_mul]
  simp only [Int.mul_assoc]
  refine Prod.ext ?_ ?_ <;> (dsimp only; omega)
theorem pl_stay (p : Int × Int) : pl .stay p = p := by
  obtain ⟨x, y⟩ := p
  show ((1 : Int) * x + 0 * y, (0 : Int) * x + 1 * y) = (x, y)
  refine Prod.ext ?_ ?_ <;> (dsimp only; omega)

structure Mv where
  w : W8
  d : Int
  r : Int
  deriving DecidableEq
def e0 : Mv := ⟨.stay, 0, 0⟩
def Ok (n : Int) (m : Mv) : Prop := 0 ≤ m.d ∧ m.d < n ∧ 0 ≤ m.r ∧ m.r < n
def In (n : Int) (p : Int × Int) : Prop := 0 ≤ p.1 ∧ p.1 < n ∧ 0 ≤ p.2 ∧ p.2 < n
def led (n : Int) (m : Mv) (p : Int × Int) : Int × Int := (((pl m.w p).1 + m.d) % n, ((pl m.w p).2 + m.r) % n)
def th (n : Int) (a b : Mv) : Mv := ⟨cw a.w b.w, (led n b (a.d, a.r)).1, (led n b (a.d, a.r)).2⟩
theorem lin_mod (n a b X Y e : Int) : (a * (X % n) + b * (Y % n) + e) % n = (a * X + b * Y + e) % n := by
  have h1 : X % n = X - n * (X / n) := by have := Int.emod_add_mul_ediv X n; omega
  have h2 : Y % n = Y - n * (Y / n) := by have := Int.emod_add_mul_ediv Y n; omega
  rw [h1, h2, Int.mul_sub, Int.mul_sub]
  have h3 : a * (n * (X / n)) = n * (a * (X / n)) := by rw [← Int.mul_assoc, Int.mul_comm a n, Int.mul_assoc]
  have h4 : b * (n * (Y / n)) = n * (b * (Y / n)) := by rw [← Int.mul_assoc, Int.mul_comm b n, Int.mul_assoc]
  rw [h3, h4]
  have h5 : a * X - n * (a * (X / n)) + (b * Y - n * (b * (Y / n))) + e = (a * X + b * Y + e) + n * (-(a * (X / n)) - b * (Y / n)) := by
    rw [Int.mul_sub, Int.mul_neg]
    omega
  rw [h5, Int.add_mul_emod_self_left]
theorem add_mod_r (n x y : Int) : (x + y % n) % n = (x + y) % n := by
  have h2 : y % n = y - n * (y / n) := by have := Int.emod_add_mul_ediv y n; omega
  have h5 : x + y % n = (x + y) + n * (-(y / n)) := by rw [h2, Int.mul_neg]; omega
  rw [h5, Int.add_mul_emod_self_left]
theorem led_th (n : Int) (b c : Mv) (p : Int × Int) : led n (th n b c) p = led n c (led n b p) := by
  unfold th led
  dsimp only
  rw [pl_cw]
  unfold pl
  dsimp only
  rw [add_mod_r, add_mod_r, lin_mod, lin_mod]
  have q : ∀ x y : Int, x = y → x % n = y % n := fun x y h => by rw [h]
  refine Prod.ext ?_ ?_
  · dsimp only
    apply q
    simp only [Int.mul_add]
    omega
  · dsimp only
    apply q
    simp only [Int.mul_add]
    omega
theorem led_in {n : Int} (hn : 0 < n) (m : Mv) (p : Int × Int) : In n (led n m p) :=
  ⟨Int.emod_nonneg _ (by omega), Int.emod_lt_of_pos _ hn, Int.emod_nonneg _ (by omega), Int.emod_lt_of_pos _ hn⟩
theorem th_ok {n : Int} (hn : 0 < n) (a b : Mv) : Ok n (th n a b) := led_in hn b _
theorem led_e0 {n : Int} {p : Int × Int} (h : In n p) : led n e0 p = p := by
  obtain ⟨h1, h2, h3, h4⟩ := h
  unfold led
  show (((pl .stay p).1 + 0) % n, ((pl .stay p).2 + 0) % n) = p
  rw [pl_stay, Int.add_zero, Int.add_zero, Int.emod_eq_of_lt h1 h2, Int.emod_eq_of_lt h3 h4]
theorem e0_ok {n : Int} (hn : 0 < n) : Ok n e0 := by
  unfold Ok e0
  exact ⟨Int.le_refl 0, hn, Int.le_refl 0, hn⟩
theorem th_e0 {n : Int} {a : Mv} (h : Ok n a) : th n a e0 = a := by
  unfold th
  rw [led_e0 (p := (a.d, a.r)) h]
  show (⟨cw a.w .stay, a.d, a.r⟩ : Mv) = a
  rw [cw_stay]
theorem e0_th {n : Int} {a : Mv} (h : Ok n a) : th n e0 a = a := by
  obtain ⟨h1, h2, h3, h4⟩ := h
  unfold th led pl e0
  dsimp only
  rw [Int.mul_zero, Int.mul_zero, Int.mul_zero, Int.mul_zero, stay_cw]
  simp only [Int.zero_add]
  rw [Int.emod_eq_of_lt h1 h2, Int.emod_eq_of_lt h3 h4]
theorem th_assoc (n : Int) (a b c : Mv) : th n (th n a b) c = th n a (th n b c) := by
  have h := led_th n b c (a.d, a.r)
  unfold th at h ⊢
  dsimp only at h ⊢
  rw [cw_assoc]
  exact congrArg (fun q : Int × Int => (⟨cw a.w (cw b.w c.w), q.1, q.2⟩ : Mv)) h.symm
def inv (n : Int) (m : Mv) : Mv := ⟨winv m.w, (pl (winv m.w) (-m.d, -m.r)).1 % n, (pl (winv m.w) (-m.d, -m.r)).2 % n⟩
theorem th_inv (n : Int) (m : Mv) : th n m (inv n m) = e0 := by
  unfold th inv led
  dsimp only
  rw [cw_winv, add_mod_r, add_mod_r]
  unfold pl
  dsimp only
  have h1 : ∀ a b x y : Int, a * x + b * y + (a * -x + b * -y) = 0 := fun a b x y => by
    rw [Int.mul_neg, Int.mul_neg]; omega
  rw [h1, h1, Int.zero_emod]
  rfl
theorem inv_th (n : Int) (m : Mv) : th n (inv n m) m = e0 := by
  unfold th inv led
  dsimp only
  rw [winv_cw]
  have e := pl_cw (winv m.w) m.w (-m.d, -m.r)
  rw [winv_cw, pl_stay] at e
  have e1 : (sg m.w).a * (pl (winv m.w) (-m.d, -m.r)).1 + (sg m.w).b * (pl (winv m.w) (-m.d, -m.r)).2 = -m.d := (congrArg Prod.fst e).symm
  have e2 : (sg m.w).c * (pl (winv m.w) (-m.d, -m.r)).1 + (sg m.w).d * (pl (winv m.w) (-m.d, -m.r)).2 = -m.r := (congrArg Prod.snd e).symm
  generalize pl (winv m.w) (-m.d, -m.r) = q at e1 e2
  unfold pl
  dsimp only
  rw [lin_mod, lin_mod, e1, e2]
  rw [show -m.d + m.d = 0 by omega, show -m.r + m.r = 0 by omega, Int.zero_emod]
  rfl
theorem inv_ok {n : Int} (hn : 0 < n) (m : Mv) : Ok n (inv n m) :=
  ⟨Int.emod_nonneg _ (by omega), Int.emod_lt_of_pos _ hn, Int.emod_nonneg _ (by omega), Int.emod_lt_of_pos _ hn⟩
theorem led_inv {n : Int} (m : Mv) {p : Int × Int} (h : In n p) : led n (inv n m) (led n m p) = p := by
  rw [← led_th, th_inv, led_e0 h]
theorem led_led_inv {n : Int} (m : Mv) {p : Int × Int} (h : In n p) : led n m (led n (inv n m) p) = p := by
  rw [← led_th, inv_th, led_e0 h]
theorem led_inj {n : Int} (m : Mv) {p q : Int × Int} (hp : In n p) (hq : In n q) (h : led n m p = led n m q) : p = q := by
  rw [← led_inv m hp, h, led_inv m hq]
theorem cancel_l {n : Int} {a x y : Mv} (hx : Ok n x) (hy : Ok n y) (h : th n a x = th n a y) : x = y := by
  have e := congrArg (th n (inv n a)) h
  rw [← th_assoc, ← th_assoc, inv_th, e0_th hx, e0_th hy] at e
  exact e
theorem cancel_r {n : Int} {a x y : Mv} (hx : Ok n x) (hy : Ok n y) (h : th n x a = th n y a) : x = y := by
  have e : th n (th n x a) (inv n a) = th n (th n y a) (inv n a) := by rw [h]
  rw [th_assoc, th_assoc, th_inv, th_e0 hx, th_e0 hy] at e
  exact e

/-! ### lists without doubles -/
theorem len_le {α : Type} [DecidableEq α] : ∀ {l l' : List α}, l.Nodup → (∀ x ∈ l, x ∈ l') → l.length ≤ l'.length
  | [], _, _, _ => Nat.zero_le _
  | a :: r, l', h, s => by
    obtain ⟨h1, h2⟩ := List.nodup_cons.mp h
    have ha : a ∈ l' := s a List.mem_cons_self
    have := len_le (l := r) (l' := l'.erase a) h2 fun x hx => by
      have hne : x ≠ a := fun e => h1 (e ▸ hx)
      exact (List.mem_erase_of_ne hne).mpr (s x (List.mem_cons_of_mem _ hx))
    rw [List.length_erase_of_mem ha] at this
    have hp : 0 < l'.length := List.length_pos_of_mem ha
    rw [List.length_cons]
    omega
theorem nodup_map {α β : Type} {f : α → β} : ∀ {l : List α}, l.Nodup → (∀ x ∈ l, ∀ y ∈ l, f x = f y → x = y) → (l.map f).Nodup
  | [], _, _ => List.nodup_nil
  | a :: r, h, s => by
    obtain ⟨h1, h2⟩ := List.nodup_cons.mp h
    rw [List.map_cons]
    refine List.nodup_cons.mpr ⟨fun hm => ?_, nodup_map h2 fun x hx y hy => s x (List.mem_cons_of_mem _ hx) y (List.mem_cons_of_mem _ hy)⟩
    obtain ⟨y, hy, e⟩ := List.mem_map.mp hm
    exact h1 (s y (List.mem_cons_of_mem _ hy) a List.mem_cons_self e ▸ hy)
theorem hit {α : Type} [DecidableEq α] {f : α → α} {l : List α} (h : l.Nodup) (hf : ∀ x ∈ l, f x ∈ l) (hi : ∀ x ∈ l, ∀ y ∈ l, f x = f y → x = y) {y : α} (hy : y ∈ l) : ∃ x ∈ l, f x = y := by
  by_cases q : y ∈ l.map f
  · exact List.mem_map.mp q
  · have nd : (y :: l.map f).Nodup := List.nodup_cons.mpr ⟨q, nodup_map h hi⟩
    have := len_le nd (l' := l) fun x hx => by
      rcases List.mem_cons.mp hx with e | hx
      · exact e ▸ hy
      · obtain ⟨z, hz, e⟩ := List.mem_map.mp hx
        exact e ▸ hf z hz
    rw [List.length_cons, List.length_map] at this
    omega

/-! ### what comes of some movements -/
inductive Rch (n : Int) (G : List Mv) : Mv → Prop
  | one : Rch n G e0
  | step {a g : Mv} : Rch n G a → g ∈ G → Rch n G (th n a g)
theorem Rch.ok {n : Int} {G : List Mv} (hn : 0 < n) {m : Mv} (h : Rch n G m) : Ok n m := by
  cases h with
  | one => exact e0_ok hn
  | step _ _ => exact th_ok hn _ _
theorem Rch.mul {n : Int} {G : List Mv} (hn : 0 < n) {a b : Mv} (ha : Rch n G a) (hb : Rch n G b) : Rch n G (th n a b) := by
  induction hb with
  | one => rw [th_e0 (ha.ok hn)]; exact ha
  | step _ hg ih => rw [← th_assoc]; exact .step ih hg
theorem Rch.mono {n : Int} {G G' : List Mv} (h : ∀ x ∈ G, x ∈ G') {m : Mv} (r : Rch n G m) : Rch n G' m := by
  induction r with
  | one => exact .one
  | step _ hg ih => exact .step ih (h _ hg)
theorem Rch.gen {n : Int} {G : List Mv} {g : Mv} (hg : g ∈ G) (h : Ok n g) : Rch n G g := by
  have := Rch.step (n := n) .one hg
  rw [e0_th h] at this
  exact this
/-- a list that has e0 and is closed holds all that comes of some of it -/
theorem Rch.within {n : Int} {G : List Mv} {P : Mv → Prop} (h0 : P e0) (hs : ∀ a g, P a → g ∈ G → P (th n a g)) {m : Mv} (r : Rch n G m) : P m := by
  induction r with
  | one => exact h0
  | step _ hg ih => exact hs _ _ ih hg

/-! ### all movements, in order -/
def lt (a b : Mv) : Prop := wi a.w < wi b.w ∨ (wi a.w = wi b.w ∧ (a.d < b.d ∨ (a.d = b.d ∧ a.r < b.r)))
instance (a b : Mv) : Decidable (lt a b) := by unfold lt; infer_instance
theorem lt_irrefl (a : Mv) : ¬ lt a a := by unfold lt; omega
theorem lt_trans {a b c : Mv} (h : lt a b) (h' : lt b c) : lt a c := by unfold lt at *; omega
theorem lt_total {a b : Mv} (h : ¬ lt a b) (h' : a ≠ b) : lt b a := by
  unfold lt at *
  by_cases e : wi a.w = wi b.w
  · by_cases e1 : a.d = b.d
    · by_cases e2 : a.r = b.r
      · exfalso
        apply h'
        obtain ⟨aw, ad, ar⟩ := a
        obtain ⟨bw, bd, br⟩ := b
        have := wi_inj e
        simp only at this e1 e2
        subst this; subst e1; subst e2; rfl
      · omega
    · omega
  · omega
def allR (N : Nat) (w : W8) (d : Nat) : List Mv := (List.range N).map fun r => (⟨w, (d : Int), ((r : Nat) : Int)⟩ : Mv)
def allD (N : Nat) (w : W8) : List Mv := (List.range N).flatMap fun d => allR N w d
def alls (N : Nat) : List Mv := allW.flatMap fun w => allD N w
theorem mem_alls {N : Nat} {m : Mv} : m ∈ alls N ↔ Ok N m := by
  unfold alls allD allR Ok
  constructor
  · intro h
    obtain ⟨w, _, h⟩ := List.mem_flatMap.mp h
    obtain ⟨d, hd, h⟩ := List.mem_flatMap.mp h
    obtain ⟨r, hr, e⟩ := List.mem_map.mp h
    subst e
    have := List.mem_range.mp hd
    have := List.mem_range.mp hr
    dsimp only
    omega
  · intro ⟨h1, h2, h3, h4⟩
    refine List.mem_flatMap.mpr ⟨m.w, mem_allW _, List.mem_flatMap.mpr ⟨m.d.toNat, List.mem_range.mpr (by omega), List.mem_map.mpr ⟨m.r.toNat, List.mem_range.mpr (by omega), ?_⟩⟩⟩
    obtain ⟨w, d, r⟩ := m
    simp only at h1 h3 ⊢
    rw [Int.toNat_of_nonneg h1, Int.toNat_of_nonneg h3]
theorem pw_flat {α β : Type} {R : β → β → Prop} {f : α → List β} : ∀ {l : List α} {S : α → α → Prop}, l.Pairwise S → (∀ x ∈ l, (f x).Pairwise R) → (∀ x y, S x y → ∀ a ∈ f x, ∀ b ∈ f y, R a b) → (l.flatMap f).Pairwise R
  | [], _, _, _, _ => List.Pairwise.nil
  | a :: r, S, h, h1, h2 => by
    rw [List.flatMap_cons]
    have h' := List.pairwise_cons.mp h
    refine List.pairwise_append.mpr ⟨h1 a List.mem_cons_self, pw_flat h'.2 (fun x hx => h1 x (List.mem_cons_of_mem _ hx)) h2, fun x hx y hy => ?_⟩
    obtain ⟨z, hz, hy⟩ := List.mem_flatMap.mp hy
    exact h2 a z (h'.1 z hz) x hx y hy
theorem alls_sorted (N : Nat) : (alls N).Pairwise lt := by
  refine pw_flat (S := fun a b => wi a < wi b) (by decide) (fun w _ => ?_) ?_
  · refine pw_flat (S := fun a b => a < b) List.pairwise_lt_range (fun d _ => ?_) ?_
    · unfold allR
      rw [List.pairwise_map]
      exact List.pairwise_lt_range.imp fun {a b} h => by unfold lt; dsimp only; omega
    · intro x y h a ha b hb
      unfold allR at ha hb
      obtain ⟨i, _, rfl⟩ := List.mem_map.mp ha
      obtain ⟨j, _, rfl⟩ := List.mem_map.mp hb
      unfold lt; dsimp only; omega
  · intro x y h a ha b hb
    unfold allD allR at ha hb
    obtain ⟨i, _, ha⟩ := List.mem_flatMap.mp ha
    obtain ⟨j, _, rfl⟩ := List.mem_map.mp ha
    obtain ⟨i, _, hb⟩ := List.mem_flatMap.mp hb
    obtain ⟨j, _, rfl⟩ := List.mem_map.mp hb
    unfold lt; dsimp only; omega
theorem allR_len (N : Nat) (w : W8) (d : Nat) : (allR N w d).length = N := by unfold allR; rw [List.length_map, List.length_range]
theorem flat_len {α β : Type} {f : α → List β} {k : Nat} : ∀ l : List α, (∀ x, (f x).length = k) → (l.flatMap f).length = l.length * k
  | [], _ => by simp
  | a :: r, h => by rw [List.flatMap_cons, List.length_append, flat_len r h, h, List.length_cons, Nat.add_mul]; omega
theorem alls_len (N : Nat) : (alls N).length = 8 * (N * N) := by
  unfold alls
  rw [flat_len (k := N * N) _ fun w => ?_]
  · rfl
  · unfold allD
    rw [flat_len (k := N) _ fun d => allR_len N w d, List.length_range]
theorem alls_nodup (N : Nat) : (alls N).Nodup := List.Pairwise.imp (fun {a b} (h : lt a b) (e : a = b) => lt_irrefl a (by rw [← e] at h; exact h)) (alls_sorted N)
theorem uniq {l l' : List Mv} : l.Pairwise lt → l'.Pairwise lt → (∀ x, x ∈ l ↔ x ∈ l') → l = l' := by
  induction l generalizing l' with
  | nil =>
    intro _ _ h
    cases l' with
    | nil => rfl
    | cons a r => exact absurd ((h a).mpr List.mem_cons_self) (by simp)
  | cons a r ih =>
    intro h1 h2 h
    cases l' with
    | nil => exact absurd ((h a).mp List.mem_cons_self) (by simp)
    | cons b r' =>
      have p1 := List.pairwise_cons.mp h1
      have p2 := List.pairwise_cons.mp h2
      have e : a = b := by
        rcases List.mem_cons.mp ((h a).mp List.mem_cons_self) with e | m
        · exact e
        · rcases List.mem_cons.mp ((h b).mpr List.mem_cons_self) with e | m'
          · exact e.symm
          · exact absurd (lt_trans (p1.1 b m') (p2.1 a m)) (lt_irrefl _)
      subst e
      rw [ih p1.2 p2.2 fun x => ?_]
      constructor
      · intro hx
        rcases List.mem_cons.mp ((h x).mp (List.mem_cons_of_mem _ hx)) with e | m
        · subst e; exact absurd (p1.1 x hx) (lt_irrefl _)
        · exact m
      · intro hx
        rcases List.mem_cons.mp ((h x).mpr (List.mem_cons_of_mem _ hx)) with e | m
        · subst e; exact absurd (p2.1 x hx) (lt_irrefl _)
        · exact m
/-- all that comes of G, in order -/
noncomputable def md (N : Nat) (G : List Mv) : List Mv := (alls N).filter fun m => @decide (Rch N G m) (Classical.propDecidable _)
theorem mem_md {N : Nat} (hn : 0 < N) {G : List Mv} {m : Mv} : m ∈ md N G ↔ Rch N G m := by
  unfold md
  rw [List.mem_filter]
  constructor
  · intro h; exact @of_decide_eq_true _ (Classical.propDecidable _) h.2
  · intro h; exact ⟨mem_alls.mpr (h.ok (by omega)), @decide_eq_true _ (Classical.propDecidable _) h⟩
theorem md_sorted (N : Nat) (G : List Mv) : (md N G).Pairwise lt := (alls_sorted N).filter _
theorem md_nodup (N : Nat) (G : List Mv) : (md N G).Nodup := (alls_nodup N).filter _
theorem md_len (N : Nat) (G : List Mv) : (md N G).length ≤ 8 * (N * N) := by
  rw [← alls_len]; exact List.length_filter_le _ _
/-- sorted, with the members of md: it is md -/
theorem md_uniq {N : Nat} (hn : 0 < N) {G l : List Mv} (h : l.Pairwise lt) (hm : ∀ x, x ∈ l ↔ Rch N G x) : l = md N G :=
  uniq h (md_sorted N G) fun x => (hm x).trans (mem_md hn).symm

/-! ### twice as many -/
theorem twice {N : Nat} (hn : 0 < N) {G : List Mv} {x : Mv} (hx : Ok N x) (hno : ¬ Rch N G x) : 2 * (md N G).length ≤ (md N (G ++ [x])).length := by
  have hn' : (0 : Int) < N := by omega
  have ok : ∀ a ∈ md N G, Ok N a := fun a ha => ((mem_md hn).mp ha).ok hn'
  have up : ∀ a, Rch N G a → Rch N (G ++ [x]) a := fun a r => r.mono fun y hy => List.mem_append_left _ hy
  have nd2 : ((md N G).map fun h => th N h x).Nodup := nodup_map (md_nodup N G) fun a ha b hb e => cancel_r (ok a ha) (ok b hb) e
  have dj : ∀ a ∈ md N G, ∀ b ∈ (md N G).map (fun h => th N h x), a ≠ b := by
    intro a ha b hb e
    obtain ⟨h, hh, rfl⟩ := List.mem_map.mp hb
    obtain ⟨s, hs, es⟩ := hit (f := fun s => th N h s) (md_nodup N G) (fun s hs => (mem_md hn).mpr (((mem_md hn).mp hh).mul hn' ((mem_md hn).mp hs))) (fun s hs t ht e => cancel_l (ok s hs) (ok t ht) e) ha
    have e2 : th N h s = th N h x := es.trans e
    have e3 := cancel_l (ok s hs) hx e2
    exact hno (e3 ▸ (mem_md hn).mp hs)
  have nd : (md N G ++ (md N G).map fun h => th N h x).Nodup := List.nodup_append.mpr ⟨md_nodup N G, nd2, dj⟩
  have := len_le nd (l' := md N (G ++ [x])) fun y hy => by
    rcases List.mem_append.mp hy with h | h
    · exact (mem_md hn).mpr (up y ((mem_md hn).mp h))
    · obtain ⟨z, hz, rfl⟩ := List.mem_map.mp h
      exact (mem_md hn).mpr (.step (up z ((mem_md hn).mp hz)) (List.mem_append_right _ List.mem_cons_self))
  rw [List.length_append, List.length_map] at this
  omega
/-- few: none made by those ahead of it -/
def Chain (N : Nat) (F : List Mv) : Prop := ∀ (k : Nat) (x : Mv), F[k]? = some x → Ok N x ∧ ¬ Rch N (F.take k) x
theorem chain_pow {N : Nat} (hn : 0 < N) {F : List Mv} (c : Chain N F) : ∀ k, k ≤ F.length → 2 ^ k ≤ (md N (F.take k)).length
  | 0, _ => by
    have : e0 ∈ md N (F.take 0) := (mem_md hn).mpr .one
    exact List.length_pos_of_mem this
  | k + 1, h => by
    have ih := chain_pow hn c k (by omega)
    have hk : F[k]? = some F[k] := List.getElem?_eq_getElem (by omega)
    obtain ⟨o, nr⟩ := c k _ hk
    have t := twice hn o nr
    rw [List.take_add_one, hk]
    rw [Nat.pow_succ]
    show _ ≤ (md N (F.take k ++ [F[k]])).length
    omega
theorem chain_len {N : Nat} (hn : 0 < N) (h5 : N ≤ 5) {F : List Mv} (c : Chain N F) : F.length ≤ 7 := by
  have h := chain_pow hn c F.length (Nat.le_refl _)
  have h2 := md_len N (F.take F.length)
  have h3 : N * N ≤ 5 * 5 := Nat.mul_le_mul h5 h5
  by_cases q : F.length ≤ 7
  · exact q
  · have h4 : 2 ^ 8 ≤ 2 ^ F.length := Nat.pow_le_pow_right (by decide) (by omega)
    have h6 : (2 : Nat) ^ 8 = 256 := by decide
    omega
theorem Chain.snoc {N : Nat} {F : List Mv} {x : Mv} (c : Chain N F) (ho : Ok N x) (hx : ¬ Rch N F x) : Chain N (F ++ [x]) := by
  intro k y hk
  by_cases hlt : k < F.length
  · rw [List.getElem?_append_left hlt] at hk
    obtain ⟨a, b⟩ := c k y hk
    refine ⟨a, ?_⟩
    rw [List.take_append_of_le_length (by omega)]
    exact b
  · rw [List.getElem?_append_right (by omega)] at hk
    have hk0 : k = F.length := by
      have := (List.getElem?_eq_some_iff.mp hk).1
      rw [List.length_singleton] at this
      omega
    subst hk0
    rw [Nat.sub_self] at hk
    have e : x = y := Option.some.inj hk
    subst e
    rw [List.take_left']
    · exact ⟨ho, hx⟩
    · rfl

/-! ### carpets -/
abbrev Carp := Int → Int → Nat
/-- the moved carpet -/
def mvC (n : Int) (m : Mv) (C : Carp) : Carp := fun i j => C (led n (inv n m) (i, j)).1 (led n (inv n m) (i, j)).2
/-- the movement leaves it -/
def Lv (n : Int) (C : Carp) (m : Mv) : Prop := ∀ r c : Int, In n (r, c) → C (led n m (r, c)).1 (led n m (r, c)).2 = C r c
def Same (n : Int) (C D : Carp) : Prop := ∀ r c : Int, In n (r, c) → C r c = D r c
theorem mvC_led {n : Int} (_ : 0 < n) (m : Mv) (C : Carp) {r c : Int} (h : In n (r, c)) : mvC n m C (led n m (r, c)).1 (led n m (r, c)).2 = C r c := by
  unfold mvC
  show C (led n (inv n m) (led n m (r, c))).1 (led n (inv n m) (led n m (r, c))).2 = C r c
  rw [led_inv m h]
theorem same_iff {n : Int} (hn : 0 < n) (m : Mv) (C : Carp) : Same n (mvC n m C) C ↔ Lv n C m := by
  constructor
  · intro h r c hi
    have q := h (led n m (r, c)).1 (led n m (r, c)).2 (led_in hn m (r, c))
    rw [mvC_led hn m C hi] at q
    exact q.symm
  · intro h r c hi
    have q := h (led n (inv n m) (r, c)).1 (led n (inv n m) (r, c)).2 (led_in hn (inv n m) (r, c))
    have e := led_led_inv m hi
    unfold mvC
    have e' : led n m ((led n (inv n m) (r, c)).1, (led n (inv n m) (r, c)).2) = (r, c) := e
    rw [e'] at q
    exact q.symm
theorem lv_e0 {n : Int} (C : Carp) : Lv n C e0 := fun r c h => by rw [led_e0 h]
theorem lv_th {n : Int} (hn : 0 < n) {C : Carp} {a b : Mv} (ha : Lv n C a) (hb : Lv n C b) : Lv n C (th n a b) := fun r c h => by
  rw [led_th]
  have q := hb (led n a (r, c)).1 (led n a (r, c)).2 (led_in hn a (r, c))
  rw [ha r c h] at q
  exact q
noncomputable def lvs (N : Nat) (C : Carp) : List Mv := (alls N).filter fun m => @decide (Lv N C m) (Classical.propDecidable _)
theorem mem_lvs {N : Nat} {C : Carp} {m : Mv} : m ∈ lvs N C ↔ Ok N m ∧ Lv N C m := by
  unfold lvs
  rw [List.mem_filter, mem_alls]
  exact and_congr_right fun _ => ⟨fun h => @of_decide_eq_true _ (Classical.propDecidable _) h, fun h => @decide_eq_true _ (Classical.propDecidable _) h⟩
theorem lvs_sorted (N : Nat) (C : Carp) : (lvs N C).Pairwise lt := (alls_sorted N).filter _
theorem lvs_len (N : Nat) (C : Carp) : (lvs N C).length ≤ 8 * (N * N) := by
  rw [← alls_len]; exact List.length_filter_le _ _
/-- the few make just those that leave it -/
theorem few_all {N : Nat} (hn : 0 < N) {C : Carp} {F : List Mv} (h1 : ∀ x ∈ F, x ∈ lvs N C) (h2 : ∀ x ∈ lvs N C, Rch N F x) : md N F = lvs N C := by
  have hn' : (0 : Int) < N := by omega
  refine uniq (md_sorted _ _) (lvs_sorted _ _) fun x => ?_
  rw [mem_md hn]
  constructor
  · intro r
    exact r.within (P := fun x => x ∈ lvs N C) (mem_lvs.mpr ⟨e0_ok hn', lv_e0 C⟩) fun a g ha hg => by
      exact mem_lvs.mpr ⟨th_ok hn' _ _, lv_th hn' (mem_lvs.mp ha).2 (mem_lvs.mp (h1 g hg)).2⟩
  · exact h2 x
end Ck
namespace Ck
open PySem PySem.Spec PyProof.Rows L2

/-! ### a movement as a tuple -/
def wn : W8 → Str
  | .back => ("back" : Str) | .cross => ("cross" : Str) | .flip => ("flip" : Str) | .half => ("half" : Str)
  | .other => ("other" : Str) | .side => ("side" : Str) | .stay => ("stay" : Str) | .turn => ("turn" : Str)
theorem wn_inj {a b : W8} (h : wn a = wn b) : a = b := by
  cases a <;> cases b <;> first | rfl | (exact absurd h (by decide +kernel))
def mvK (m : Mv) : List Key := [Sum.inr (wn m.w), Sum.inl m.d, Sum.inl m.r]
def mvV (m : Mv) : List V := [.str (wn m.w), .int m.d, .int m.r]
theorem mvKV (m : Mv) : (mvK m).map kV = mvV m := rfl
theorem mvV_inj {a b : Mv} (h : mvV a = mvV b) : a = b := by
  obtain ⟨aw, ad, ar⟩ := a
  obtain ⟨bw, bd, br⟩ := b
  unfold mvV at h
  injection h with h1 h
  injection h with h2 h
  injection h with h3 _
  injection h1 with h1
  injection h2 with h2
  injection h3 with h3
  have h1 := wn_inj h1
  dsimp only at h1 h2 h3
  rw [h1, h2, h3]
theorem mvK_inj {a b : Mv} (h : mvK a = mvK b) : a = b := mvV_inj (by rw [← mvKV, ← mvKV, h])
/-- movements at addresses -/
def Mvs (K : PySem.W.Frag) (H : Hp) : List Addr → List Mv → Prop := Paired fun q m => SqT K H q (mvV m)

/-! ### their order -/
def keyL (m : Mv) : List (Int ⊕ List Nat) := [Sum.inr (wn m.w).cps.toList, Sum.inl m.d, Sum.inl m.r]
theorem way_lt {a b : W8} (h : wi a < wi b) : itemLt (Sum.inr (wn a).cps.toList) (Sum.inr (wn b).cps.toList) = true ∧ itemLt (Sum.inr (wn b).cps.toList) (Sum.inr (wn a).cps.toList) = false := by
  cases a <;> cases b <;> first | (exact absurd h (by decide)) | (constructor <;> decide +kernel)
theorem key_lt {a b : Mv} (h : lt a b) : lexLt itemOrd (keyL a) (keyL b) = true := by
  unfold keyL
  rw [lex_cons]
  rcases h with h | ⟨h, h'⟩
  · have q := (way_lt h).1
    rw [show itemOrd.blt (Sum.inr (wn a.w).cps.toList) (Sum.inr (wn b.w).cps.toList) = true from q]
    rfl
  · rw [wi_inj h, ← lex_cons, lex_self]
    rcases h' with h' | ⟨h', h''⟩
    · rw [lex_cons]
      rw [show itemOrd.blt (Sum.inl a.d) (Sum.inl b.d) = true from decide_eq_true h']
      rfl
    · rw [h', lex_self, lex_cons]
      rw [show itemOrd.blt (Sum.inl a.r) (Sum.inl b.r) = true from decide_eq_true h'']
      rfl
def shp (i : Nat) : Bool := i == 0
section
variable {X : Cx} {pins : List (Addr × Obj)} {σ : L2.St} {H : Hp} {s : Shared}
theorem items3 {m : Mv} {us : List Value} (r : Vals (mvV m) us) : ∃ t t1 t2, us = [.str (wn m.w) t, .int m.d t1, .int m.r t2] := by
  unfold mvV at r
  cases r with
  | cons r1 r =>
    cases r with
    | cons r2 r =>
      cases r with
      | cons r3 r =>
        cases r
        obtain ⟨t, rfl⟩ := r1
        obtain ⟨t1, rfl⟩ := r2
        obtain ⟨t2, rfl⟩ := r3
        exact ⟨t, t1, t2, rfl⟩
theorem mv_key (I : Inv X pins σ H s) {q : Addr} {m : Mv} (h : SqT X.K H q (mvV m)) : G.tupKeyC s.heap shp (.ref q) = some (keyL m) ∧ ∃ f, TupOf s.heap shp (.ref q) f := by
  obtain ⟨us, r, ⟨o, ho, hc, n, hd⟩, _⟩ := I.tuple h
  obtain ⟨t, t1, t2, rfl⟩ := items3 r
  constructor
  · unfold G.tupKeyC
    have e : G.isTupObj s.heap (.ref q) = true := by
      unfold G.isTupObj
      simp only [ho, hc]
      decide +kernel
    rw [if_pos e]
    unfold tupKey
    simp only [ho, hd]
    rfl
  · exact ⟨.str (wn m.w) t, q, o, _, n, rfl, ho, hc, hd, rfl, (fun z => by cases z), (fun _ => ⟨_, _, rfl⟩)⟩
theorem mvs_tups (I : Inv X pins σ H s) : ∀ {qs : List Addr} {ms : List Mv}, Mvs X.K H qs ms → ∃ fs, TupsOf s.heap shp (qs.map Value.ref) fs
  | _, _, .nil => ⟨[], .nil⟩
  | _, _, .cons h r => by
    obtain ⟨f, hf⟩ := (mv_key I h).2
    obtain ⟨fs, hfs⟩ := mvs_tups I r
    exact ⟨f :: fs, .cons hf hfs⟩
theorem mvs_mem {K : PySem.W.Frag} : ∀ {qs : List Addr} {ms : List Mv}, Mvs K H qs ms → ∀ p ∈ qs.zip ms, SqT K H p.1 (mvV p.2)
  | _, _, .nil, _, h => by simp at h
  | _, _, .cons h r, p, hp => by
    rw [List.zip_cons_cons] at hp
    rcases List.mem_cons.mp hp with e | hp
    · subst e; exact h
    · exact mvs_mem r p hp
theorem mvs_keys (I : Inv X pins σ H s) {qs : List Addr} {ms : List Mv} (h : Mvs X.K H qs ms) : ∀ v, v ∈ qs.map Value.ref → ∃ l, G.tupKeyC s.heap shp v = some l := by
  intro v hv
  induction h with
  | nil => simp at hv
  | cons h _ ih =>
    rcases List.mem_cons.mp hv with e | hv
    · subst e; exact ⟨_, (mv_key I h).1⟩
    · exact ih hv
theorem mvs_of : ∀ {K : PySem.W.Frag} (l : List (Addr × Mv)), (∀ p ∈ l, SqT K H p.1 (mvV p.2)) → Mvs K H (l.map (·.1)) (l.map (·.2))
  | _, [], _ => .nil
  | _, p :: r, h => .cons (h p List.mem_cons_self) (mvs_of r fun q hq => h q (List.mem_cons_of_mem _ hq))
theorem mvs_len {K : PySem.W.Frag} {qs : List Addr} {ms : List Mv} (h : Mvs K H qs ms) : qs.length = ms.length := Paired.length h
theorem perm_back {α β : Type} {F : α → β} {zs ws : List β} (h : zs.Perm ws) : ∀ L : List α, ws = L.map F → ∃ L' : List α, L'.Perm L ∧ L'.map F = zs := by
  induction h with
  | nil => intro L e; exact ⟨L, .refl _, e.symm⟩
  | cons x _ ih =>
    intro L e
    cases L with
    | nil => cases e
    | cons a L =>
      rw [List.map_cons] at e
      injection e with e1 e2
      obtain ⟨L', p, q⟩ := ih L e2
      exact ⟨a :: L', p.cons a, by rw [List.map_cons, q, e1]⟩
  | swap x y l =>
    intro L e
    match L, e with
    | [], e => cases e
    | [_], e => injection e with _ e; cases e
    | a :: b :: L, e =>
      rw [List.map_cons, List.map_cons] at e
      injection e with e1 e2
      injection e2 with e2 e3
      exact ⟨b :: a :: L, .swap a b L, by rw [List.map_cons, List.map_cons, ← e1, ← e2, ← e3]⟩
  | trans _ _ ih1 ih2 =>
    intro L e
    obtain ⟨L1, p1, q1⟩ := ih2 L e
    obtain ⟨L2, p2, q2⟩ := ih1 L1 q1.symm
    exact ⟨L2, p2.trans p1, q2⟩
theorem zip_refs : ∀ {qs : List Addr} {ms : List Mv}, qs.length = ms.length → (qs.map Value.ref).zip (qs.map Value.ref) = (qs.zip ms).map fun p => (Value.ref p.1, Value.ref p.1)
  | [], _, _ => by simp
  | a :: r, [], h => by simp at h
  | a :: r, m :: ms, h => by
    rw [List.map_cons, List.zip_cons_cons, List.zip_cons_cons, List.map_cons, zip_refs (qs := r) (ms := ms) (by simpa using h)]
/-- what comes of a sort -/
structure SortOut (K : PySem.W.Frag) (H : Hp) (qs : List Addr) (ms : List Mv) (os : List Addr) (ns : List Mv) : Prop where
  perm : (os.zip ns).Perm (qs.zip ms)
  mvs : Mvs K H os ns
  srt : ns.Pairwise fun a b => ¬ lt b a
theorem zip_map_self {α β γ : Type} (f : α → β) (g : α → γ) : ∀ l : List α, (l.map f).zip (l.map g) = l.map fun x => (f x, g x)
  | [] => rfl
  | a :: r => by rw [List.map_cons, List.map_cons, List.zip_cons_cons, List.map_cons, zip_map_self f g r]
theorem sort_out (I : Inv X pins σ H s) {h : Heap} (hh : ∀ q m, SqT X.K H q (mvV m) → G.tupKeyC h shp (.ref q) = some (keyL m)) {qs : List Addr} {ms : List Mv} (hm : Mvs X.K H qs ms) {st' : SortSt} (hp : (arrOf st').Perm (pairsOf (qs.map Value.ref)))
    (hs : SortedToK (G.tupKindC h shp) (arrOf st') (pairsOf (qs.map Value.ref)).size) : ∃ os ns, ((arrOf st').map (·.2)).toList = os.map Value.ref ∧ SortOut X.K H qs ms os ns := by
  have hl := Array.perm_iff_toList_perm.mp hp
  rw [pairsOf_toList, zip_refs (mvs_len hm)] at hl
  obtain ⟨L', p1, p2⟩ := perm_back hl (qs.zip ms) rfl
  have hmem : ∀ p ∈ L', SqT X.K H p.1 (mvV p.2) := fun p hp => mvs_mem hm p (p1.mem_iff.mp hp)
  refine ⟨L'.map (·.1), L'.map (·.2), ?_, ?_, mvs_of L' hmem, ?_⟩
  · rw [Array.toList_map, ← p2, List.map_map, List.map_map]
    rfl
  · rw [zip_map_self, show L'.map (fun x => (x.1, x.2)) = L' from List.map_id' L']
    exact p1
  · rw [List.pairwise_map, List.pairwise_iff_getElem]
    intro i j hi hj hij hlt
    have sz : (pairsOf (qs.map Value.ref)).size = L'.length := by
      rw [pairsOf_size, List.length_map, p1.length_eq, List.length_zip, mvs_len hm, Nat.min_self]
    have q := hs i j (Nat.le_of_lt hij) (by rw [sz]; exact hj)
    have kk : ∀ (k : Nat) (hk : k < L'.length), KK (G.tupKindC h shp) (arrOf st') k = keyL L'[k].2 := by
      intro k hk
      unfold KK
      have e : (arrOf st')[k]? = some (Value.ref L'[k].1, Value.ref L'[k].1) := by
        rw [← Array.getElem?_toList, ← p2, List.getElem?_map, List.getElem?_eq_getElem hk]
        rfl
      rw [e]
      show (G.tupKeyC h shp (Value.ref L'[k].1)).getD _ = _
      rw [hh _ _ (hmem _ (List.getElem_mem hk))]
      rfl
    rw [kk i hi, kk j hj] at q
    have q' : lexLt itemOrd (keyL L'[j].2) (keyL L'[i].2) = false := q
    rw [key_lt hlt] at q'
    cases q'
theorem refs_only : ∀ {qs : List Addr} {us : List Value}, Vals (qs.map V.ref) us → us = qs.map Value.ref
  | [], _, r => by cases r; rfl
  | a :: q, _, r => by
    rw [List.map_cons] at r
    cases r with
    | cons r1 r2 =>
      cases (show _ = Value.ref a from r1)
      rw [List.map_cons, refs_only r2]
def rSortMv (K : PySem.W.Frag) : List V → Hp → VK → Prop := fun vs H Q => ∃ (a : Addr) (qs : List Addr) (ms : List Mv), vs = [V.ref a] ∧ SqL K H a (qs.map V.ref) ∧ Mvs K H qs ms ∧
  ∀ p os ns, H p = none → SortOut K H qs ms os ns → Q (.ref p) (upd H p (.lst (os.map V.ref)))
theorem out_len {K : PySem.W.Frag} {qs os : List Addr} {ms ns : List Mv} (hm : Mvs K H qs ms) (h : SortOut K H qs ms os ns) : os.length = qs.length := by
  have e := h.perm.length_eq
  rw [List.length_zip, List.length_zip, mvs_len hm, ← mvs_len h.mvs, Nat.min_self, Nat.min_self, ← mvs_len hm] at e
  exact e
theorem cr_sortMv : CallR X (.builtin "sorted") (rSortMv X.K) := by
  intro pins s σ H vs us Q I r h
  obtain ⟨a, qs, ms, rfl, hs, hm, q⟩ := h
  obtain ⟨its, rv, hl, hz⟩ := I.list hs
  rw [Vals.ref1 r]
  have ei := refs_only rv
  subst ei
  rw [List.length_map] at hz
  obtain ⟨fs, ht⟩ := mvs_tups I hm
  refine G.sorted_tups hl.isList ht (mvs_keys I hm) (by rw [List.length_map]; exact hz) fun st' hp hst _ => ?_
  obtain ⟨os, ns, e1, so⟩ := sort_out I (fun q m hq => (mv_key I hq).1) hm hp hst
  obtain ⟨ep, he'⟩ := PyProof.Rows.sortedAll_at s.heap (qs.map Value.ref) ((arrOf st').map (·.2))
  have ea : (arrOf st').map (·.2) = (os.map Value.ref).toArray := by rw [← e1, Array.toArray_toList]
  have hlen : (os.map V.ref).length ≤ sizeLine := by rw [List.length_map, out_len hm so]; exact hz
  refine ⟨.ref (s.heap.objs.size + 1), upd H (s.heap.objs.size + 1) (.lst (os.map V.ref)), I.laid (t' := s.toks) (fun _ _ => PyProof.Rows.sortedAll_old) (Nat.le_succ _) ⟨hlen, os.map Value.ref, ep, vals_refs os, ?_⟩, rfl, q _ os ns (I.hok.fresh (Nat.le_succ _)) so⟩
  rw [ea] at he' ⊢
  exact he'
end

/-! ### sorted of a tuple of texts -/
theorem collect_tup {prog : Program} {w : World} {A : Around} {E : Value → Shared → Prop} {s : Shared} {t : Addr} {us : List Value} {Q : List Value → Shared → Prop} (ht : IsTup s.heap t us.toArray) (hz : us.length ≤ sizeLine)
    (k : Q us { s with heap := (s.heap.push (seqObj "list" #[] 0)).update s.heap.objs.size (Obj.mapSeq (· ++ us.toArray)) }) : wpAny (model prog w) A (collect (.ref t)) Q E s := by
  obtain ⟨ob, h1, h2, n, h3⟩ := ht
  have hnew : (s.heap.push (seqObj "list" #[] 0)).get? s.heap.objs.size = some (seqObj "list" #[] 0) := Heap.get?_push_size _ rfl
  have hold : (s.heap.push (seqObj "list" #[] 0)).get? t = some ob := Heap.get?_push_of_some _ h1
  unfold collect
  refine wpAny_bind (wpAny_runValue (codeAny_builtin entry_proto_collect' ?_))
  show wpAny _ _ (newList [] >>= fun l => again (.builtin "list.__iadd__" ⟨[l, .ref t], []⟩)) _ _ s
  refine wpAny_bind (wpAny_newList ?_)
  refine wpAny_pure ⟨Code.quiet_builtin _ (by decide +kernel), codeAny_builtin entry_list_iadd' ?_⟩
  show wpAny _ _ (Builtin.List.listExtendWith (.ref s.heap.objs.size) (.ref t) (.ref s.heap.objs.size)) _ _ ({ s with heap := s.heap.push (seqObj "list" #[] 0) } : Shared)
  unfold Builtin.List.listExtendWith
  refine wpAny_bind (wpAny_typeOf (T := "tuple") ⟨ob, hold, h2⟩ ?_)
  rw [if_pos (by rw [show (Value.type "tuple" == Value.type "tuple") = true by decide +kernel]; simp)]
  refine wpAny_bind (listItems_at hold h3 (wpAny_bind (listItems_at (xs := #[]) (n := 0) hnew rfl ?_)))
  rw [if_neg (by simp)]
  have hsz : ((#[] : Array Value) ++ us.toArray).size ≤ sizeLine + 1 := by
    simp only [Array.size_append, List.size_toArray, List.length_nil]
    omega
  refine wpAny_bind (listUpdate_at (xs := #[]) (n := 0) hnew rfl ?_ (Nat.zero_le _) hsz)
  refine wpAny_pure ?_
  refine wpAny_bind (wpAny_load (get?_update_seq hnew _) ?_)
  have e : ((#[] : Array Value) ++ us.toArray).toList = us := by simp
  show wpAny _ _ (pure ((#[] : Array Value) ++ us.toArray).toList) Q E _
  rw [e]
  exact wpAny_pure k
section
variable {X : Cx}
def rSortTS (K : PySem.W.Frag) : List V → Hp → VK → Prop := fun vs H Q => ∃ (a : Addr) (xs : List Str), vs = [V.ref a] ∧ SqT K H a (xs.map V.str) ∧ xs.length < 64 ∧
  ∀ (ys : List Str) (p : Addr), ys.Perm xs → sortedS ys = true → H p = none → Q (.ref p) (upd H p (.lst (ys.map V.str)))
theorem cr_sortTS : CallR X (.builtin "sorted") (rSortTS X.K) := by
  intro pins s σ H vs us Q I r h
  obtain ⟨a, xs, rfl, hs, h64, q⟩ := h
  obtain ⟨its, rv, ht, hz⟩ := I.tuple hs
  rw [Vals.ref1 r]
  have hn := rv.length
  rw [List.length_map] at hn hz
  have hS := rv.strs
  have hz' : its.length ≤ sizeLine := by rw [← hn]; exact hz
  refine Calls.call_function_entry PyProof.Rows.kind_sorted PyProof.Rows.plain_sorted PyProof.Rows.entry_sorted (PyProof.Rows.args_sorted1 _) ?_
  unfold Builtin.«sorted»
  refine wpAny_bind (m := checkCount "sorted" 1 1 _) (wpAny_pure (wpAny_bind (collect_tup ht hz' (wpAny_bind (wpAny_newList ?_)))))
  generalize hg : (s.heap.push (seqObj "list" #[] 0)).update s.heap.objs.size (Obj.mapSeq (· ++ its.toArray)) = g
  have gs : g.objs.size = s.heap.objs.size + 1 := by rw [← hg, Heap.size_update, size_push']
  have hoL : (g.push (seqObj "list" its.toArray 0)).get? (s.heap.objs.size + 1) = some (seqObj "list" its.toArray 0) := by
    rw [← gs]
    exact Heap.get?_push_size _ rfl
  show wpAny _ _ _ _ _ ({ s with heap := g.push (seqObj "list" its.toArray 0) } : Shared)
  dsimp only
  rw [gs]
  have h64' : its.length < 64 := by rw [← hn]; exact h64
  refine wpAny_bind (wpAny_holding (wpAny_call_entry PyProof.Rows.slot_list_sort ⟨_, hoL, rfl⟩ PyProof.Rows.entry_list_sort
    (list_sort_treeK (s := ({ s with heap := g.push (seqObj "list" its.toArray 0) } : Shared)) strKind_oneLt hoL hS.keysOf (fun v₁ v₂ rest e => keyKind_strs (by rw [← e]; exact hS)) h64' fun st' hp hst => ⟨_, rfl, wpAny_pure ⟨_, rfl, ?_⟩⟩) (PyProof.Rows.args_list_sort _)))
  obtain ⟨ys, g1, g2, g3⟩ := sorted_out_str hS hp hst
  obtain ⟨ep, he'⟩ := PyProof.Rows.sortedAll_at s.heap its ((arrOf st').map (·.2))
  have hlen : (ys.map V.str).length ≤ sizeLine := by rw [List.length_map, g2.length_eq]; exact small64 h64
  have hh : sortedHeap (g.push (seqObj "list" its.toArray 0)) (s.heap.objs.size + 1) its ((arrOf st').map (·.2)) = sortedAll s.heap its ((arrOf st').map (·.2)) := by rw [← hg]; rfl
  refine ⟨.ref (s.heap.objs.size + 1), upd H (s.heap.objs.size + 1) (.lst (ys.map V.str)), ?_, rfl, q ys _ g2 g3 (I.hok.fresh (Nat.le_succ _))⟩
  dsimp only
  rw [hh]
  refine I.laid (t' := s.toks) (fun _ _ => PyProof.Rows.sortedAll_old) (Nat.le_succ _) ⟨hlen, ((arrOf st').map (·.2)).toList, ep, vals_of_strs g1, ?_⟩
  rw [Array.toArray_toList]
  exact he'
end
end Ck
namespace Ck
open PySem PySem.Spec PyProof.Rows L2

/-! ### dicts whose keys are tuples that may stand in the module -/
abbrev Row := List Key × Addr × V
abbrev RowV := List Key × Addr × Value
def kvs (xs : List Row) : List (List Key × V) := xs.map fun x => (x.1, x.2.2)
abbrev RowsRel : List Row → List RowV → Prop := Paired fun (x : Row) (y : RowV) => x.1 = y.1 ∧ x.2.1 = y.2.1 ∧ RelV x.2.2 y.2.2
def RawT (P : Program) (w : World) (a : Addr) (xs : List Row) (h : Heap) : Prop :=
  (a == sysModules) = false ∧ xs.length ≤ sizeLine ∧ ∃ ys : List RowV, RowsRel xs ys ∧ ∃ o es ep, h.get? a = some o ∧ o.ExactDict ∧ o.data = .dict es ep ∧
    es.toList = ys.map (entryOfKey (tupleKind (mixKind P w))) ∧ (ys.map (·.1)).Nodup
def DG (P : Program) (w : World) (a : Addr) (xs : List Row) : HO := .ext (RawT P w a xs)
def KsOk (K : PySem.W.Frag) (H : Hp) (xs : List Row) : Prop := ∀ x ∈ xs, SqT K H x.2.1 (x.1.map kV)
theorem raw_ok {P : Program} {w : World} {H : Hp} {h : Heap} {a : Addr} {xs : List Row} (r : RawT P w a xs h) : ObjOk P w H h a (DG P w a xs) := by
  refine ⟨r, ?_, ?_⟩
  · obtain ⟨_, _, _, _, o, _, _, ho, _⟩ := r
    exact ⟨o, ho⟩
  · intro h1 h2 r1 k
    obtain ⟨a1, a2, ys, a3, o, es, ep, ho, a4⟩ := r1
    exact ⟨a1, a2, ys, a3, o, es, ep, k o ho, a4⟩
theorem rel_keys : ∀ {xs : List Row} {ys : List RowV}, RowsRel xs ys → xs.map (·.1) = ys.map (·.1)
  | _, _, .nil => rfl
  | _, _, .cons h r => by rw [List.map_cons, List.map_cons, h.1, rel_keys r]
theorem rel_addrs : ∀ {xs : List Row} {ys : List RowV}, RowsRel xs ys → xs.map (·.2.1) = ys.map (·.2.1)
  | _, _, .nil => rfl
  | _, _, .cons h r => by rw [List.map_cons, List.map_cons, h.2.1, rel_addrs r]
theorem rel_get {k : List Key} : ∀ {xs : List Row} {ys : List RowV}, RowsRel xs ys → RelO (valV (kvs xs) k) ((atKey ys k).map (·.2))
  | _, _, .nil => True.intro
  | _, _, @Paired.cons _ _ _ x y xs ys h r => by
    by_cases e : x.1 = k
    · have e' : y.1 = k := h.1.symm.trans e
      have b : atKey (y :: ys) k = some y.2 := by simp [atKey, List.find?_cons, e']
      have a : valV (kvs (x :: xs)) k = some x.2.2 := valV_pos (p := (x.1, x.2.2)) e
      rw [a, b]
      exact h.2.2
    · have e' : ¬ y.1 = k := fun z => e (h.1.trans z)
      have b : atKey (y :: ys) k = atKey ys k := by simp [atKey, List.find?_cons, e']
      have a : valV (kvs (x :: xs)) k = valV (kvs xs) k := valV_neg (p := (x.1, x.2.2)) e
      rw [a, b]
      exact rel_get r
theorem rel_snoc {xs : List Row} {ys : List RowV} (r : RowsRel xs ys) {k : List Key} {b : Addr} {v : V} {u : Value} (rv : RelV v u) : RowsRel (xs ++ [(k, b, v)]) (ys ++ [(k, b, u)]) :=
  Paired.snoc r ⟨rfl, rfl, rv⟩
section
variable {X : Cx} {pins : List (Addr × Obj)} {σ : L2.St} {H : Hp} {s : Shared} {a b : Addr} {xs : List Row} {k : List Key} {A : Around} {E : Value → Shared → Prop}
theorem key_is (I : Inv X pins σ H s) (h : SqT X.K H b (k.map kV)) : (tupleKind (mixKind X.prog X.w)).is s.heap k b := by
  obtain ⟨us, r, ⟨o, ho, hc, n, hd⟩, _⟩ := I.tuple h
  exact ⟨o, us.toArray, n, ho, hc, hd, by simpa using items_are r⟩
theorem dg_of (I : Inv X pins σ H s) (e : H a = some (DG X.prog X.w a xs)) (ks : KsOk X.K H xs) : (a == sysModules) = false ∧ xs.length ≤ sizeLine ∧ ∃ ys, RowsRel xs ys ∧ s.heap.DictOfH (tupleKind (mixKind X.prog X.w)) a ys := by
  obtain ⟨⟨h1, h2, ys, rel, o, es, ep, ho, hx, hd, he, hn⟩, stb⟩ := I.hok a _ e
  clear stb
  refine ⟨h1, h2, ys, rel, o, es, ep, ho, hx, hd, he, ?_, hn⟩
  clear he hn ho h2 e
  induction rel with
  | nil => intro x hx; exact nomatch hx
  | cons hr t ih =>
    intro y hy
    rcases List.mem_cons.mp hy with e | hy
    · subst e
      have q := ks _ List.mem_cons_self
      rw [hr.1, hr.2.1] at q
      exact key_is I q
    · exact ih (fun x hx => ks x (List.mem_cons_of_mem _ hx)) y hy
def rGIn (P : Program) (w : World) (K : PySem.W.Frag) (neg : Bool) : R2 := fun x y H Q => ∃ (a b : Addr) (xs : List Row) (k : List Key), x = .ref b ∧ y = .ref a ∧ H a = some (DG P w a xs) ∧ KsOk K H xs ∧ SqT K H b (k.map kV) ∧
  Q (.bl (if neg then !(valV (kvs xs) k).isSome else (valV (kvs xs) k).isSome)) H
theorem op_gin (hu : X.A.units + 1 < cLine) : OpR X (compareOp .In) (rGIn X.prog X.w X.K false) := by
  intro pins s σ H x y v u Q I rx ry h
  obtain ⟨a, b, xs, k, rfl, rfl, e, ks, kb, q⟩ := h
  cases rx
  cases ry
  obtain ⟨hd, z, ys, rel, dd⟩ := dg_of I e ks
  refine wpAny_in_heap (tupleKind_room_in1 hu) (key_is I kb) hd dd ?_
  have qq := (rel_get (k := k) rel).isSome_eq
  rw [Option.isSome_map] at qq
  rw [← qq]
  exact ⟨.bl _, H, I.tok _, rfl, q⟩
theorem op_gnot (hu : X.A.units + 1 < cLine) : OpR X (compareOp .NotIn) (rGIn X.prog X.w X.K true) := by
  intro pins s σ H x y v u Q I rx ry h
  obtain ⟨a, b, xs, k, rfl, rfl, e, ks, kb, q⟩ := h
  cases rx
  cases ry
  obtain ⟨hd, z, ys, rel, dd⟩ := dg_of I e ks
  refine wpAny_notIn_heap (tupleKind_room_in1 hu) (key_is I kb) hd dd ?_
  have qq := (rel_get (k := k) rel).isSome_eq
  rw [Option.isSome_map] at qq
  rw [← qq]
  exact ⟨.bl _, H, I.tok _, rfl, q⟩
def rGGet (P : Program) (w : World) (K : PySem.W.Frag) : R2 := fun x y H Q => ∃ (a b : Addr) (xs : List Row) (k : List Key) (v : V), x = .ref a ∧ y = .ref b ∧ H a = some (DG P w a xs) ∧ KsOk K H xs ∧ SqT K H b (k.map kV) ∧
  valV (kvs xs) k = some v ∧ Q v H
theorem ix_gget (hu : X.A.units + 1 < cLine) : IxR X (rGGet X.prog X.w X.K) := by
  intro value slice pins s σ H x y v u Q I rx ry h hs
  obtain ⟨a, b, xs, k, r, rfl, rfl, e, ks, kb, hv, q⟩ := h
  cases rx
  cases ry
  obtain ⟨hd, z, ys, rel, dd⟩ := dg_of I e ks
  obtain ⟨w', hw, rw'⟩ := RelO.some_of (v := r) (o := (atKey ys k).map (·.2)) (by rw [← hv]; exact rel_get rel)
  obtain ⟨p, hp, hp2⟩ := Option.map_eq_some_iff.mp hw
  refine tail_any dd.typeIs slot_dict_getitem.lookup (wpAny_getItem_heap (tupleKind_room_in1 hu) (key_is I kb) dd hp ?_) hs
  rw [hp2]
  exact ⟨r, H, I.tok _, rw', q⟩
/-- a new key is put -/
def rGPut (P : Program) (w : World) (K : PySem.W.Frag) : TSet := fun x y v H Q => ∃ (a b : Addr) (xs : List Row) (k : List Key), x = .ref a ∧ y = .ref b ∧ H a = some (DG P w a xs) ∧ KsOk K H xs ∧ SqT K H b (k.map kV) ∧
  valV (kvs xs) k = none ∧ xs.length < sizeLine ∧ Q (upd H a (DG P w a (xs ++ [(k, b, v)])))
theorem set_gput (hu : X.A.units + 1 < cLine) : PSet X (rGPut X.prog X.w X.K) := by
  intro pins s σ H x y r v u wv Q I rx ry rr h
  obtain ⟨a, b, xs, k, rfl, rfl, e, ks, kb, hv, hl, q⟩ := h
  cases rx
  cases ry
  obtain ⟨hd, z, ys, rel, dd⟩ := dg_of I e ks
  have hz : ys.length ≤ sizeLine := by rw [← Paired.length rel]; exact z
  have hn : atKey ys k = none := by
    have q1 := (rel_get (k := k) rel).isSome_eq
    rw [hv, Option.isSome_map] at q1
    cases hq : atKey ys k with
    | none => rfl
    | some _ => rw [hq] at q1; cases q1
  refine wpAny_setItem_heap (hsz := hz) (tupleKind_room_in1 hu) (key_is I kb) dd fun h' dd' hs => ⟨upd H a (DG X.prog X.w a (xs ++ [(k, b, r)])), ?_, q⟩
  rw [storedH_new hn] at dd'
  obtain ⟨o, es, ep, h1, h2, h3, h4, _, h5⟩ := dd'
  refine d_write I (by rw [e]; exact True.intro) hs ⟨o, h1⟩ (raw_ok ⟨hd, ?_, _, rel_snoc rel rr, o, es, ep, h1, h2, h3, h4, h5⟩)
  rw [List.length_append]
  exact hl
/-- {k: v}, k a tuple -/
def tDisp1 (P : Program) (w : World) (K : PySem.W.Frag) (tk tv : TE) : TE := fun σ H Q => ∀ p, H p = none → tk σ (upd H p (DG P w p [])) fun x H1 => tv σ H1 fun y H2 => H2 p = some (DG P w p []) ∧
  ∃ (b : Addr) (k : List Key), x = .ref b ∧ SqT K H2 b (k.map kV) ∧ Q (.ref p) (upd H2 p (DG P w p [(k, b, y)]))
theorem pe_disp1 {ke ve : Expr} {pos : Pos} {tk tv : TE} (hu : X.A.units + 1 < cLine) (hk : PE X ke tk) (hv : PE X ve tv) : PE X (.Dict [some ke] [ve] pos) (tDisp1 X.prog X.w X.K tk tv) := by
  refine ⟨fun pins s σ H Q I q => ?_⟩
  have hn := I.hok.fresh (Nat.le_refl s.heap.objs.size)
  have hnew : (s.heap.push { cls := .type "dict", data := .dict #[] }).get? s.heap.objs.size = some { cls := .type "dict", data := .dict #[] } := Heap.get?_push_size _ rfl
  have hsm : (s.heap.objs.size == sysModules) = false := beq_eq_false_iff_ne.mpr (Nat.ne_of_gt I.big)
  have I1 := I.laid (a := s.heap.objs.size) (o := DG X.prog X.w s.heap.objs.size []) (h' := s.heap.push { cls := .type "dict", data := .dict #[] }) (t' := s.toks) (fun _ _ q => Heap.get?_push_of_some _ q) (Nat.le_refl _)
    (raw_ok ⟨hsm, Nat.zero_le _, [], .nil, _, #[], 0, hnew, ⟨rfl, rfl, rfl⟩, rfl, rfl, List.nodup_nil⟩)
  rw [arm_eval_Dict, zip_pairTrees [some ke] [ve] X.env pos rfl rfl, dictDisplay_pairs (pairTrees [some ke] [ve] X.env pos) (by intro e; cases e) (by show 1 < 17; decide)]
  refine wpAny_bind (wpAny_standAt (wpAny_bind (wpAny_subDictH (knd := tupleKind (mixKind X.prog X.w)) (Q := fun d s' => wpAny (model X.prog X.w) X.A (pure (Value.ref d)) (EP X pins σ Q) X.xe s') (show X.A.units < cLine from Nat.lt_of_succ_lt hu) (by show 1 ≤ 15; decide) ?_)))
  refine pairTrees_cons_walk (thn (hk.run pins _ σ _ _ I1 (q _ hn)) fun u s1 ⟨x, H1, J1, rx, q1⟩ => thn (hv.run pins s1 σ H1 _ J1 q1) fun w2 s2 ⟨y, H2, J2, ry, e2, b, k, ex, kb, q2⟩ => pairTrees_nil_walk ?_)
  subst ex
  cases rx
  obtain ⟨_, _, ys, rel, dd⟩ := dg_of J2 e2 (fun x hx => nomatch hx)
  cases rel
  refine ⟨[(k, b, w2)], ⟨rfl, rfl, key_is J2 kb, True.intro⟩, dd, fun h' tk dk hs => wpAny_pure ⟨.ref s.heap.objs.size, upd H2 s.heap.objs.size (DG X.prog X.w s.heap.objs.size [(k, b, y)]), ?_, rfl, q2⟩⟩
  obtain ⟨o, es, ep, h1, h2, h3, h4, _, h5⟩ := (show h'.DictOfH (tupleKind (mixKind X.prog X.w)) s.heap.objs.size [(k, b, w2)] from dk)
  exact d_write J2 (by rw [e2]; exact True.intro) hs ⟨o, h1⟩ (raw_ok ⟨hsm, (by show 1 ≤ sizeLine; decide), _, .cons ⟨rfl, rfl, ry⟩ .nil, o, es, ep, h1, h2, h3, h4, h5⟩)
/-- sorted(d), the keys movements -/
def rSortG (P : Program) (w : World) (K : PySem.W.Frag) : List V → Hp → VK → Prop := fun vs H Q => ∃ (a : Addr) (xs : List Row) (ms : List Mv), vs = [V.ref a] ∧ H a = some (DG P w a xs) ∧ Mvs K H (xs.map (·.2.1)) ms ∧ xs.map (·.1) = ms.map mvK ∧
  ∀ p os ns, H p = none → SortOut K H (xs.map (·.2.1)) ms os ns → Q (.ref p) (upd H p (.lst (os.map V.ref)))
theorem mvs_ks {K : PySem.W.Frag} {H : Hp} : ∀ {xs : List Row} {ms : List Mv}, Mvs K H (xs.map (·.2.1)) ms → xs.map (·.1) = ms.map mvK → KsOk K H xs
  | [], _, _, _ => fun x hx => nomatch hx
  | x :: xs, [], h, _ => by cases h
  | x :: xs, m :: ms, h, e => by
    rw [List.map_cons] at h
    rw [List.map_cons, List.map_cons] at e
    injection e with e1 e2
    cases h with
    | cons h1 h2 =>
      intro y hy
      rcases List.mem_cons.mp hy with ey | hy
      · subst ey
        rw [e1]
        exact h1
      · exact mvs_ks h2 e2 y hy
theorem cr_sortG (hc : X.calm = true) : CallR X (.builtin "sorted") (rSortG X.prog X.w X.K) := by
  intro pins s σ H vs us Q I r h
  obtain ⟨a, xs, ms, rfl, e, hm, hk, q⟩ := h
  rw [Vals.ref1 r]
  have ks := mvs_ks hm hk
  obtain ⟨lo, z, ys, rel, o, es, ep, ho, hx, hd, he, his, hn⟩ := dg_of I e ks
  have l1 : es.size = ys.length := size_of_entries he
  have l2 : xs.length = ys.length := Paired.length rel
  have hz : es.size ≤ sizeLine := by rw [l1, ← l2]; exact z
  refine Calls.call_function_entry PyProof.Rows.kind_sorted PyProof.Rows.plain_sorted PyProof.Rows.entry_sorted (PyProof.Rows.args_sorted1 _) ?_
  unfold Builtin.«sorted»
  refine wpAny_bind (m := checkCount "sorted" 1 1 _) (wpAny_pure (wpAny_bind (PySem.W.kdu_collect (A := X.A.in1) (kdl_raw lo hx hd) (I.ok.hd hc) ho hz fun g tk acc kp it => ?_)))
  have ea : acc.toList = (xs.map (·.2.1)).map Value.ref := by
    rw [rel_addrs rel, List.map_map]
    have hl : acc.toList.length = ys.length := by rw [Array.length_toList, it.1]; exact l1
    apply List.ext_getElem?
    intro j
    rw [List.getElem?_map]
    cases hj : acc.toList[j]? with
    | none =>
      have h1 := List.getElem?_eq_none_iff.mp hj
      rw [List.getElem?_eq_none (by omega)]
      rfl
    | some v =>
      obtain ⟨en, hen, hv⟩ := it.2 j v (by rw [← Array.getElem?_toList]; exact hj)
      have qe := entry_at he j
      rw [hen] at qe
      cases hb : ys[j]? with
      | none =>
        rw [hb] at qe
        cases qe
      | some c =>
        rw [hb] at qe
        have e2 : en = entryOfKey (tupleKind (mixKind X.prog X.w)) c := Option.some.inj qe
        rw [hv, e2]
        rfl
  rw [ea]
  generalize hqs : xs.map (·.2.1) = qs at hm q
  have I1 : Inv X pins σ H { s with heap := g, toks := tk } := I.kept kp
  have hql : (qs.map Value.ref).length ≤ sizeLine := by rw [List.length_map, ← hqs, List.length_map]; exact z
  refine wpAny_bind (wpAny_newList ?_ hql)
  have hoL : (g.push (seqObj "list" (qs.map Value.ref).toArray 0)).get? g.objs.size = some (seqObj "list" (qs.map Value.ref).toArray 0) := Heap.get?_push_size _ rfl
  have k2 : ∀ b u, g.get? b = some u → (g.push (seqObj "list" (qs.map Value.ref).toArray 0)).get? b = some u := fun b u q => Heap.get?_push_of_some _ q
  have I2 : Inv X pins σ H { s with heap := g.push (seqObj "list" (qs.map Value.ref).toArray 0), toks := tk } := I1.kept k2
  show wpAny _ _ _ _ _ ({ s with heap := g.push (seqObj "list" (qs.map Value.ref).toArray 0), toks := tk } : Shared)
  obtain ⟨fs, ht⟩ := mvs_tups I2 hm
  refine wpAny_bind (wpAny_holding (wpAny_call_entry PyProof.Rows.slot_list_sort ⟨_, hoL, rfl⟩ PyProof.Rows.entry_list_sort
    (G.list_sort_tups (s := ({ s with heap := g.push (seqObj "list" (qs.map Value.ref).toArray 0), toks := tk } : Shared)) hoL ht (mvs_keys I2 hm) hql fun st' hp hst _ => ⟨_, rfl, wpAny_pure ⟨_, rfl, ?_⟩⟩) (PyProof.Rows.args_list_sort _)))
  obtain ⟨os, ns, e1, so⟩ := sort_out I2 (fun q m hq => (mv_key I2 hq).1) hm hp hst
  obtain ⟨ep', he'⟩ := PyProof.Rows.sortedHeap_at (vs := qs.map Value.ref) (out := (arrOf st').map (·.2)) hoL
  have eq2 : (arrOf st').map (·.2) = (os.map Value.ref).toArray := by rw [← e1, Array.toArray_toList]
  have hlen : (os.map V.ref).length ≤ sizeLine := by rw [List.length_map, out_len hm so, ← List.length_map (f := Value.ref)]; exact hql
  refine ⟨.ref g.objs.size, upd H g.objs.size (.lst (os.map V.ref)), I1.laid (t' := tk) (fun b u e => ?_) (Nat.le_refl _) ⟨hlen, os.map Value.ref, ep', vals_refs os, ?_⟩, rfl, q _ os ns (I1.hok.fresh (Nat.le_refl _)) so⟩
  · have hb : b < g.objs.size := Heap.lt_size e
    rw [PyProof.Rows.sortedHeap_old (Nat.ne_of_lt hb) (by rw [size_push']; exact Nat.lt_succ_of_lt hb)]
    exact k2 b u e
  · rw [eq2] at he' ⊢
    exact he'
end
end Ck
namespace Ck
open PySem PySem.Spec PyProof.Rows L2
/-! ### the text -/
def topS (i : Nat) : Stmt := PySem.Challenge.pw_carpetkin_k45_whole_all_by_few.main.body.getD i (.Pass ⟨0, 0, 0, 0⟩)
abbrev t_tp : Stmt := topS 3
abbrev n_tp : List Str := ["way", "place", "a", "b", "c", "d"]
abbrev p_tp : List Str := ["way", "place"]
theorem sc_tp : FnScope n_tp p_tp (defScope t_tp) := ⟨rfl, rfl, rfl, by decide +kernel, rfl, by decide +kernel, by decide +kernel⟩
abbrev t_led : Stmt := topS 4
abbrev n_led : List Str := ["n", "movement", "place", "r", "c"]
abbrev p_led : List Str := ["n", "movement", "place"]
theorem sc_led : FnScope n_led p_led (defScope t_led) := ⟨rfl, rfl, rfl, by decide +kernel, rfl, by decide +kernel, by decide +kernel⟩
abbrev t_mov : Stmt := topS 5
abbrev n_mov : List Str := ["carpet", "movement", "n", "found", "r", "c"]
abbrev p_mov : List Str := ["carpet", "movement"]
theorem sc_mov : FnScope n_mov p_mov (defScope t_mov) := ⟨rfl, rfl, rfl, by decide +kernel, rfl, by decide +kernel, by decide +kernel⟩
abbrev t_wof : Stmt := topS 6
abbrev n_wof : List Str := ["signs", "way"]
abbrev p_wof : List Str := ["signs"]
theorem sc_wof : FnScope n_wof p_wof (defScope t_wof) := ⟨rfl, rfl, rfl, by decide +kernel, rfl, by decide +kernel, by decide +kernel⟩
abbrev t_then : Stmt := topS 7
abbrev n_then : List Str := ["n", "one", "other", "a", "b", "c", "d", "e", "f", "g", "h", "way", "down", "right"]
abbrev p_then : List Str := ["n", "one", "other"]
theorem sc_then : FnScope n_then p_then (defScope t_then) := ⟨rfl, rfl, rfl, by decide +kernel, rfl, by decide +kernel, by decide +kernel⟩
abbrev t_alm : Stmt := topS 8
abbrev n_alm : List Str := ["n", "found", "way", "down", "right"]
abbrev p_alm : List Str := ["n"]
theorem sc_alm : FnScope n_alm p_alm (defScope t_alm) := ⟨rfl, rfl, rfl, by decide +kernel, rfl, by decide +kernel, by decide +kernel⟩
abbrev t_lvs : Stmt := topS 10
abbrev n_lvs : List Str := ["carpet", "movement"]
abbrev p_lvs : List Str := ["carpet", "movement"]
theorem sc_lvs : FnScope n_lvs p_lvs (defScope t_lvs) := ⟨rfl, rfl, rfl, by decide +kernel, rfl, by decide +kernel, by decide +kernel⟩
abbrev t_unl : Stmt := topS 11
abbrev n_unl : List Str := ["carpet", "movement", "other", "r", "c"]
abbrev p_unl : List Str := ["carpet", "movement"]
theorem sc_unl : FnScope n_unl p_unl (defScope t_unl) := ⟨rfl, rfl, rfl, by decide +kernel, rfl, by decide +kernel, by decide +kernel⟩
abbrev t_lvg : Stmt := topS 12
abbrev n_lvg : List Str := ["carpet", "movement"]
abbrev p_lvg : List Str := ["carpet"]
theorem sc_lvg : FnScope n_lvg p_lvg (defScope t_lvg) := ⟨rfl, rfl, rfl, by decide +kernel, rfl, by decide +kernel, by decide +kernel⟩
abbrev t_made : Stmt := topS 14
abbrev n_made : List Str := ["n", "movements", "first", "found", "waiting", "one", "other", "more"]
abbrev p_made : List Str := ["n", "movements"]
theorem sc_made : FnScope n_made p_made (defScope t_made) := ⟨rfl, rfl, rfl, by decide +kernel, rfl, by decide +kernel, by decide +kernel⟩
abbrev t_few : Stmt := topS 17
abbrev n_few : List Str := ["n", "movements", "few", "known", "movement"]
abbrev p_few : List Str := ["n", "movements"]
theorem sc_few : FnScope n_few p_few (defScope t_few) := ⟨rfl, rfl, rfl, by decide +kernel, rfl, by decide +kernel, by decide +kernel⟩
abbrev t_rows : Stmt := topS 18
abbrev n_rows : List Str := ["n", "movements", "found", "row", "at", "place", "movement", "more"]
abbrev p_rows : List Str := ["n", "movements"]
theorem sc_rows : FnScope n_rows p_rows (defScope t_rows) := ⟨rfl, rfl, rfl, by decide +kernel, rfl, by decide +kernel, by decide +kernel⟩
abbrev t_cell : Stmt := topS 20
abbrev n_cell : List Str := ["_law_script", "_law_k"]
abbrev p_cell : List Str := ["_law_script", "_law_k"]
theorem sc_cell : FnScope n_cell p_cell (defScope t_cell) := ⟨rfl, rfl, rfl, by decide +kernel, rfl, by decide +kernel, by decide +kernel⟩
abbrev t_mix : Stmt := topS 21
abbrev n_mix : List Str := ["_law_cell", "_law_k"]
abbrev p_mix : List Str := ["_law_cell", "_law_k"]
theorem sc_mix : FnScope n_mix p_mix (defScope t_mix) := ⟨rfl, rfl, rfl, by decide +kernel, rfl, by decide +kernel, by decide +kernel⟩
abbrev t_pln : Stmt := topS 22
abbrev n_pln : List Str := ["_law_way", "_law_r", "_law_c"]
abbrev p_pln : List Str := ["_law_way", "_law_r", "_law_c"]
theorem sc_pln : FnScope n_pln p_pln (defScope t_pln) := ⟨rfl, rfl, rfl, by decide +kernel, rfl, by decide +kernel, by decide +kernel⟩
abbrev t_plc : Stmt := topS 23
abbrev n_plc : List Str := ["_law_n", "_law_movement_here", "_law_place_here", "_law_r", "_law_c"]
abbrev p_plc : List Str := ["_law_n", "_law_movement_here", "_law_place_here"]
theorem sc_plc : FnScope n_plc p_plc (defScope t_plc) := ⟨rfl, rfl, rfl, by decide +kernel, rfl, by decide +kernel, by decide +kernel⟩
abbrev t_lmv : Stmt := topS 24
abbrev n_lmv : List Str := ["_law_n", "_law_number", "_law_way"]
abbrev p_lmv : List Str := ["_law_n", "_law_number"]
theorem sc_lmv : FnScope n_lmv p_lmv (defScope t_lmv) := ⟨rfl, rfl, rfl, by decide +kernel, rfl, by decide +kernel, by decide +kernel⟩
abbrev t_lal : Stmt := topS 25
abbrev n_lal : List Str := ["_law_n", "_law_found", "_law_way", "_law_r", "_law_c"]
abbrev p_lal : List Str := ["_law_n"]
theorem sc_lal : FnScope n_lal p_lal (defScope t_lal) := ⟨rfl, rfl, rfl, by decide +kernel, rfl, by decide +kernel, by decide +kernel⟩
abbrev t_roots : Stmt := topS 26
abbrev n_roots : List Str := ["_law_n", "_law_wish", "_law_roots_here", "_law_r", "_law_c", "_law_waiting", "_law_here", "_law_movement_here", "_law_there"]
abbrev p_roots : List Str := ["_law_n", "_law_wish"]
theorem sc_roots : FnScope n_roots p_roots (defScope t_roots) := ⟨rfl, rfl, rfl, by decide +kernel, rfl, by decide +kernel, by decide +kernel⟩
abbrev t_carp : Stmt := topS 27
abbrev n_carp : List Str := ["_law_script", "_law_most", "_law_n", "_law_wish", "_law_k", "_law_roots_here", "_law_letters", "_law_rows", "_law_r", "_law_row", "_law_c", "_law_at", "_law_number"]
abbrev p_carp : List Str := ["_law_script", "_law_most"]
theorem sc_carp : FnScope n_carp p_carp (defScope t_carp) := ⟨rfl, rfl, rfl, by decide +kernel, rfl, by decide +kernel, by decide +kernel⟩
abbrev t_ledto : Stmt := topS 28
abbrev n_ledto : List Str := ["_law_carpet_here", "_law_movement_here", "_law_n", "_law_found", "_law_r", "_law_c"]
abbrev p_ledto : List Str := ["_law_carpet_here", "_law_movement_here"]
theorem sc_ledto : FnScope n_ledto p_ledto (defScope t_ledto) := ⟨rfl, rfl, rfl, by decide +kernel, rfl, by decide +kernel, by decide +kernel⟩
abbrev t_left : Stmt := topS 29
abbrev n_left : List Str := ["_law_carpet_here", "_law_movement_here", "_law_n", "_law_r", "_law_c", "_law_r_to", "_law_c_to"]
abbrev p_left : List Str := ["_law_carpet_here", "_law_movement_here"]
theorem sc_left : FnScope n_left p_left (defScope t_left) := ⟨rfl, rfl, rfl, by decide +kernel, rfl, by decide +kernel, by decide +kernel⟩
abbrev t_beh : Stmt := topS 30
abbrev n_beh : List Str := ["_law_n", "_law_one", "_law_other", "_law_place_here", "_law_way", "_law_r", "_law_c"]
abbrev p_beh : List Str := ["_law_n", "_law_one", "_law_other"]
theorem sc_beh : FnScope n_beh p_beh (defScope t_beh) := ⟨rfl, rfl, rfl, by decide +kernel, rfl, by decide +kernel, by decide +kernel⟩
abbrev t_come : Stmt := topS 31
abbrev n_come : List Str := ["_law_n", "_law_some", "_law_found", "_law_waiting", "_law_here", "_law_movement_here", "_law_there"]
abbrev p_come : List Str := ["_law_n", "_law_some"]
theorem sc_come : FnScope n_come p_come (defScope t_come) := ⟨rfl, rfl, rfl, by decide +kernel, rfl, by decide +kernel, by decide +kernel⟩
abbrev t_law : Stmt := topS 32
abbrev n_law : List Str := ["_law_script", "_law_carpet_here", "_law_n", "_law_found", "_law_few", "_law_rows", "_law_movement_here", "_law_here", "_law_place_here", "_law_k", "_law_left_here", "_law_r", "_law_c"]
abbrev p_law : List Str := ["_law_script"]
theorem sc_law : FnScope n_law p_law (defScope t_law) := ⟨rfl, rfl, rfl, by decide +kernel, rfl, by decide +kernel, by decide +kernel⟩
/-! ### a def of the module -/
structure Df (K : PySem.W.Frag) (mg : Str → Option Value) (x : Str) (st : Stmt) (ps : List Str) : Prop where
  ex : ∃ (f : Addr) (fd : FuncData), L2.Fun K x x st f fd ∧ mg x = some (.ref f) ∧ Binds K fd ps []
abbrev Cal := C8.Cal
section
variable {P : Program} {w : World} {K : PySem.W.Frag} {mg : Str → Option Value} {base : Heap}
theorem Cal.mono {j k : Nat} {x : Str} {sp : Sp} (c : Cal P w K mg base j x sp []) (h : j ≤ k) : Cal P w K mg base k x sp [] := by
  obtain ⟨f, fd, ps, ds, F, r⟩ := c.ex
  exact ⟨f, fd, ps, ds, F.mono h, r⟩
theorem Df.cal {x : Str} {st : Stmt} {N ps : List Str} {k : Nat} {sp : Sp} (D : Df K mg x st ps) (S : FnScope N ps (defScope st)) (len : ∀ vs H Q E, sp vs H Q E → vs.length = ps.length)
    (body : ∀ (f : Addr) (cdv : Value) (A : Around) (outer : List Env) (s : Shared) (H : Hp) (vs : List V) (Q : VK) (E : XK), Room k (A.deeper (envOfC x (defScope st) s.heap.objs.size f cdv)) → sp vs H Q E →
      ∃ t, PSs (cxOf CX0 P w K mg base N x (defScope st) f cdv A outer s H E).nox (defBody st) t ∧ t { nx := fun _ H' => Q .non H', rt := Q } (start N vs) H) : Cal P w K mg base (k + 1) x sp [] := by
  obtain ⟨f, fd, F, g, b⟩ := D.ex
  exact ⟨f, fd, ps, [], F.ok S len (body f), g, F.kp, b, .nil⟩
end
theorem hu65 {A : Around} {k : Nat} (hr : Room k A) : A.units + 65 < cLine := by have := hr.un; omega

/-! ### what stands in the module -/
/-- a tuple of the written part -/
def KTup (K : PySem.W.Frag) (a : Addr) (xs : List V) : Prop := ∃ (o : Obj) (its : Array Value) (n : Nat), K.lookup a = some o ∧ o.cls = .type "tuple" ∧ o.data = .seq its n ∧ its.size ≤ sizeLine ∧ Vals xs its.toList
theorem KTup.sq {K : PySem.W.Frag} {a : Addr} {xs : List V} (h : KTup K a xs) (H : Hp) : SqT K H a xs := .inr h
def sgV (w : W8) : List V := [.int (sg w).a, .int (sg w).b, .int (sg w).c, .int (sg w).d]
def waysV : List W8 := [.stay, .turn, .half, .back, .side, .flip, .cross, .other]
structure Tx (K : PySem.W.Frag) (w : World) (mg : Str → Option Value) : Prop where
  len : mg "len" = none
  range : mg "range" = none
  tuple : mg "tuple" = none
  sorted : mg "sorted" = none
  list : mg "list" = none
  enumerate : mg "enumerate" = none
  ways : ∃ a, mg "WAYS" = some (.ref a) ∧ KTup K a (waysV.map fun w => .str (wn w))
  signs : ∃ a, mg "SIGNS" = some (.ref a) ∧ ∀ w8, ∃ q, KDct K w a (wn w8) (.ref q) ∧ KTup K q (sgV w8)
  stay : ∃ a, mg "STAY" = some (.ref a) ∧ KTup K a (mvV e0)

/-! ### shapes of promises -/
open Evl (Ex)
/-- a new tuple -/
def RetT (xs : List V) (H : Hp) (Q : VK) : Prop := ∀ p H', Ex H H' → H' p = some (.tup xs) → Q (.ref p) H'
/-- a value -/
def RetV (v : V) (H : Hp) (Q : VK) : Prop := ∀ H', Ex H H' → Q v H'
/-- a new list of movements -/
def RetM (K : PySem.W.Frag) (ms : List Mv) (H : Hp) (Q : VK) : Prop := ∀ p qs H', Ex H H' → H p = none → H' p = some (.lst (qs.map V.ref)) → Mvs K H' qs ms → Q (.ref p) H'
theorem mvs_ex {K : PySem.W.Frag} {H H' : Hp} (e : Ex H H') : ∀ {qs : List Addr} {ms : List Mv}, Mvs K H qs ms → Mvs K H' qs ms
  | _, _, .nil => .nil
  | _, _, .cons h r => .cons (Evl.ex_t e h) (mvs_ex e r)
theorem ks_ex {K : PySem.W.Frag} {H H' : Hp} {xs : List Row} (e : Ex H H') (h : KsOk K H xs) : KsOk K H' xs := fun x hx => Evl.ex_t e (h x hx)
/-- what cannot change -/
def Sx (H H' : Hp) : Prop := ∀ a o, ¬ Mut (some o) → H a = some o → H' a = some o
theorem Sx.refl (H : Hp) : Sx H H := fun _ _ _ h => h
theorem Sx.trans {H H1 H2 : Hp} (a : Sx H H1) (b : Sx H1 H2) : Sx H H2 := fun x o n h => b x o n (a x o n h)
theorem Sx.of {H H' : Hp} (e : Ex H H') : Sx H H' := fun a o _ h => e a o h
theorem Sx.upd {H : Hp} {p : Addr} {o u : HO} (h : H p = some u) (m : Mut (some u)) : Sx H (upd H p o) := fun a o' n e => by
  have ne : a ≠ p := fun z => by
    subst z
    rw [h] at e
    cases e
    exact n m
  rw [upd_ne ne]
  exact e
theorem sx_t {K : PySem.W.Frag} {H H' : Hp} {a : Addr} {xs : List V} (e : Sx H H') (h : SqT K H a xs) : SqT K H' a xs := by
  rcases h with (h | ⟨o, h⟩) | h
  · exact .inl (.inl (e _ _ (fun z => z) h))
  · exact .inl (.inr ⟨o, e _ _ (fun z => z) h⟩)
  · exact .inr h
theorem mvs_sx {K : PySem.W.Frag} {H H' : Hp} (e : Sx H H') : ∀ {qs : List Addr} {ms : List Mv}, Mvs K H qs ms → Mvs K H' qs ms
  | _, _, .nil => .nil
  | _, _, .cons h r => .cons (sx_t e h) (mvs_sx e r)

/-- the slots, said anew -/
theorem st_eq {t : TS} {D : Ends} {σ : L2.St} {H : Hp} (σ' : L2.St) (e : σ = σ') (h : t D σ' H) : t D σ H := by
  subst e
  exact h
theorem nm_eq {i : Nat} {v : V} {σ : L2.St} {H : Hp} {Q : L2.St → Hp → Prop} (σ' : L2.St) (e : σ.set i (some v) = σ') (h : Q σ' H) : gName i v σ H Q := by
  subst e
  exact h

/-! ### promises -/
def sp_tp (K : PySem.W.Frag) : Sp := fun vs H Q _ => ∃ (w : W8) (q : Addr) (x y : Int), vs = [.str (wn w), .ref q] ∧ SqT K H q [.int x, .int y] ∧ RetT [.int (pl w (x, y)).1, .int (pl w (x, y)).2] H Q
def sp_led (K : PySem.W.Frag) : Sp := fun vs H Q _ => ∃ (n : Int) (a q : Addr) (m : Mv) (x y : Int), vs = [.int n, .ref a, .ref q] ∧ 0 < n ∧ SqT K H a (mvV m) ∧ SqT K H q [.int x, .int y] ∧
  RetT [.int (led n m (x, y)).1, .int (led n m (x, y)).2] H Q
def sp_wof (K : PySem.W.Frag) : Sp := fun vs H Q _ => ∃ (q : Addr) (w : W8), vs = [.ref q] ∧ SqT K H q (sgV w) ∧ RetV (.str (wn w)) H Q
def sp_then (K : PySem.W.Frag) : Sp := fun vs H Q _ => ∃ (n : Int) (a b : Addr) (m o : Mv), vs = [.int n, .ref a, .ref b] ∧ 0 < n ∧ SqT K H a (mvV m) ∧ SqT K H b (mvV o) ∧ RetT (mvV (th n m o)) H Q
/-- a carpet's rows as texts -/
def rowS (N : Nat) (C : Carp) (i : Int) : Str := ⟨((List.range N).map fun (j : Nat) => C i (j : Int)).toArray⟩
def crp (N : Nat) (C : Carp) : List V := (List.range N).map fun (i : Nat) => V.str (rowS N C (i : Int))
def Sz (N : Nat) : Prop := 1 ≤ N ∧ N ≤ 5
/-- its signs are signs -/
def Cb (C : Carp) : Prop := ∀ i j, C i j < 1114112
def sp_mov (K : PySem.W.Frag) : Sp := fun vs H Q _ => ∃ (N : Nat) (C : Carp) (c a : Addr) (m : Mv), vs = [.ref c, .ref a] ∧ Sz N ∧ SqT K H c (crp N C) ∧ SqT K H a (mvV m) ∧ RetT (crp N (mvC N m C)) H Q
def sp_lvs (K : PySem.W.Frag) : Sp := fun vs H Q _ => ∃ (N : Nat) (C : Carp) (c a : Addr) (m : Mv), vs = [.ref c, .ref a] ∧ Sz N ∧ Cb C ∧ SqT K H c (crp N C) ∧ SqT K H a (mvV m) ∧
  ∀ b : Bool, (b = true ↔ Lv N C m) → RetV (.bl b) H Q
def sp_unl (K : PySem.W.Frag) : Sp := fun vs H Q _ => ∃ (N : Nat) (C : Carp) (c a : Addr) (m : Mv), vs = [.ref c, .ref a] ∧ Sz N ∧ SqT K H c (crp N C) ∧ SqT K H a (mvV m) ∧
  (Lv N C m → RetV .non H Q) ∧ ∀ r s : Int, In N (r, s) → mvC N m C r s ≠ C r s → RetT [.int r, .int s] H Q
def sp_alm (K : PySem.W.Frag) : Sp := fun vs H Q _ => ∃ N : Nat, vs = [.int (N : Int)] ∧ Sz N ∧ RetM K (alls N) H Q
def sp_lvg (K : PySem.W.Frag) : Sp := fun vs H Q _ => ∃ (N : Nat) (C : Carp) (c : Addr), vs = [.ref c] ∧ Sz N ∧ Cb C ∧ SqT K H c (crp N C) ∧ RetM K (lvs N C) H Q
def sp_made (K : PySem.W.Frag) : Sp := fun vs H Q _ => ∃ (N : Nat) (a : Addr) (qs : List Addr) (G : List Mv), vs = [.int (N : Int), .ref a] ∧ Sz N ∧ SqL K H a (qs.map V.ref) ∧ Mvs K H qs G ∧ RetM K (md N G) H Q
def sp_few (K : PySem.W.Frag) : Sp := fun vs H Q _ => ∃ (N : Nat) (a : Addr) (qs : List Addr) (L : List Mv), vs = [.int (N : Int), .ref a] ∧ Sz N ∧ SqL K H a (qs.map V.ref) ∧ Mvs K H qs L ∧ L.length ≤ 200 ∧ (∀ x ∈ L, Ok N x) ∧
  ∀ F : List Mv, (∀ x ∈ F, x ∈ L) → Chain N F → (∀ x ∈ L, Rch N F x) → RetM K F H Q
/-- a row of places and what it makes -/
def walkF (n : Int) (F : List Mv) : Mv → List Nat → Option Mv
  | m, [] => some m
  | m, i :: r => match F[i]? with
    | some g => walkF n F (th n m g) r
    | none => none
/-- rows_to's dict: the keys' movements, each with a list of places that makes it -/
structure RowsOk (K : PySem.W.Frag) (H : Hp) (n : Int) (F : List Mv) (xs : List Row) (ms : List Mv) : Prop where
  mvs : Mvs K H (xs.map (·.2.1)) ms
  keys : xs.map (·.1) = ms.map mvK
  vals : ∀ (i : Nat) (x : Row) (m : Mv), xs[i]? = some x → ms[i]? = some m → ∃ (l : Addr) (is : List Nat), x.2.2 = .ref l ∧ SqL K H l (is.map fun i => V.int ((i : Nat) : Int)) ∧ walkF n F e0 is = some m
def sp_rows (P : Program) (w : World) (K : PySem.W.Frag) : Sp := fun vs H Q _ => ∃ (N : Nat) (a : Addr) (qs : List Addr) (F : List Mv), vs = [.int (N : Int), .ref a] ∧ Sz N ∧ SqL K H a (qs.map V.ref) ∧ Mvs K H qs F ∧ F.length ≤ 200 ∧
  ∀ p xs ms H', Ex H H' → H' p = some (DG P w p xs) → RowsOk K H' N F xs ms → ms.Nodup → (∀ x, x ∈ ms ↔ Rch N F x) → Q (.ref p) H'
def sp_cell (K : PySem.W.Frag) : Sp := fun vs H Q _ => ∃ (a : Addr) (ns : List Int) (k : Int), vs = [.ref a, .int k] ∧ SqL K H a (ns.map V.int) ∧ ns.length ≤ 63 ∧ 0 ≤ k ∧ ∀ z : Int, RetV (.int z) H Q
def sp_mix : Sp := fun vs H Q _ => ∃ c k : Int, vs = [.int c, .int k] ∧ 0 ≤ k ∧ k ≤ 1000 ∧ ∀ z : Int, 0 ≤ z → z < 2147483647 → RetV (.int z) H Q
def sp_pln (K : PySem.W.Frag) : Sp := fun vs H Q _ => ∃ (w : W8) (x y : Int), vs = [.str (wn w), .int x, .int y] ∧ RetT [.int (pl w (x, y)).1, .int (pl w (x, y)).2] H Q
def sp_plc (K : PySem.W.Frag) : Sp := sp_led K
def sp_lmv (K : PySem.W.Frag) : Sp := fun vs H Q _ => ∃ (n z : Int), vs = [.int n, .int z] ∧ 0 < n ∧ n ≤ 5 ∧ 0 ≤ z ∧ ∀ m : Mv, RetT (mvV m) H Q
def sp_lal (K : PySem.W.Frag) : Sp := sp_alm K
/-- a dict of places -/
def Plc (N : Nat) (kv : List (List Key × V)) (f : Int × Int → V → Prop) : Prop := ∀ r c : Int, In N (r, c) → ∃ v, valV kv [Sum.inl r, Sum.inl c] = some v ∧ f (r, c) v
def sp_roots (K : PySem.W.Frag) : Sp := fun vs H Q _ => ∃ (N : Nat) (a : Addr) (qs : List Addr) (G : List Mv), vs = [.int (N : Int), .ref a] ∧ Sz N ∧ SqL K H a (qs.map V.ref) ∧ Mvs K H qs G ∧ G.length ≤ 10 ∧
  ∀ p kv H', Ex H H' → H' p = some (.dT kv) → Plc N kv (fun _ v => ∃ q x y, v = .ref q ∧ H' q = some (.tup [.int x, .int y]) ∧ In N (x, y)) → Q (.ref p) H'
def sp_carp (K : PySem.W.Frag) : Sp := fun vs H Q _ => ∃ (a : Addr) (ns : List Int), vs = [.ref a, .int 5] ∧ SqL K H a (ns.map V.int) ∧ ns.length ≤ 63 ∧ ∀ (N : Nat) (C : Carp), Sz N → Cb C → RetT (crp N C) H Q
def sp_ledto (K : PySem.W.Frag) : Sp := fun vs H Q _ => ∃ (N : Nat) (C : Carp) (c a : Addr) (m : Mv), vs = [.ref c, .ref a] ∧ Sz N ∧ SqT K H c (crp N C) ∧ SqT K H a (mvV m) ∧
  ∀ p kv H', Ex H H' → H' p = some (.dT kv) → Plc N kv (fun x v => v = .str ⟨#[mvC N m C x.1 x.2]⟩) → Q (.ref p) H'
def sp_left (K : PySem.W.Frag) : Sp := sp_lvs K
def sp_beh (K : PySem.W.Frag) : Sp := sp_then K
def sp_come (K : PySem.W.Frag) : Sp := sp_made K
def sp_law (K : PySem.W.Frag) : Sp := fun vs H Q _ => ∃ (a : Addr) (ns : List Int), vs = [.ref a] ∧ SqL K H a (ns.map V.int) ∧ ns.length ≤ 63 ∧ ∀ H', Q (.bl true) H'
end Ck
namespace Ck
open PySem PySem.Spec PyProof.Rows L2
open Evl (Ex)
section
variable {P : Program} {w : World} {K : PySem.W.Frag} {mg : Str → Option Value} {base : Heap}
theorem sg_small (w8 : W8) : (-(2 ^ 64) < (sg w8).a ∧ (sg w8).a < 2 ^ 64) ∧ (-(2 ^ 64) < (sg w8).b ∧ (sg w8).b < 2 ^ 64) ∧ (-(2 ^ 64) < (sg w8).c ∧ (sg w8).c < 2 ^ 64) ∧ (-(2 ^ 64) < (sg w8).d ∧ (sg w8).d < 2 ^ 64) := by
  cases w8 <;> decide
/-- turned_place -/
theorem ok_tp {k : Nat} (T : Tx K w mg) (D : Df K mg "turned_place" t_tp p_tp) : Cal P w K mg base (k + 1) "turned_place" (sp_tp K) [] := by
  refine D.cal sc_tp (fun vs H Q E h => ?_) (fun f cdv A outer s H vs Q E hr h => ?_)
  · obtain ⟨_, _, _, _, rfl, _⟩ := h
    rfl
  · obtain ⟨w8, q, x, y, rfl, hq, ret⟩ := h
    obtain ⟨aS, gS, hS⟩ := T.signs
    obtain ⟨t, hK, hT⟩ := hS w8
    refine ⟨_, pss_cons (ps_asg (pe_ix ix_kdict (pe_glob (v := .ref aS) rfl gS rfl) (pv 0) (fun _ _ => rfl))
        (pg_tup (by rfl) (pgs_cons (pg_name (i := 2) sc_tp.nd rfl (.inl rfl)) (pgs_cons (pg_name (i := 3) sc_tp.nd rfl (.inl rfl)) (pgs_cons (pg_name (i := 4) sc_tp.nd rfl (.inl rfl)) (pgs_cons (pg_name (i := 5) sc_tp.nd rfl (.inl rfl)) pgs_nil))))))
      (pss_one (ps_ret (pe_tup (pa_cons (pe_op op_add (pe_op op_mul (pv 2) (pe_ix ix_tup (pv 1) pe_int (fun _ _ => rfl))) (pe_op op_mul (pv 3) (pe_ix ix_tup (pv 1) pe_int (fun _ _ => rfl))))
        (pa_cons (pe_op op_add (pe_op op_mul (pv 4) (pe_ix ix_tup (pv 1) pe_int (fun _ _ => rfl))) (pe_op op_mul (pv 5) (pe_ix ix_tup (pv 1) pe_int (fun _ _ => rfl)))) pa_nil))))), ?_⟩
    refine ⟨_, rfl, aS, wn w8, .ref t, rfl, rfl, hK, ?_⟩
    refine ⟨t, sgV w8, rfl, hT.sq _, rfl, _, _, rfl, _, _, rfl, _, _, rfl, _, _, rfl, rfl, ?_⟩
    obtain ⟨b1, b2, b3, b4⟩ := sg_small w8
    refine ⟨_, rfl, _, rfl, q, _, 0, .int x, rfl, rfl, hq, rfl, _, _, rfl, rfl, .inl b1, _, rfl, _, rfl, q, _, 1, .int y, rfl, rfl, hq, rfl, _, _, rfl, rfl, .inl b2, _, _, rfl, rfl,
      _, rfl, _, rfl, q, _, 0, .int x, rfl, rfl, hq, rfl, _, _, rfl, rfl, .inl b3, _, rfl, _, rfl, q, _, 1, .int y, rfl, rfl, hq, rfl, _, _, rfl, rfl, .inl b4, _, _, rfl, rfl, by show 2 ≤ sizeLine; decide, fun p hp => ?_⟩
    exact ret p _ (Ex.new hp) upd_same
/-- led -/
theorem ok_led {k : Nat} (D : Df K mg "led" t_led p_led) (c : Cal P w K mg base k "turned_place" (sp_tp K) []) : Cal P w K mg base (k + 1) "led" (sp_led K) [] := by
  refine D.cal sc_led (fun vs H Q E h => ?_) (fun f cdv A outer s H vs Q E hr h => ?_)
  · obtain ⟨_, _, _, _, _, _, rfl, _⟩ := h
    rfl
  · obtain ⟨n, a, q, m, x, y, rfl, hn, ha, hq, ret⟩ := h
    refine ⟨_, pss_cons (ps_asg (C8.pe_c c hr (Nat.le_refl _) (by rfl) (pa_cons (pe_ix ix_tup (pv 1) pe_int (fun _ _ => rfl)) (pa_cons (pv 2) pa_nil)))
        (pg_tup (by rfl) (pgs_cons (pg_name (i := 3) sc_led.nd rfl (.inl rfl)) (pgs_cons (pg_name (i := 4) sc_led.nd rfl (.inl rfl)) pgs_nil))))
      (pss_one (ps_ret (pe_tup (pa_cons (pe_op op_mod (pe_op op_add (pv 3) (pe_ix ix_tup (pv 1) pe_int (fun _ _ => rfl))) (pv 0))
        (pa_cons (pe_op op_mod (pe_op op_add (pv 4) (pe_ix ix_tup (pv 1) pe_int (fun _ _ => rfl))) (pv 0)) pa_nil))))), ?_⟩
    refine ⟨_, rfl, a, mvV m, 0, _, rfl, rfl, ha, rfl, _, rfl, m.w, q, x, y, rfl, hq, fun t H1 e1 ht => ?_⟩
    have ha1 := Evl.ex_t e1 ha
    refine ⟨t, _, rfl, .inl (.inl ht), rfl, _, _, rfl, _, _, rfl, rfl, ?_⟩
    refine ⟨_, rfl, _, rfl, a, mvV m, 1, _, rfl, rfl, ha1, rfl, _, _, rfl, rfl, _, rfl, _, _, rfl, rfl, hn,
      _, rfl, _, rfl, a, mvV m, 2, _, rfl, rfl, ha1, rfl, _, _, rfl, rfl, _, rfl, _, _, rfl, rfl, hn, by show 2 ≤ sizeLine; decide, fun p hp => ?_⟩
    exact ret p _ (e1.trans (Ex.new hp)) upd_same
theorem sg_eqv (a b : W8) : PyData.eqv (.tuple [.int (sg a).a, .int (sg a).b, .int (sg a).c, .int (sg a).d]) (.tuple [.int (sg b).a, .int (sg b).b, .int (sg b).c, .int (sg b).d]) = decide (a = b) := by
  cases a <;> cases b <;> decide +kernel
def sgD (w : W8) : PyData := .tuple [.int (sg w).a, .int (sg w).b, .int (sg w).c, .int (sg w).d]
theorem sgD_ok (w : W8) : SeqAt.shaped (sgD w) = true := by cases w <;> decide +kernel
theorem sgD_dp {H : Hp} {q : Addr} {w : W8} (h : SqT K H q (sgV w)) : Dp K H (.ref q) (sgD w) := .tup h (.cons (.int _) (.cons (.int _) (.cons (.int _) (.cons (.int _) .nil))))
/-- way_of -/
theorem ok_wof {k : Nat} (T : Tx K w mg) (D : Df K mg "way_of" t_wof p_wof) : Cal P w K mg base (k + 1) "way_of" (sp_wof K) [] := by
  refine D.cal sc_wof (fun vs H Q E h => ?_) (fun f cdv A outer s H vs Q E hr h => ?_)
  · obtain ⟨_, _, rfl, _⟩ := h
    rfl
  · obtain ⟨q, w8, rfl, hq, ret⟩ := h
    obtain ⟨aS, gS, hS⟩ := T.signs
    obtain ⟨aW, gW, hW⟩ := T.ways
    refine ⟨_, pss_one (ps_ret (pe_ix ix_list (pe_lc (own := [("way", 1)]) (g := gName 1) rfl sc_wof.nd (pi_tup (pe_glob (v := .ref aW) rfl gW rfl))
        (blkOk_by (own := [("way", 1)]) (N := n_wof) (sc := defScope t_wof) (by decide +kernel)) (fun _ _ _ _ _ => pg_name (i := 1) sc_wof.nd rfl (Or.inl rfl))
        (fun _ _ _ _ _ => pts_one (pt_cmpR (show OpR _ _ (rEqD K) from op_eqD hr.units) (pe_ix (show IxR _ (rIxD K w) from ix_kdict) (pe_glob (v := .ref aS) rfl gS rfl) (pv 1) (fun _ _ => rfl)) (pv 0) (nomark _)))
        (fun _ _ _ _ _ => pv 1)) pe_int (fun _ _ => rfl))), ?_⟩
    refine ⟨aW, rfl, ⟨_, hW.sq _⟩, fun L hL => ?_⟩
    refine lc_tup (K := K) (a := aW) (xs := waysV.map fun w => V.str (wn w)) (fun i H' => Ex H H' ∧ H' L = some (.lst (((waysV.take i).filter fun z => decide (z = w8)).map fun z => V.str (wn z)))) ⟨Ex.new hL, upd_same⟩ (fun i H' _ _ => hW.sq _) (fun i x H' hx hP => ?_) (fun H' hP => ?_)
    · obtain ⟨e1, l1⟩ := hP
      rw [List.getElem?_map] at hx
      obtain ⟨v8, hv, rfl⟩ := Option.map_eq_some_iff.mp hx
      obtain ⟨t, hK, hT⟩ := hS v8
      refine ⟨rfl, _, rfl, aS, wn v8, .ref t, rfl, rfl, hK, _, rfl, sgD v8, sgD w8, sgD_dp (hT.sq _), sgD_dp (Evl.ex_t e1 hq), sgD_ok _, sgD_ok _, _, rfl, ?_⟩
      have tk : waysV.take (i + 1) = waysV.take i ++ [v8] := by rw [List.take_add_one, hv]; rfl
      rw [show PyData.eqv (sgD v8) (sgD w8) = decide (v8 = w8) from sg_eqv v8 w8]
      refine ite2 (fun hb => ?_) (fun hb => ?_)
      · refine ⟨_, rfl, _, l1, ?_, fun a o ho => ?_, ?_⟩
        · rw [List.length_map]
          refine Nat.lt_of_le_of_lt (Nat.le_trans (List.length_filter_le _ _) ?_) (by decide : 8 < sizeLine)
          rw [List.length_take]
          exact Nat.min_le_right _ _
        · exact (e1.mut hL) a o ho
        · rw [upd_same, tk, List.filter_append, List.map_append, List.filter_cons, if_pos hb]
          rfl
      · refine ⟨e1, ?_⟩
        rw [tk, List.filter_append, List.map_append, List.filter_cons, if_neg hb]
        rw [l1]
        simp
    · obtain ⟨e1, l1⟩ := hP
      have e : ((waysV.take (waysV.map fun w => V.str (wn w)).length).filter fun z => decide (z = w8)) = [w8] := by cases w8 <;> decide +kernel
      rw [e] at l1
      refine ⟨L, _, 0, .str (wn w8), rfl, rfl, .inl (.inl l1), rfl, ?_⟩
      exact ret _ e1
theorem sgV_cw (a b : W8) : sgV (cw a b) = [.int ((sg b).a * (sg a).a + (sg b).b * (sg a).c), .int ((sg b).a * (sg a).b + (sg b).b * (sg a).d), .int ((sg b).c * (sg a).a + (sg b).d * (sg a).c), .int ((sg b).c * (sg a).b + (sg b).d * (sg a).d)] := by
  unfold sgV
  rw [sg_cw]
  rfl
/-- then -/
theorem ok_then {k : Nat} (T : Tx K w mg) (D : Df K mg "then" t_then p_then) (cW : Cal P w K mg base k "way_of" (sp_wof K) []) (cL : Cal P w K mg base k "led" (sp_led K) []) : Cal P w K mg base (k + 1) "then" (sp_then K) [] := by
  refine D.cal sc_then (fun vs H Q E h => ?_) (fun f cdv A outer s H vs Q E hr h => ?_)
  · obtain ⟨_, _, _, _, _, rfl, _⟩ := h
    rfl
  · obtain ⟨n, a, b, m, o, rfl, hn, ha, hb, ret⟩ := h
    obtain ⟨aS, gS, hS⟩ := T.signs
    obtain ⟨t, hK, hT⟩ := hS m.w
    obtain ⟨t', hK', hT'⟩ := hS o.w
    refine ⟨_, pss_cons (ps_asg (pe_ix ix_kdict (pe_glob (v := .ref aS) rfl gS rfl) (pe_ix ix_tup (pv 1) pe_int (fun _ _ => rfl)) (fun _ _ => rfl))
        (pg_tup (by rfl) (pgs_cons (pg_name (i := 3) sc_then.nd rfl (.inl rfl)) (pgs_cons (pg_name (i := 4) sc_then.nd rfl (.inl rfl)) (pgs_cons (pg_name (i := 5) sc_then.nd rfl (.inl rfl)) (pgs_cons (pg_name (i := 6) sc_then.nd rfl (.inl rfl)) pgs_nil))))))
      (pss_cons (ps_asg (pe_ix ix_kdict (pe_glob (v := .ref aS) rfl gS rfl) (pe_ix ix_tup (pv 2) pe_int (fun _ _ => rfl)) (fun _ _ => rfl))
        (pg_tup (by rfl) (pgs_cons (pg_name (i := 7) sc_then.nd rfl (.inl rfl)) (pgs_cons (pg_name (i := 8) sc_then.nd rfl (.inl rfl)) (pgs_cons (pg_name (i := 9) sc_then.nd rfl (.inl rfl)) (pgs_cons (pg_name (i := 10) sc_then.nd rfl (.inl rfl)) pgs_nil))))))
      (pss_cons (ps_set (i := 11) sc_then.nd rfl (.inl rfl) (C8.pe_c cW hr (Nat.le_refl _) (by rfl) (pa_cons (pe_tup (pa_cons (pe_op op_add (pe_op op_mul (pv 7) (pv 3)) (pe_op op_mul (pv 8) (pv 5)))
        (pa_cons (pe_op op_add (pe_op op_mul (pv 7) (pv 4)) (pe_op op_mul (pv 8) (pv 6))) (pa_cons (pe_op op_add (pe_op op_mul (pv 9) (pv 3)) (pe_op op_mul (pv 10) (pv 5)))
        (pa_cons (pe_op op_add (pe_op op_mul (pv 9) (pv 4)) (pe_op op_mul (pv 10) (pv 6))) pa_nil))))) pa_nil)))
      (pss_cons (ps_asg (C8.pe_c cL hr (Nat.le_refl _) (by rfl) (pa_cons (pv 0) (pa_cons (pv 2) (pa_cons (pe_tup (pa_cons (pe_ix ix_tup (pv 1) pe_int (fun _ _ => rfl)) (pa_cons (pe_ix ix_tup (pv 1) pe_int (fun _ _ => rfl)) pa_nil))) pa_nil))))
        (pg_tup (by rfl) (pgs_cons (pg_name (i := 12) sc_then.nd rfl (.inl rfl)) (pgs_cons (pg_name (i := 13) sc_then.nd rfl (.inl rfl)) pgs_nil))))
      (pss_one (ps_ret (pe_tup (pa_cons (pv 11) (pa_cons (pv 12) (pa_cons (pv 13) pa_nil))))))))), ?_⟩
    refine ⟨_, rfl, a, mvV m, 0, _, rfl, rfl, ha, rfl, aS, wn m.w, .ref t, rfl, rfl, hK, ?_⟩
    refine ⟨t, sgV m.w, rfl, hT.sq _, rfl, _, _, rfl, _, _, rfl, _, _, rfl, _, _, rfl, rfl, ?_⟩
    refine ⟨_, rfl, b, mvV o, 0, _, rfl, rfl, hb, rfl, aS, wn o.w, .ref t', rfl, rfl, hK', ?_⟩
    refine ⟨t', sgV o.w, rfl, hT'.sq _, rfl, _, _, rfl, _, _, rfl, _, _, rfl, _, _, rfl, rfl, ?_⟩
    refine st_eq [some (.int n), some (.ref a), some (.ref b), some (.int (sg m.w).a), some (.int (sg m.w).b), some (.int (sg m.w).c), some (.int (sg m.w).d), some (.int (sg o.w).a), some (.int (sg o.w).b), some (.int (sg o.w).c), some (.int (sg o.w).d), none, none, none] rfl ?_
    obtain ⟨b1, b2, b3, b4⟩ := sg_small o.w
    refine ⟨_, rfl, _, rfl, _, _, rfl, rfl, .inl b1, _, rfl, _, rfl, _, _, rfl, rfl, .inl b2, _, _, rfl, rfl, ?_⟩
    refine ⟨_, rfl, _, rfl, _, _, rfl, rfl, .inl b1, _, rfl, _, rfl, _, _, rfl, rfl, .inl b2, _, _, rfl, rfl, ?_⟩
    refine ⟨_, rfl, _, rfl, _, _, rfl, rfl, .inl b3, _, rfl, _, rfl, _, _, rfl, rfl, .inl b4, _, _, rfl, rfl, ?_⟩
    refine ⟨_, rfl, _, rfl, _, _, rfl, rfl, .inl b3, _, rfl, _, rfl, _, _, rfl, rfl, .inl b4, _, _, rfl, rfl, ?_⟩
    refine ⟨by show 4 ≤ sizeLine; decide, fun u hu => ?_⟩
    refine ⟨u, cw m.w o.w, rfl, ?_, fun H1 e1 => ?_⟩
    · rw [sgV_cw]
      exact .inl (.inl upd_same)
    have e01 : Ex H H1 := (Ex.new hu).trans e1
    refine nm_eq [some (.int n), some (.ref a), some (.ref b), some (.int (sg m.w).a), some (.int (sg m.w).b), some (.int (sg m.w).c), some (.int (sg m.w).d), some (.int (sg o.w).a), some (.int (sg o.w).b), some (.int (sg o.w).c), some (.int (sg o.w).d), some (.str (wn (cw m.w o.w))), none, none] rfl ?_
    refine ⟨_, rfl, _, rfl, ?_⟩
    refine ⟨_, rfl, a, mvV m, 1, _, rfl, rfl, Evl.ex_t e01 ha, rfl, ?_⟩
    refine ⟨_, rfl, a, mvV m, 2, _, rfl, rfl, Evl.ex_t e01 ha, rfl, ?_⟩
    refine ⟨by show 2 ≤ sizeLine; decide, fun v hv => ?_⟩
    have e02 : Ex H (upd H1 v (.tup [.int m.d, .int m.r])) := e01.trans (Ex.new hv)
    refine ⟨n, b, v, o, m.d, m.r, rfl, hn, Evl.ex_t e02 hb, .inl (.inl upd_same), ?_⟩
    intro z H2 e2 hz
    refine ⟨z, _, rfl, .inl (.inl hz), rfl, _, _, rfl, _, _, rfl, rfl, ?_⟩
    dsimp only
    refine st_eq [some (.int n), some (.ref a), some (.ref b), some (.int (sg m.w).a), some (.int (sg m.w).b), some (.int (sg m.w).c), some (.int (sg m.w).d), some (.int (sg o.w).a), some (.int (sg o.w).b), some (.int (sg o.w).c), some (.int (sg o.w).d), some (.str (wn (cw m.w o.w))), some (.int (led n o (m.d, m.r)).1), some (.int (led n o (m.d, m.r)).2)] rfl ?_
    refine ⟨_, rfl, _, rfl, _, rfl, by show 3 ≤ sizeLine; decide, fun p hp => ?_⟩
    exact ret p _ (e02.trans (e2.trans (Ex.new hp))) upd_same
end
end Ck
namespace Ck
open PySem PySem.Spec PyProof.Rows L2
open Evl (Ex)
section
variable {P : Program} {w : World} {K : PySem.W.Frag} {mg : Str → Option Value} {base : Heap}
theorem two_le : 2 ≤ sizeLine := by decide
/-- _law_cell_at -/
theorem ok_cell {k : Nat} (T : Tx K w mg) (D : Df K mg "_law_cell_at" t_cell p_cell) : Cal P w K mg base (k + 1) "_law_cell_at" (sp_cell K) [] := by
  refine D.cal sc_cell (fun vs H Q E h => ?_) (fun f cdv A outer s H vs Q E hr h => ?_)
  · obtain ⟨_, _, _, rfl, _⟩ := h
    rfl
  · obtain ⟨a, ns, z, rfl, hS, hl, hz, ret⟩ := h
    refine ⟨_, pss_cons (ps_if (pt_cmpR op_lt (pv 1) (pe_callB call_len_seq (by rfl) T.len PySem.boot_len (pa_cons (pv 0) pa_nil)) (nomark _))
      (pss_one (ps_ret (pe_ix ix_list (pv 0) (pv 1) (fun _ _ => rfl)))) pss_nil) (pss_one (ps_ret pe_int)), ?_⟩
    refine ⟨_, rfl, _, rfl, a, _, rfl, .inl hS, _, _, rfl, rfl, _, rfl, ite2 (fun h => ?_) (fun h => ?_)⟩
    · have h := of_decide_eq_true h
      rw [List.length_map] at h
      have hlt : z.toNat < ns.length := by omega
      refine ⟨_, rfl, _, rfl, a, _, z, .int ns[z.toNat], rfl, rfl, hS, at_of (j := z.toNat) (by omega) ?_, ret _ _ (Ex.refl _)⟩
      rw [List.getElem?_map, List.getElem?_eq_getElem hlt]
      rfl
    · exact ret 0 _ (Ex.refl _)
/-- _law_mixed -/
theorem ok_mix {k : Nat} (D : Df K mg "_law_mixed" t_mix p_mix) : Cal P w K mg base (k + 1) "_law_mixed" sp_mix [] := by
  refine D.cal sc_mix (fun vs H Q E h => ?_) (fun f cdv A outer s H vs Q E hr h => ?_)
  · obtain ⟨_, _, rfl, _⟩ := h
    rfl
  · obtain ⟨c, z, rfl, h0, h1, ret⟩ := h
    refine ⟨_, pss_one (ps_ret (pe_op op_mod (pe_op op_mul (pe_op op_add (pe_op op_add (pe_op op_mod (pv 0) pe_int) (pe_op op_mul (pv 1) (pv 1))) pe_int) pe_int) pe_int)), ?_⟩
    have hm : (0 : Int) ≤ c % 1000003 := Int.emod_nonneg _ (by decide)
    have hm2 : c % 1000003 < 1000003 := Int.emod_lt_of_pos _ (by decide)
    have hz : (0 : Int) ≤ z * z := Int.mul_nonneg h0 h0
    have hz2 : z * z ≤ 1000 * 1000 := Int.mul_le_mul h1 h1 h0 (by decide)
    refine ⟨_, rfl, _, _, rfl, rfl, (by show (0 : Int) < 1000003; decide), _, rfl, _, rfl, _, _, rfl, rfl, .inl ⟨by omega, by omega⟩, _, _, rfl, rfl, _, _, rfl, rfl, ?_⟩
    refine ⟨_, _, rfl, rfl, .inr (by decide), ?_⟩
    refine ⟨_, _, rfl, rfl, (by show (0 : Int) < 2147483647; decide), ?_⟩
    exact ret _ (Int.emod_nonneg _ (by decide)) (Int.emod_lt_of_pos _ (by decide)) _ (Ex.refl _)
end
end Ck
namespace Ck
open PySem PySem.Spec PyProof.Rows L2
open Evl (Ex)
section
variable {P : Program} {w : World} {K : PySem.W.Frag} {mg : Str → Option Value} {base : Heap}
theorem two_le' : 2 ≤ sizeLine := by decide
def plT (w8 : W8) (x y : Int) : List V := [.int (pl w8 (x, y)).1, .int (pl w8 (x, y)).2]
theorem plT_stay (x y : Int) : plT .stay x y = [.int x, .int y] := by unfold plT; rw [pl_stay]
theorem plT_turn (x y : Int) : plT .turn x y = [.int y, .int (-x)] := by
  unfold plT pl sg; dsimp only
  rw [show (0 : Int) * x + 1 * y = y by omega, show (-1 : Int) * x + 0 * y = -x by omega]
theorem plT_half (x y : Int) : plT .half x y = [.int (-x), .int (-y)] := by
  unfold plT pl sg; dsimp only
  rw [show (-1 : Int) * x + 0 * y = -x by omega, show (0 : Int) * x + -1 * y = -y by omega]
theorem plT_back (x y : Int) : plT .back x y = [.int (-y), .int x] := by
  unfold plT pl sg; dsimp only
  rw [show (0 : Int) * x + -1 * y = -y by omega, show (1 : Int) * x + 0 * y = x by omega]
theorem plT_side (x y : Int) : plT .side x y = [.int x, .int (-y)] := by
  unfold plT pl sg; dsimp only
  rw [show (1 : Int) * x + 0 * y = x by omega, show (0 : Int) * x + -1 * y = -y by omega]
theorem plT_flip (x y : Int) : plT .flip x y = [.int (-x), .int y] := by
  unfold plT pl sg; dsimp only
  rw [show (-1 : Int) * x + 0 * y = -x by omega, show (0 : Int) * x + 1 * y = y by omega]
theorem plT_cross (x y : Int) : plT .cross x y = [.int y, .int x] := by
  unfold plT pl sg; dsimp only
  rw [show (0 : Int) * x + 1 * y = y by omega, show (1 : Int) * x + 0 * y = x by omega]
theorem plT_other (x y : Int) : plT .other x y = [.int (-y), .int (-x)] := by
  unfold plT pl sg; dsimp only
  rw [show (0 : Int) * x + -1 * y = -y by omega, show (-1 : Int) * x + 0 * y = -x by omega]
def ways8 (p1 p2 p3 p4 p5 p6 p7 p8 : Addr) : List (Key × V) := [(Sum.inr (wn .stay), .ref p1), (Sum.inr (wn .turn), .ref p2), (Sum.inr (wn .half), .ref p3), (Sum.inr (wn .back), .ref p4), (Sum.inr (wn .side), .ref p5), (Sum.inr (wn .flip), .ref p6), (Sum.inr (wn .cross), .ref p7), (Sum.inr (wn .other), .ref p8)]
theorem ways8_merge (p1 p2 p3 p4 p5 p6 p7 p8 : Addr) : mergeK [] (ways8 p1 p2 p3 p4 p5 p6 p7 p8) = ways8 p1 p2 p3 p4 p5 p6 p7 p8 := by
  unfold mergeK ways8
  simp only [List.foldl_cons, List.foldl_nil]
  rfl
def pick8 (p1 p2 p3 p4 p5 p6 p7 p8 : Addr) : W8 → Addr
  | .stay => p1 | .turn => p2 | .half => p3 | .back => p4 | .side => p5 | .flip => p6 | .cross => p7 | .other => p8
theorem ways8_val (p1 p2 p3 p4 p5 p6 p7 p8 : Addr) (w8 : W8) : valV (ways8 p1 p2 p3 p4 p5 p6 p7 p8) (Sum.inr (wn w8)) = some (.ref (pick8 p1 p2 p3 p4 p5 p6 p7 p8 w8)) := by
  cases w8 <;> rfl
/-- _law_plain -/
theorem ok_pln {k : Nat} (D : Df K mg "_law_plain" t_pln p_pln) : Cal P w K mg base (k + 1) "_law_plain" (sp_pln K) [] := by
  refine D.cal sc_pln (fun vs H Q E h => ?_) (fun f cdv A outer s H vs Q E hr h => ?_)
  · obtain ⟨_, _, _, rfl, _⟩ := h
    rfl
  · obtain ⟨w8, x, y, rfl, ret⟩ := h
    refine ⟨_, pss_one (ps_ret (pe_dget (hu_of hr) (pe_disp (pps_cons pe_str (pe_tup (pa_cons (pv 1) (pa_cons (pv 2) pa_nil)))
      (pps_cons pe_str (pe_tup (pa_cons (pv 2) (pa_cons (pe_un un_neg (pv 1)) pa_nil)))
      (pps_cons pe_str (pe_tup (pa_cons (pe_un un_neg (pv 1)) (pa_cons (pe_un un_neg (pv 2)) pa_nil)))
      (pps_cons pe_str (pe_tup (pa_cons (pe_un un_neg (pv 2)) (pa_cons (pv 1) pa_nil)))
      (pps_cons pe_str (pe_tup (pa_cons (pv 1) (pa_cons (pe_un un_neg (pv 2)) pa_nil)))
      (pps_cons pe_str (pe_tup (pa_cons (pe_un un_neg (pv 1)) (pa_cons (pv 2) pa_nil)))
      (pps_cons pe_str (pe_tup (pa_cons (pv 2) (pa_cons (pv 1) pa_nil)))
      (pps_cons pe_str (pe_tup (pa_cons (pe_un un_neg (pv 2)) (pa_cons (pe_un un_neg (pv 1)) pa_nil))) pps_nil)))))))) (by rfl) (by rfl) (fun z => by cases z) (by decide)) (pv 0) (fun _ _ => rfl))), ?_⟩
    refine fun d hd => ?_
    refine ⟨_, rfl, _, rfl, two_le', fun p1 h1 => ?_⟩
    have e1 := Ex.new (o := .tup [.int x, .int y]) h1
    refine ⟨_, rfl, _, rfl, _, rfl, two_le', fun p2 h2 => ?_⟩
    have e2 := Ex.new (o := .tup [.int y, .int (-x)]) h2
    refine ⟨_, rfl, _, rfl, _, rfl, _, rfl, two_le', fun p3 h3 => ?_⟩
    have e3 := Ex.new (o := .tup [.int (-x), .int (-y)]) h3
    refine ⟨_, rfl, _, rfl, _, rfl, two_le', fun p4 h4 => ?_⟩
    have e4 := Ex.new (o := .tup [.int (-y), .int x]) h4
    refine ⟨_, rfl, _, rfl, _, rfl, two_le', fun p5 h5 => ?_⟩
    have e5 := Ex.new (o := .tup [.int x, .int (-y)]) h5
    refine ⟨_, rfl, _, rfl, _, rfl, two_le', fun p6 h6 => ?_⟩
    have e6 := Ex.new (o := .tup [.int (-x), .int y]) h6
    refine ⟨_, rfl, _, rfl, two_le', fun p7 h7 => ?_⟩
    have e7 := Ex.new (o := .tup [.int y, .int x]) h7
    refine ⟨_, rfl, _, rfl, _, rfl, _, rfl, two_le', fun p8 h8 => ?_⟩
    have e8 := Ex.new (o := .tup [.int (-y), .int (-x)]) h8
    have f7 := e7.trans e8
    have f6 := e6.trans f7
    have f5 := e5.trans f6
    have f4 := e4.trans f5
    have f3 := e3.trans f4
    have f2 := e2.trans f3
    have f1 := e1.trans f2
    have g1 := f2 p1 _ upd_same
    have g2 := f3 p2 _ upd_same
    have g3 := f4 p3 _ upd_same
    have g4 := f5 p4 _ upd_same
    have g5 := f6 p5 _ upd_same
    have g6 := f7 p6 _ upd_same
    have g7 := e8 p7 _ upd_same
    have g8 : upd (upd (upd (upd (upd (upd (upd (upd (upd H d (.dK [])) p1 (.tup [.int x, .int y])) p2 (.tup [.int y, .int (-x)])) p3 (.tup [.int (-x), .int (-y)])) p4 (.tup [.int (-y), .int x])) p5 (.tup [.int x, .int (-y)])) p6 (.tup [.int (-x), .int y])) p7 (.tup [.int y, .int x])) p8 (.tup [.int (-y), .int (-x)]) p8 = some (.tup [.int (-y), .int (-x)]) := upd_same
    have gd := f1 d _ upd_same
    have eH := (Ex.new hd).trans f1
    generalize upd (upd (upd (upd (upd (upd (upd (upd (upd H d (.dK [])) p1 (.tup [.int x, .int y])) p2 (.tup [.int y, .int (-x)])) p3 (.tup [.int (-x), .int (-y)])) p4 (.tup [.int (-y), .int x])) p5 (.tup [.int x, .int (-y)])) p6 (.tup [.int (-x), .int y])) p7 (.tup [.int y, .int x])) p8 (.tup [.int (-y), .int (-x)]) = H8 at g1 g2 g3 g4 g5 g6 g7 g8 gd eH ⊢
    clear f1 f2 f3 f4 f5 f6 f7 e1 e2 e3 e4 e5 e6 e7 e8
    refine ⟨gd, ways8 p1 p2 p3 p4 p5 p6 p7 p8, rfl, by show 8 ≤ 15; decide, ?_⟩
    rw [ways8_merge]
    refine ⟨_, rfl, d, .ref (pick8 p1 p2 p3 p4 p5 p6 p7 p8 w8), rfl, ?_, ?_⟩
    · have q := DGet.k (k := Sum.inr (wn w8)) (upd_same (H := H8) (a := d) (o := .dK (ways8 p1 p2 p3 p4 p5 p6 p7 p8)))
      rw [ways8_val] at q
      exact q
    · refine ret _ _ (eH.mut hd) ?_
      have sel : H8 (pick8 p1 p2 p3 p4 p5 p6 p7 p8 w8) = some (.tup (plT w8 x y)) := by
        cases w8
        · rw [plT_back]; exact g4
        · rw [plT_cross]; exact g7
        · rw [plT_flip]; exact g6
        · rw [plT_half]; exact g3
        · rw [plT_other]; exact g8
        · rw [plT_side]; exact g5
        · rw [plT_stay]; exact g1
        · rw [plT_turn]; exact g2
      rw [upd_ne (ne_of sel gd (fun z => nomatch z))]
      exact sel
/-- _law_place -/
theorem ok_plc {k : Nat} (D : Df K mg "_law_place" t_plc p_plc) (c : Cal P w K mg base k "_law_plain" (sp_pln K) []) : Cal P w K mg base (k + 1) "_law_place" (sp_plc K) [] := by
  refine D.cal sc_plc (fun vs H Q E h => ?_) (fun f cdv A outer s H vs Q E hr h => ?_)
  · obtain ⟨_, _, _, _, _, _, rfl, _⟩ := h
    rfl
  · obtain ⟨n, a, q, m, x, y, rfl, hn, ha, hq, ret⟩ := h
    refine ⟨_, pss_cons (ps_asg (C8.pe_c c hr (Nat.le_refl _) (by rfl) (pa_cons (pe_ix ix_tup (pv 1) pe_int (fun _ _ => rfl)) (pa_cons (pe_ix ix_tup (pv 2) pe_int (fun _ _ => rfl)) (pa_cons (pe_ix ix_tup (pv 2) pe_int (fun _ _ => rfl)) pa_nil))))
        (pg_tup (by rfl) (pgs_cons (pg_name (i := 3) sc_plc.nd rfl (.inl rfl)) (pgs_cons (pg_name (i := 4) sc_plc.nd rfl (.inl rfl)) pgs_nil))))
      (pss_one (ps_ret (pe_tup (pa_cons (pe_op op_mod (pe_op op_add (pv 3) (pe_ix ix_tup (pv 1) pe_int (fun _ _ => rfl))) (pv 0))
        (pa_cons (pe_op op_mod (pe_op op_add (pv 4) (pe_ix ix_tup (pv 1) pe_int (fun _ _ => rfl))) (pv 0)) pa_nil))))), ?_⟩
    refine ⟨_, rfl, a, mvV m, 0, _, rfl, rfl, ha, rfl, ?_⟩
    refine ⟨_, rfl, q, _, 0, .int x, rfl, rfl, hq, rfl, ?_⟩
    refine ⟨_, rfl, q, _, 1, .int y, rfl, rfl, hq, rfl, ?_⟩
    refine ⟨m.w, x, y, rfl, fun t H1 e1 ht => ?_⟩
    have ha1 := Evl.ex_t e1 ha
    refine ⟨t, _, rfl, .inl (.inl ht), rfl, _, _, rfl, _, _, rfl, rfl, ?_⟩
    refine ⟨_, rfl, _, rfl, a, mvV m, 1, _, rfl, rfl, ha1, rfl, _, _, rfl, rfl, _, rfl, _, _, rfl, rfl, hn,
      _, rfl, _, rfl, a, mvV m, 2, _, rfl, rfl, ha1, rfl, _, _, rfl, rfl, _, rfl, _, _, rfl, rfl, hn, two_le', fun p hp => ?_⟩
    exact ret p _ (e1.trans (Ex.new hp)) upd_same
/-- _law_movement -/
theorem ok_lmv {k : Nat} (D : Df K mg "_law_movement" t_lmv p_lmv) : Cal P w K mg base (k + 1) "_law_movement" (sp_lmv K) [] := by
  refine D.cal sc_lmv (fun vs H Q E h => ?_) (fun f cdv A outer s H vs Q E hr h => ?_)
  · obtain ⟨_, _, rfl, _⟩ := h
    rfl
  · obtain ⟨n, z, rfl, hn, hn5, hz, ret⟩ := h
    refine ⟨_, pss_cons (ps_set (i := 2) sc_lmv.nd rfl (.inl rfl) (pe_ix ix_list (pe_lst (pa_cons pe_str (pa_cons pe_str (pa_cons pe_str (pa_cons pe_str (pa_cons pe_str (pa_cons pe_str (pa_cons pe_str (pa_cons pe_str pa_nil)))))))))
        (pe_op op_mod (pv 1) pe_int) (fun _ _ => rfl)))
      (pss_one (ps_ret (pe_tup (pa_cons (pv 2) (pa_cons (pe_op op_mod (pe_op op_fdiv (pv 1) pe_int) (pv 0)) (pa_cons (pe_op op_mod (pe_op op_fdiv (pv 1) pe_int) (pv 0)) pa_nil)))))), ?_⟩
    refine ⟨by show 8 ≤ sizeLine; decide, fun l hl => ?_⟩
    refine ⟨_, rfl, _, _, rfl, rfl, (by show (0 : Int) < 8; decide), ?_⟩
    have m0 : (0 : Int) ≤ z % 8 := Int.emod_nonneg _ (by decide)
    have m8 : z % 8 < 8 := Int.emod_lt_of_pos _ (by decide)
    obtain ⟨j, hj⟩ : ∃ j : Nat, z % 8 = (j : Int) := ⟨(z % 8).toNat, by omega⟩
    have hj8 : j < 8 := by omega
    have hx : (waysV.map fun w => V.str (wn w))[j]? = some (.str (wn waysV[j])) := by
      rw [List.getElem?_map, List.getElem?_eq_getElem (show j < waysV.length from hj8)]
      rfl
    refine ⟨l, waysV.map fun w => V.str (wn w), z % 8, .str (wn waysV[j]), rfl, rfl, .inl (.inl upd_same), at_of hj hx, ?_⟩
    refine ⟨_, rfl, ?_⟩
    refine ⟨_, rfl, _, _, rfl, rfl, ⟨by decide, by decide⟩, _, rfl, _, _, rfl, rfl, hn, ?_⟩
    refine ⟨_, rfl, _, _, rfl, rfl, ⟨by decide, by decide⟩, _, rfl, _, _, rfl, rfl, hn, ?_⟩
    refine ⟨by show 3 ≤ sizeLine; decide, fun p hp => ?_⟩
    exact ret ⟨waysV[j], z / 8 % n, z / 64 % n⟩ p _ ((Ex.new hl).trans (Ex.new hp)) upd_same
end
end Ck
namespace Ck
open PySem PySem.Spec PyProof.Rows L2
open Evl (Ex)
/-! ### the ways in order -/
theorem way_ltc {a b : W8} (h : wi a < wi b) : ltCps (wn a).cps.toList (wn b).cps.toList = true := by
  cases a <;> cases b <;> first | (exact absurd h (by decide)) | decide +kernel
theorem rise_le {a b : W8} (h : ltCps (wn b).cps.toList (wn a).cps.toList = false) : wi a ≤ wi b := by
  rcases Nat.lt_or_ge (wi b) (wi a) with q | q
  · rw [way_ltc q] at h
    cases h
  · exact q
theorem rise_all : ∀ (zs : List W8) (a : W8), risingS (wn a) (zs.map wn) = true → (a :: zs).Pairwise fun x y => wi x ≤ wi y
  | [], a, _ => List.pairwise_singleton _ _
  | b :: r, a, h => by
    rw [List.map_cons] at h
    have h' : (!ltCps (wn b).cps.toList (wn a).cps.toList && risingS (wn b) (r.map wn)) = true := h
    rw [Bool.and_eq_true, Bool.not_eq_true'] at h'
    have le := rise_le h'.1
    have p := rise_all r b h'.2
    refine List.pairwise_cons.mpr ⟨fun x hx => ?_, p⟩
    rcases List.mem_cons.mp hx with e | hx
    · subst e; exact le
    · exact Nat.le_trans le ((List.pairwise_cons.mp p).1 x hx)
theorem ways_sorted {ys : List Str} (hp : ys.Perm (waysV.map wn)) (hs : sortedS ys = true) : ys = allW.map wn := by
  obtain ⟨zs, p, rfl⟩ := perm_back hp waysV rfl
  have pw : zs.Pairwise fun x y => wi x ≤ wi y := by
    cases zs with
    | nil => exact List.Pairwise.nil
    | cons a r => exact rise_all r a hs
  have nd : zs.Nodup := p.nodup_iff.mpr (by decide)
  have l1 : (zs.map fun w => (⟨w, 0, 0⟩ : Mv)).Pairwise lt := by
    rw [List.pairwise_map]
    refine (pw.and nd).imp ?_
    intro a b ⟨h, hne⟩
    refine .inl (Nat.lt_of_le_of_ne h fun e => hne (wi_inj e))
  have l2 : (allW.map fun w => (⟨w, 0, 0⟩ : Mv)).Pairwise lt := by decide
  have e := uniq l1 l2 fun x => by
    rw [List.mem_map, List.mem_map]
    constructor
    · intro ⟨w, _, q⟩; exact ⟨w, mem_allW w, q⟩
    · intro ⟨w, _, q⟩; exact ⟨w, p.mem_iff.mpr (by cases w <;> decide), q⟩
  have e2 := congrArg (List.map Mv.w) e
  rw [List.map_map, List.map_map] at e2
  have e3 : zs = allW := (List.map_id zs).symm.trans (e2.trans (List.map_id allW))
  rw [e3]
section
variable {P : Program} {w : World} {K : PySem.W.Frag} {mg : Str → Option Value} {base : Heap}
/-- a growing list of movements at p, new since H0 -/
structure LM (K : PySem.W.Frag) (H0 H : Hp) (p : Addr) (L : List Mv) : Prop where
  new : H0 p = none
  ex : Ex H0 H
  at_ : ∃ qs : List Addr, H p = some (.lst (qs.map V.ref)) ∧ Mvs K H qs L
theorem mvs_snoc {H : Hp} {q : Addr} {m : Mv} {qs : List Addr} {L : List Mv} (h : Mvs K H qs L) (hq : SqT K H q (mvV m)) : Mvs K H (qs ++ [q]) (L ++ [m]) := Paired.snoc h hq
/-- append of a movement's tuple -/
theorem LM.app {H0 H H1 : Hp} {p q : Addr} {L : List Mv} {m : Mv} (h : LM K H0 H p L) (e1 : Ex H H1) (hq : SqT K H1 q (mvV m)) : ∃ qs : List Addr, H1 p = some (.lst (qs.map V.ref)) ∧ qs.length = L.length ∧ LM K H0 (upd H1 p (.lst (qs.map V.ref ++ [.ref q]))) p (L ++ [m]) := by
  obtain ⟨n, e, qs, hl, hm⟩ := h
  have hl1 := e1 p _ hl
  have sx : Sx H1 (upd H1 p (.lst (qs.map V.ref ++ [.ref q]))) := Sx.upd hl1 trivial
  refine ⟨qs, hl1, mvs_len hm, n, (e.trans e1).mut n, qs ++ [q], ?_, mvs_snoc (mvs_sx sx (mvs_ex e1 hm)) (sx_t sx hq)⟩
  rw [upd_same, List.map_append]
  rfl
theorem lm_nil {H : Hp} {p : Addr} (h : H p = none) : LM K H (upd H p (.lst [])) p [] := ⟨h, Ex.new h, [], upd_same, .nil⟩
theorem LM.ex' {H0 H H1 : Hp} {p : Addr} {L : List Mv} (h : LM K H0 H p L) (e1 : Ex H H1) : LM K H0 H1 p L := by
  obtain ⟨n, e, qs, hl, hm⟩ := h
  exact ⟨n, e.trans e1, qs, e1 p _ hl, mvs_ex e1 hm⟩
theorem LM.size {H0 H : Hp} {p : Addr} {L : List Mv} (h : LM K H0 H p L) : True := trivial
def preD (N : Nat) (i : Nat) : List Mv := (allW.take i).flatMap fun w => allD N w
def preR (N : Nat) (w : W8) (d : Nat) : List Mv := (List.range d).flatMap fun d => allR N w d
def preM (w : W8) (d r : Nat) : List Mv := (List.range r).map fun r => (⟨w, (d : Int), ((r : Nat) : Int)⟩ : Mv)
theorem preD_succ {N i : Nat} {w : W8} (h : allW[i]? = some w) : preD N (i + 1) = preD N i ++ allD N w := by
  unfold preD
  rw [List.take_add_one, h, List.flatMap_append]
  simp
theorem preR_succ (N : Nat) (w : W8) (d : Nat) : preR N w (d + 1) = preR N w d ++ allR N w d := by
  unfold preR
  rw [List.range_succ, List.flatMap_append]
  simp
theorem preM_succ (w : W8) (d r : Nat) : preM w d (r + 1) = preM w d r ++ [⟨w, d, r⟩] := by
  unfold preM
  rw [List.range_succ, List.map_append]
  rfl
theorem pre_len {N i d r : Nat} {w : W8} (hN : Sz N) (hi : i < 8) (hd : d < N) (hr : r < N) : (preD N i ++ preR N w d ++ preM w d r).length < sizeLine := by
  have h1 : (preD N i).length = i * (N * N) := by
    unfold preD
    rw [flat_len (k := N * N) _ fun w => ?_, List.length_take, Nat.min_eq_left (show i ≤ allW.length from Nat.le_of_lt hi)]
    unfold allD
    rw [flat_len (k := N) _ fun d => allR_len N w d, List.length_range]
  have h2 : (preR N w d).length = d * N := by
    unfold preR
    rw [flat_len (k := N) _ fun d => allR_len N w d, List.length_range]
  have h3 : (preM w d r).length = r := by unfold preM; rw [List.length_map, List.length_range]
  obtain ⟨_, h5⟩ := hN
  rw [List.length_append, List.length_append, h1, h2, h3]
  have a1 : i * (N * N) ≤ 8 * (5 * 5) := Nat.mul_le_mul (by omega) (Nat.mul_le_mul h5 h5)
  have a2 : d * N ≤ 5 * 5 := Nat.mul_le_mul (by omega) h5
  have a3 : (10000 : Nat) < sizeLine := by decide
  omega
/-- all_movements -/
theorem ok_alm {k : Nat} (T : Tx K w mg) (D : Df K mg "all_movements" t_alm p_alm) : Cal P w K mg base (k + 1) "all_movements" (sp_alm K) [] := by
  refine D.cal sc_alm (fun vs H Q E h => ?_) (fun f cdv A outer s H vs Q E hr h => ?_)
  · obtain ⟨_, rfl, _⟩ := h
    rfl
  · obtain ⟨N, rfl, hN, ret⟩ := h
    obtain ⟨aW, gW, hW⟩ := T.ways
    refine ⟨_, pss_cons (ps_set (i := 1) sc_alm.nd rfl (.inl rfl) (pe_lst pa_nil))
      (pss_cons (ps_for PassesOwn.never rfl (pi_list (pe_callB cr_sortTS (by rfl) T.sorted (by decide +kernel) (pa_cons (pe_glob (v := .ref aW) rfl gW rfl) pa_nil))) (pg_name (i := 2) sc_alm.nd rfl (.inl rfl))
        (pss_one (ps_for PassesOwn.never rfl (pi_range1 (by rfl) T.range (pa_cons (pv 0) pa_nil)) (pg_name (i := 3) sc_alm.nd rfl (.inl rfl))
          (pss_one (ps_for PassesOwn.never rfl (pi_range1 (by rfl) T.range (pa_cons (pv 0) pa_nil)) (pg_name (i := 4) sc_alm.nd rfl (.inl rfl))
            (pss_one (ps_expr (pe_bm PySem.F.plainAttrs_list PySem.F.slot_list_append PySem.F.type_list_append mt_append (pv 1) (pa_cons (pe_tup (pa_cons (pv 2) (pa_cons (pv 3) (pa_cons (pv 4) pa_nil)))) pa_nil)))))))))
      (pss_one (ps_ret (pv 1)))), ?_⟩
    refine ⟨Nat.zero_le _, fun p hp => ?_⟩
    have e0 := Ex.new (o := .lst []) hp
    refine nm_eq [some (.int (N : Int)), some (.ref p), none, none, none] rfl ?_
    refine ⟨aW, waysV.map wn, rfl, ?_, by decide, fun ys b hys hso hb => ?_⟩
    · rw [List.map_map]
      exact hW.sq _
    have ey := ways_sorted hys hso
    subst ey
    have hbp : b ≠ p := fun e => by subst e; rw [upd_same] at hb; cases hb
    have L0 : LM K H (upd (upd H p (.lst [])) b (.lst ((allW.map wn).map V.str))) p (preD N 0) := (lm_nil hp).ex' (Ex.new hb)
    have hb0 : H b = none := Evl.fresh_back e0 hb
    refine ⟨b, rfl, ⟨_, .inl (.inl upd_same)⟩, ?_⟩
    refine for_list (K := K) (a := b) (xs := (allW.map wn).map V.str) (fun i σ H' => ∃ y2 y3 y4, σ = [some (.int (N : Int)), some (.ref p), y2, y3, y4] ∧ LM K H H' p (preD N i) ∧ H' b = some (.lst ((allW.map wn).map V.str)))
      ⟨none, none, none, rfl, L0, upd_same⟩ (fun i σ H' _ hP => ?_) (fun i x σ H' hx hP => ?_) (fun σ H' hP => ?_)
    · obtain ⟨_, _, _, _, _, h⟩ := hP
      exact .inl (.inl h)
    · obtain ⟨y2, y3, y4, rfl, hL, hB⟩ := hP
      rw [List.map_map, List.getElem?_map] at hx
      obtain ⟨w8, hw, rfl⟩ := Option.map_eq_some_iff.mp hx
      have hi : i < 8 := (List.getElem?_eq_some_iff.mp hw).1
      refine nm_eq [some (.int (N : Int)), some (.ref p), some (.str (wn w8)), y3, y4] rfl ?_
      refine Evl.s_forR1 (n := (N : Int)) (Evl.ea_cons (Evl.ev_var rfl) Evl.ea_nil) ⟨by omega, by have := hN.2; omega⟩
        (fun d σ H' => ∃ y3 y4, σ = [some (.int (N : Int)), some (.ref p), some (.str (wn w8)), y3, y4] ∧ LM K H H' p (preD N i ++ preR N w8 d) ∧ H' b = some (.lst ((allW.map wn).map V.str)))
        (fun H1 e1 => ⟨y3, y4, rfl, ?_, e1 b _ hB⟩) (fun d σ H1 hd hP => ?_) (fun σ H1 hP => ?_)
      · rw [show preR N w8 0 = [] from rfl, List.append_nil]
        exact hL.ex' e1
      · obtain ⟨y3, y4, rfl, hL, hB⟩ := hP
        refine st_eq [some (.int (N : Int)), some (.ref p), some (.str (wn w8)), some (.int (d : Int)), y4] rfl ?_
        refine Evl.s_forR1 (n := (N : Int)) (Evl.ea_cons (Evl.ev_var rfl) Evl.ea_nil) ⟨by omega, by have := hN.2; omega⟩
          (fun r σ H' => ∃ y4, σ = [some (.int (N : Int)), some (.ref p), some (.str (wn w8)), some (.int (d : Int)), y4] ∧ LM K H H' p (preD N i ++ preR N w8 d ++ preM w8 d r) ∧ H' b = some (.lst ((allW.map wn).map V.str)))
          (fun H1 e1 => ⟨y4, rfl, ?_, e1 b _ hB⟩) (fun r σ H1 hr hP => ?_) (fun σ H1 hP => ?_)
        · rw [show preM w8 d 0 = [] from rfl, List.append_nil]
          exact hL.ex' e1
        · obtain ⟨y4, rfl, hL, hB⟩ := hP
          refine st_eq [some (.int (N : Int)), some (.ref p), some (.str (wn w8)), some (.int (d : Int)), some (.int (r : Int))] rfl ?_
          obtain ⟨qs0, hl0, hm0⟩ := hL.at_
          refine ⟨_, rfl, .inl ⟨rfl, _, .inl (.inl hl0)⟩, _, rfl, _, rfl, _, rfl, by show 3 ≤ sizeLine; decide, fun q hq => ?_⟩
          have eq1 := Ex.new (o := .tup [.str (wn w8), .int (d : Int), .int (r : Int)]) hq
          obtain ⟨qs, hl1, len1, hL2⟩ := hL.app (q := q) (m := ⟨w8, d, r⟩) eq1 (.inl (.inl upd_same))
          refine ⟨p, _, _, rfl, rfl, hl1, ?_, ?_⟩
          · rw [List.length_map, len1]
            exact pre_len hN hi (by omega) (by omega)
          · refine ⟨_, rfl, ?_, ?_⟩
            · rw [preM_succ, ← List.append_assoc]
              exact hL2
            · have hbp' : b ≠ p := hbp
              rw [upd_ne hbp']
              exact eq1 b _ hB
        · obtain ⟨y4, rfl, hL, hB⟩ := hP
          refine ⟨_, _, rfl, ?_, hB⟩
          rw [preR_succ, ← List.append_assoc]
          exact hL
      · obtain ⟨y3, y4, rfl, hL, hB⟩ := hP
        refine ⟨_, _, _, rfl, ?_, hB⟩
        rw [preD_succ hw]
        exact hL
    · obtain ⟨y2, y3, y4, rfl, hL, hB⟩ := hP
      obtain ⟨n, e, qs, hl, hm⟩ := hL
      exact ⟨_, rfl, ret p qs H' e n hl hm⟩
end
end Ck
namespace Ck
open PySem PySem.Spec PyProof.Rows L2
open Evl (Ex)
theorem tyes {σ : L2.St} {H : Hp} {A B : Hp → Prop} (h : A H) : tYes σ H fun b H3 => if b = true then A H3 else B H3 := by
  show (if true = true then A H else B H)
  rw [if_pos rfl]
  exact h
/-! ### rows as texts -/
theorem join_signs (cs : List Nat) : Txt.join ("" : Str) (cs.map fun c => (⟨#[c]⟩ : Str)) = ⟨cs.toArray⟩ := by
  have e : (cs.map fun c => (⟨#[c]⟩ : Str)) = (cs.map fun c => [c]).map SX.S := by rw [List.map_map]; rfl
  have e0 : ("" : Str) = SX.S [] := by decide +kernel
  rw [e, e0, SX.join_S]
  have j : ∀ l : List Nat, TL.joinL [] (l.map fun c => [c]) = l := by
    intro l
    induction l with
    | nil => rfl
    | cons a r ih =>
      cases r with
      | nil => rfl
      | cons b r =>
        rw [List.map_cons, List.map_cons]
        show [a] ++ ([] ++ TL.joinL [] ([b] :: r.map fun c => [c])) = a :: b :: r
        rw [← List.map_cons (f := fun c => [c]), ih]
        rfl
  rw [j]
def cds (N : Nat) (C : Carp) (i : Int) : List Nat := (List.range N).map fun (j : Nat) => C i (j : Int)
theorem rowS_eq (N : Nat) (C : Carp) (i : Int) : rowS N C i = ⟨(cds N C i).toArray⟩ := rfl
theorem rowS_at {N : Nat} {C : Carp} {i : Int} {j : Nat} (h : j < N) : atI (rowS N C i).cps.toList (j : Int) = some (C i j) := by
  apply atI_nat
  show ((List.range N).map fun (j : Nat) => C i (j : Int))[j]? = _
  rw [List.getElem?_map, List.getElem?_range h]
  rfl
theorem rowS_len (N : Nat) (C : Carp) (i : Int) : (rowS N C i).length = N := by
  show ((List.range N).map fun (j : Nat) => C i (j : Int)).toArray.size = N
  rw [List.size_toArray, List.length_map, List.length_range]
theorem crp_at {N : Nat} {C : Carp} {i : Nat} (h : i < N) : atI (crp N C) (i : Int) = some (.str (rowS N C i)) := by
  apply atI_nat
  unfold crp
  rw [List.getElem?_map, List.getElem?_range h]
  rfl
theorem crp_len (N : Nat) (C : Carp) : (crp N C).length = N := by unfold crp; rw [List.length_map, List.length_range]
theorem five_le {N : Nat} (h : Sz N) : N ≤ sizeLine := Nat.le_trans h.2 (by decide)
/-- a place as a key -/
def pk (p : Int × Int) : List Key := [Sum.inl p.1, Sum.inl p.2]
theorem pk_inj {p q : Int × Int} (h : pk p = pk q) : p = q := by
  unfold pk at h
  injection h with h1 h
  injection h with h2 _
  injection h1 with h1
  injection h2 with h2
  exact Prod.ext h1 h2
/-- what was led so far: all places of the rows ahead of r, and those of r ahead of c -/
def Done (r c : Nat) (p : Int × Int) : Prop := 0 ≤ p.2 ∧ 0 ≤ p.1 ∧ (p.1 < r ∨ (p.1 = r ∧ p.2 < c))
structure LedSo (N : Nat) (C : Carp) (m : Mv) (r c : Nat) (kv : List (List Key × V)) : Prop where
  len : kv.length ≤ r * N + c
  val : ∀ p : Int × Int, In N p → Done r c p → valV kv (pk (led N m p)) = some (.str ⟨#[C p.1 p.2]⟩)
theorem LedSo.put {N : Nat} {C : Carp} {m : Mv} {r c : Nat} {kv : List (List Key × V)} (h : LedSo N C m r c kv) (hr : r < N) (hc : c < N) : LedSo N C m r (c + 1) (putK kv (pk (led N m ((r : Int), (c : Int)))) (.str ⟨#[C r c]⟩)) := by
  have inn : In N ((r : Int), (c : Int)) := by unfold In; dsimp only; omega
  refine ⟨?_, fun p hp hd => ?_⟩
  · have := length_putK kv (pk (led N m ((r : Int), (c : Int)))) (.str ⟨#[C r c]⟩)
    have := h.len
    omega
  · rw [valV_put]
    by_cases e : pk (led N m p) = pk (led N m ((r : Int), (c : Int)))
    · rw [if_pos e]
      have e2 := led_inj m hp inn (pk_inj e)
      rw [e2]
    · rw [if_neg e]
      refine h.val p hp ?_
      obtain ⟨d1, d2, d3⟩ := hd
      refine ⟨d1, d2, ?_⟩
      rcases d3 with d3 | ⟨d3, d4⟩
      · exact .inl d3
      · refine .inr ⟨d3, ?_⟩
        have ne : p.2 ≠ c := fun z => e (by rw [show p = ((r : Int), (c : Int)) from Prod.ext d3 z])
        omega
theorem LedSo.next {N : Nat} {C : Carp} {m : Mv} {r : Nat} {kv : List (List Key × V)} (h : LedSo N C m r N kv) : LedSo N C m (r + 1) 0 kv := by
  refine ⟨?_, fun p hp hd => h.val p hp ?_⟩
  · have := h.len
    rw [Nat.add_mul]
    omega
  · obtain ⟨d1, d2, d3⟩ := hd
    refine ⟨d1, d2, ?_⟩
    obtain ⟨_, _, _, h4⟩ := hp
    omega
theorem LedSo.all {N : Nat} (hN : 0 < N) {C : Carp} {m : Mv} {kv : List (List Key × V)} (h : LedSo N C m N 0 kv) : Plc N kv (fun x v => v = .str ⟨#[mvC N m C x.1 x.2]⟩) := by
  intro r c hi
  have hn : (0 : Int) < N := by omega
  have hin := led_in hn (inv N m) (r, c)
  refine ⟨_, ?_, rfl⟩
  have q := h.val (led N (inv N m) (r, c)) hin ⟨hin.2.2.1, hin.1, .inl hin.2.1⟩
  rw [led_led_inv m hi] at q
  exact q
theorem size25 {N r c : Nat} (h : Sz N) (hr : r < N) (hc : c < N) {l : Nat} (hl : l ≤ r * N + c) : l < sizeLine := by
  have a1 : r * N ≤ 5 * 5 := Nat.mul_le_mul (by have := h.2; omega) h.2
  have a3 : (10000 : Nat) < sizeLine := by decide
  have := h.2
  omega
def rJoin (K : PySem.W.Frag) : V → List V → Hp → VK → Prop := fun x xs H Q => ∃ a p, ∃ ys : List Str, x = .str a ∧ xs = [.ref p] ∧ (SqL K H p (ys.map V.str) ∨ SqT K H p (ys.map V.str)) ∧
  (ys.map (·.length)).sum + ys.length * a.length ≤ 16777216 ∧ Q (.str (Txt.join a ys)) H
theorem pe_joinK {X : Cx} {o e : Expr} {to te : TE} {apos pos : Pos} {K : PySem.W.Frag} (hK : X.K = K) (ho : PE X o to) (he : PE X e te) (hs : starEach [e] X.env = [(false, eval e X.env)] := by rfl)
    (hbase : attributeBase o "join" X.env (eval o X.env) = eval o X.env := by rfl) (hline : (apos.endLine == pos.line) = true := by rfl) : PE X (.Call (.Attribute o "join" apos) [e] [] pos) (tM1 (rJoin K) to te) := by
  subst hK
  exact pe_join ho he hs hbase hline
abbrev sco : Scope := { kind := .function, names := [(".0", .local), ("r", .cell), ("range", .globalImplicit), ("found", .free), ("n", .free)], isGenerator := false, isCoroutine := false }
section
variable {P : Program} {w : World} {K : PySem.W.Frag} {mg : Str → Option Value} {base : Heap}
theorem two_leE : 2 ≤ sizeLine := by decide
/-- moved -/
theorem ok_mov {k : Nat} (T : Tx K w mg) (D : Df K mg "moved" t_mov p_mov) (cL : Cal P w K mg base k "led" (sp_led K) []) : Cal P w K mg base (k + 1) "moved" (sp_mov K) [] := by
  refine D.cal sc_mov (fun vs H Q E h => ?_) (fun f cdv A outer s H vs Q E hr h => ?_)
  · obtain ⟨_, _, _, _, _, rfl, _⟩ := h
    rfl
  · obtain ⟨N, C, c, a, m, rfl, hN, hc, ha, ret⟩ := h
    have hn : (0 : Int) < N := by have := hN.1; omega
    refine ⟨_, pss_cons (ps_set (i := 2) sc_mov.nd rfl (.inr rfl) (pe_callB call_len_seq (by rfl) T.len PySem.boot_len (pa_cons (pv 0) pa_nil)))
      (pss_cons (ps_set (i := 3) sc_mov.nd rfl (.inr rfl) pe_dnewT)
      (pss_cons (ps_for PassesOwn.never rfl (pi_range1 (by rfl) T.range (pa_cons (pv 2) pa_nil)) (pg_name (i := 4) sc_mov.nd rfl (.inl rfl))
        (pss_one (ps_for PassesOwn.never rfl (pi_range1 (by rfl) T.range (pa_cons (pv 2) pa_nil)) (pg_name (i := 5) sc_mov.nd rfl (.inl rfl))
          (pss_one (ps_dput (hu_of hr) (pv 3) (C8.pe_c cL hr (Nat.le_refl _) (by rfl) (pa_cons (pv 2) (pa_cons (pv 1) (pa_cons (pe_tup (pa_cons (pv 4) (pa_cons (pv 5) pa_nil))) pa_nil))))
            (pe_ix ix_str (pe_ix ix_tup (pv 0) (pv 4) (fun _ _ => rfl)) (pv 5) (fun _ _ => rfl)) rfl)))))
      (pss_one (ps_ret (pe_tupleOf (by rfl) T.tuple
        (pe_lc (own := [("r", 4)]) (g := gName 4) rfl sc_mov.nd (pi_range1 (by rfl) T.range (pa_cons (pv 2) pa_nil))
          (blkOk_by (own := [("r", 4)]) (N := n_mov) (sc := defScope t_mov) (by decide +kernel)) (fun _ _ _ _ _ => pg_name (i := 4) sc_mov.nd rfl (Or.inr rfl)) (fun _ _ _ _ _ => pts_nil)
          (fun _ _ _ _ _ => pe_joinK (K := K) rfl pe_str (pe_lc (own := [("c", 5)]) (g := gName 5) rfl sc_mov.nd (pi_range1 (by rfl) T.range (pa_cons (pv 2) pa_nil))
            (blkOk_by (own := [("c", 5)]) (N := n_mov) (sc := relS sco (defScope t_mov)) (by decide +kernel)) (fun _ _ _ _ _ => pg_name (i := 5) sc_mov.nd rfl (Or.inl rfl)) (fun _ _ _ _ _ => pts_nil)
            (fun _ _ _ _ _ => pe_dget (hu_of hr) (pv 3) (pe_tup (pa_cons (pv 4) (pa_cons (pv 5) pa_nil))) (fun _ _ => rfl)))))))))), ?_⟩
    have b5 : (0 : Int) ≤ N ∧ (N : Int) ≤ 100000 := ⟨by omega, by have := hN.2; omega⟩
    refine ⟨_, rfl, c, crp N C, rfl, .inr hc, ?_⟩
    refine nm_eq [some (.ref c), some (.ref a), some (.int (N : Int)), none, none, none] (by rw [crp_len]; rfl) ?_
    refine fun d hd => ?_
    refine nm_eq [some (.ref c), some (.ref a), some (.int (N : Int)), some (.ref d), none, none] rfl ?_
    refine Evl.q_forR1 (n := (N : Int)) (Evl.ea_cons (Evl.ev_var rfl) Evl.ea_nil) b5
      (fun r σ H' => ∃ y4 y5 kv, σ = [some (.ref c), some (.ref a), some (.int (N : Int)), some (.ref d), y4, y5] ∧ H' d = some (.dT kv) ∧ LedSo N C m r 0 kv ∧ Ex H H')
      (fun H1 e1 => ⟨none, none, [], rfl, e1 d _ upd_same, ⟨Nat.zero_le _, fun p _ hp => ?_⟩, (Ex.new hd).trans e1⟩) (fun r σ H1 hrN hP => ?_) (fun σ H1 hP => ?_)
    · obtain ⟨d1, d2, d3⟩ := hp
      omega
    · obtain ⟨y4, y5, kv, rfl, hD, hL, eH⟩ := hP
      refine st_eq [some (.ref c), some (.ref a), some (.int (N : Int)), some (.ref d), some (.int (r : Int)), y5] rfl ?_
      refine Evl.s_forR1 (n := (N : Int)) (Evl.ea_cons (Evl.ev_var rfl) Evl.ea_nil) b5
        (fun j σ H' => ∃ y5 kv, σ = [some (.ref c), some (.ref a), some (.int (N : Int)), some (.ref d), some (.int (r : Int)), y5] ∧ H' d = some (.dT kv) ∧ LedSo N C m r j kv ∧ Ex H H')
        (fun H2 e2 => ⟨y5, kv, rfl, e2 d _ hD, hL, eH.trans e2⟩) (fun j σ H2 hjN hP => ?_) (fun σ H2 hP => ?_)
      · obtain ⟨y5, kv, rfl, hD, hL, eH⟩ := hP
        have hr1 : r < N := by omega
        have hj1 : j < N := by omega
        refine st_eq [some (.ref c), some (.ref a), some (.int (N : Int)), some (.ref d), some (.int (r : Int)), some (.int (j : Int))] rfl ?_
        refine ⟨_, rfl, _, rfl, c, crp N C, r, _, rfl, rfl, Evl.ex_t eH hc, crp_at hr1, _, rfl, ?_⟩
        refine ⟨_, _, C r j, rfl, rfl, by rw [rowS_len]; exact five_le hN, rowS_at hj1, ?_⟩
        refine ⟨_, rfl, _, rfl, _, rfl, _, rfl, _, rfl, two_leE, fun q hq => ?_⟩
        have eq := Ex.new (o := .tup [.int (r : Int), .int (j : Int)]) hq
        refine ⟨N, a, q, m, r, j, rfl, hn, Evl.ex_t (eH.trans eq) ha, .inl (.inl upd_same), fun t H3 e3 ht => ?_⟩
        have hD3 := e3 d _ (eq d _ hD)
        refine ⟨d, _, rfl, DPut.t (k := pk (led N m ((r : Int), (j : Int)))) hD3 ht (size25 hN hr1 hj1 hL.len), ?_⟩
        refine ⟨_, _, rfl, upd_same, hL.put hr1 hj1, ?_⟩
        exact ((eH.trans eq).trans e3).mut hd
      · obtain ⟨y5, kv, rfl, hD, hL, eH⟩ := hP
        rw [Int.toNat_natCast] at hL
        exact ⟨_, _, kv, rfl, hD, hL.next, eH⟩
    · obtain ⟨y4, y5, kv, rfl, hD, hL, eH⟩ := hP
      rw [Int.toNat_natCast] at hL
      have hv := hL.all (by have := hN.1; omega)
      refine ⟨_, rfl, (N : Int), rfl, by omega, by have := hN.2; omega, fun L hLn => ?_⟩
      refine lc_range (lo := 0) (n := ((N : Int)).toNat) (fun i H' => Ex H1 H' ∧ H' L = some (.lst ((List.range i).map fun (i : Nat) => V.str (rowS N (mvC N m C) (i : Int))))) ⟨Ex.new hLn, upd_same⟩ (fun i H2 hi hP => ?_) (fun H2 hP => ?_)
      · obtain ⟨e2, l2⟩ := hP
        rw [Int.toNat_natCast] at hi
        refine nm_eq [some (.ref c), some (.ref a), some (.int (N : Int)), some (.ref d), some (.int (i : Int)), y5] (by rw [Int.zero_add]; rfl) ?_
        refine ⟨rfl, tyes ?_⟩
        refine ⟨⟨_, rfl⟩, _, rfl, (N : Int), rfl, by omega, by have := hN.2; omega, fun M hM => ?_⟩
        refine lc_range (lo := 0) (n := ((N : Int)).toNat) (fun j H' => Ex H2 H' ∧ H' M = some (.lst ((List.range j).map fun (j : Nat) => V.str ⟨#[mvC N m C i j]⟩))) ⟨Ex.new hM, upd_same⟩ (fun j H3 hj hP => ?_) (fun H3 hP => ?_)
        · obtain ⟨e3, l3⟩ := hP
          rw [Int.toNat_natCast] at hj
          refine nm_eq [some (.ref c), some (.ref a), some (.int (N : Int)), some (.ref d), some (.int (i : Int)), some (.int (j : Int))] (by rw [Int.zero_add]; rfl) ?_
          refine ⟨rfl, tyes ?_⟩
          refine ⟨_, rfl, _, rfl, _, rfl, two_leE, fun q hq => ?_⟩
          have eq := Ex.new (o := .tup [.int (i : Int), .int (j : Int)]) hq
          have inn : In N ((i : Int), (j : Int)) := by unfold In; dsimp only; omega
          obtain ⟨v, hv1, hv2⟩ := hv i j inn
          refine ⟨d, v, rfl, .inr ⟨kv, [Sum.inl (i : Int), Sum.inl (j : Int)], q, .inl (eq d _ (e3 d _ (e2 d _ hD))), rfl, upd_same, hv1.symm⟩, ?_⟩
          refine ⟨_, eq M _ l3, ?_, ?_⟩
          · rw [List.length_map, List.length_range]
            exact Nat.lt_of_lt_of_le hj (five_le hN)
          · refine ⟨(e3.trans eq).mut hM, ?_⟩
            rw [upd_same, List.range_succ, List.map_append, hv2]
            rfl
        · obtain ⟨e3, l3⟩ := hP
          rw [Int.toNat_natCast] at l3
          have em : ((List.range N).map fun (j : Nat) => V.str ⟨#[mvC N m C i j]⟩) = ((cds N (mvC N m C) i).map fun c => (⟨#[c]⟩ : Str)).map V.str := by
            unfold cds
            rw [List.map_map, List.map_map]
            rfl
          refine ⟨("" : Str), M, (cds N (mvC N m C) i).map fun c => (⟨#[c]⟩ : Str), rfl, rfl, .inl (.inl (.inl (by rw [← em]; exact l3))), ?_, ?_⟩
          · have s1 : (((cds N (mvC N m C) i).map fun c => (⟨#[c]⟩ : Str)).map (·.length)).sum = N := by
              rw [List.map_map]
              have : ∀ l : List Nat, (l.map ((fun x : Str => x.length) ∘ fun c => (⟨#[c]⟩ : Str))).sum = l.length := by
                intro l
                induction l with
                | nil => rfl
                | cons a r ih => rw [List.map_cons, List.sum_cons, ih, List.length_cons]; show 1 + r.length = _; omega
              rw [this]
              unfold cds
              rw [List.length_map, List.length_range]
            have s2 : (("" : Str)).length = 0 := by decide +kernel
            rw [s1, s2, Nat.mul_zero]
            have := hN.2
            omega
          · rw [join_signs]
            refine ⟨_, e3 L _ l2, ?_, ?_⟩
            · rw [List.length_map, List.length_range]
              exact Nat.lt_of_lt_of_le hi (five_le hN)
            · refine ⟨(e2.trans e3).mut hLn, ?_⟩
              rw [upd_same, List.range_succ, List.map_append]
              rfl
      · obtain ⟨e2, l2⟩ := hP
        rw [Int.toNat_natCast] at l2
        refine .inl ⟨L, _, rfl, .inl (.inl l2), fun q hq => ?_⟩
        exact ret q _ ((eH.trans e2).trans (Ex.new hq)) upd_same
end
end Ck
namespace Ck
open PySem PySem.Spec PyProof.Rows L2
open Evl (Ex)
/-! ### carpets compared -/
def crpD (N : Nat) (C : Carp) : PyData := .tuple ((List.range N).map fun (i : Nat) => PyData.str (rowS N C (i : Int)))
theorem all_strs {N : Nat} {K : PySem.W.Frag} {H : Hp} {f : Nat → Str} : ∀ l : List Nat, DpAll K H (l.map fun i => V.str (f i)) (l.map fun i => PyData.str (f i))
  | [] => .nil
  | a :: r => .cons (.str _) (all_strs (N := N) r)
theorem crp_dp {K : PySem.W.Frag} {H : Hp} {c : Addr} {N : Nat} {C : Carp} (h : SqT K H c (crp N C)) : Dp K H (.ref c) (crpD N C) := .tup h (all_strs (N := N) (f := fun i => rowS N C (i : Int)) _)
theorem rowS_ok {N : Nat} {C : Carp} (h : Cb C) (i : Int) : PyData.strOk (rowS N C i) = true := by
  unfold PyData.strOk rowS
  rw [← Array.all_toList, List.all_eq_true]
  intro x hx
  obtain ⟨j, _, e⟩ := List.mem_map.mp (show x ∈ (List.range N).map fun (j : Nat) => C i (j : Int) from hx)
  rw [← e]
  exact decide_eq_true (h _ _)
theorem strs_lay {f : Nat → Str} (h : ∀ i, PyData.strOk (f i) = true) : ∀ l : List Nat, PyData.canLayAll0 (l.map fun i => PyData.str (f i)) = true ∧ PyData.depthAll (l.map fun i => PyData.str (f i)) = 0
  | [] => ⟨by simp [PyData.canLayAll0], by simp [PyData.depthAll]⟩
  | a :: r => by
    have q := strs_lay h r
    rw [List.map_cons]
    constructor
    · simp [PyData.canLayAll0, PyData.canLay0, h a, q.1]
    · simp [PyData.depthAll, PyData.depth, q.2]
theorem crpD_ok {N : Nat} {C : Carp} (h : Cb C) : SeqAt.shaped (crpD N C) = true := by
  have q := strs_lay (f := fun i => rowS N C (i : Int)) (fun i => rowS_ok h _) (List.range N)
  unfold SeqAt.shaped crpD
  simp [PyData.canLay0, PyData.depth, q.1, q.2]
theorem eqv_strs {f g : Nat → Str} : ∀ l : List Nat, PyData.eqvAll (l.map fun i => PyData.str (f i)) (l.map fun i => PyData.str (g i)) = true ↔ ∀ i ∈ l, f i = g i
  | [] => by simp [PyData.eqvAll]
  | a :: r => by
    rw [List.map_cons, List.map_cons]
    simp [PyData.eqvAll, PyData.eqv, eqv_strs r]
theorem crp_eqv {N : Nat} {A B : Carp} : PyData.eqv (crpD N A) (crpD N B) = true ↔ Ck.Same N A B := by
  unfold crpD
  have e : PyData.eqv (.tuple ((List.range N).map fun (i : Nat) => PyData.str (rowS N A (i : Int)))) (.tuple ((List.range N).map fun (i : Nat) => PyData.str (rowS N B (i : Int)))) =
      PyData.eqvAll ((List.range N).map fun (i : Nat) => PyData.str (rowS N A (i : Int))) ((List.range N).map fun (i : Nat) => PyData.str (rowS N B (i : Int))) := by
    simp [PyData.eqv]
  rw [e, eqv_strs (f := fun i => rowS N A (i : Int)) (g := fun i => rowS N B (i : Int))]
  constructor
  · intro h r c hi
    obtain ⟨h1, h2, h3, h4⟩ := hi
    dsimp only at h1 h2 h3 h4
    have q := h r.toNat (List.mem_range.mpr (by omega))
    rw [Int.toNat_of_nonneg h1] at q
    have a1 := rowS_at (N := N) (C := A) (i := r) (j := c.toNat) (by omega)
    have a2 := rowS_at (N := N) (C := B) (i := r) (j := c.toNat) (by omega)
    rw [q, a2] at a1
    rw [Int.toNat_of_nonneg h3] at a1
    exact (Option.some.inj a1).symm
  · intro h i hi
    have hi := List.mem_range.mp hi
    show rowS N A i = rowS N B i
    unfold rowS
    congr 1
    congr 1
    refine List.map_congr_left fun j hj => ?_
    have hj := List.mem_range.mp hj
    exact h i j (by unfold In; dsimp only; omega)
theorem Cb.mv {n : Int} {m : Mv} {C : Carp} (h : Cb C) : Cb (mvC n m C) := fun i j => h _ _
theorem crp_atI {N : Nat} {C : Carp} {x : Int} (h0 : 0 ≤ x) (h1 : x < N) : atI (crp N C) x = some (.str (rowS N C x)) := by
  have q := crp_at (N := N) (C := C) (i := x.toNat) (by omega)
  rw [Int.toNat_of_nonneg h0] at q
  exact q
theorem rowS_atI {N : Nat} {C : Carp} {i x : Int} (h0 : 0 ≤ x) (h1 : x < N) : atI (rowS N C i).cps.toList x = some (C i x) := by
  have q := rowS_at (N := N) (C := C) (i := i) (j := x.toNat) (by omega)
  rw [Int.toNat_of_nonneg h0] at q
  exact q
theorem ev_lenT {K : PySem.W.Frag} {σ : L2.St} {H : Hp} {ta : TE} {p : Addr} {xs : List V} (ha : Evl.Ev ta σ H (.ref p)) (h : SqT K H p xs) : Evl.Ev (tCB (Evl.rLenS K) (tCons ta tNil)) σ H (.int (xs.length : Int)) := fun H1 e Q q =>
  ha H1 e _ fun H2 e2 => ⟨p, xs, rfl, .inr (Evl.ex_t (e.trans e2) h), q H2 e2⟩
theorem sign_ne {a b : Nat} : (!decide (V.str ⟨#[a]⟩ = V.str ⟨#[b]⟩)) = !decide (a = b) := by
  congr 1
  rw [decide_eq_decide]
  constructor
  · intro h
    injection h with h
    injection h with h
    injection h with h
    injection h
  · intro h; rw [h]
section
variable {P : Program} {w : World} {K : PySem.W.Frag} {mg : Str → Option Value} {base : Heap}
theorem two_leF : 2 ≤ sizeLine := by decide
/-- leaves -/
theorem ok_lvs {k : Nat} (D : Df K mg "leaves" t_lvs p_lvs) (cM : Cal P w K mg base k "moved" (sp_mov K) []) : Cal P w K mg base (k + 1) "leaves" (sp_lvs K) [] := by
  refine D.cal sc_lvs (fun vs H Q E h => ?_) (fun f cdv A outer s H vs Q E hr h => ?_)
  · obtain ⟨_, _, _, _, _, rfl, _⟩ := h
    rfl
  · obtain ⟨N, C, c, a, m, rfl, hN, hC, hc, ha, ret⟩ := h
    have hn : (0 : Int) < N := by have := hN.1; omega
    refine ⟨_, pss_one (ps_ret (pe_cmpR (op_eqD hr.units) (C8.pe_c cM hr (Nat.le_refl _) (by rfl) (pa_cons (pv 0) (pa_cons (pv 1) pa_nil))) (pv 0) (nomark _))), ?_⟩
    refine ⟨_, rfl, _, rfl, N, C, c, a, m, rfl, hN, hc, ha, fun p H1 e1 hp => ?_⟩
    refine ⟨_, rfl, crpD N (mvC N m C), crpD N C, crp_dp (.inl (.inl hp)), crp_dp (Evl.ex_t e1 hc), crpD_ok hC.mv, crpD_ok hC, ?_⟩
    exact ret _ (crp_eqv.trans (same_iff hn m C)) H1 e1
/-- unlike_at -/
theorem ok_unl {k : Nat} (T : Tx K w mg) (D : Df K mg "unlike_at" t_unl p_unl) (cM : Cal P w K mg base k "moved" (sp_mov K) []) : Cal P w K mg base (k + 1) "unlike_at" (sp_unl K) [] := by
  refine D.cal sc_unl (fun vs H Q E h => ?_) (fun f cdv A outer s H vs Q E hr h => ?_)
  · obtain ⟨_, _, _, _, _, rfl, _⟩ := h
    rfl
  · obtain ⟨N, C, c, a, m, rfl, hN, hc, ha, ret1, ret2⟩ := h
    have hn : (0 : Int) < N := by have := hN.1; omega
    have b5 : (0 : Int) ≤ N ∧ (N : Int) ≤ 100000 := ⟨by omega, by have := hN.2; omega⟩
    refine ⟨_, pss_cons (ps_set (i := 2) sc_unl.nd rfl (.inl rfl) (C8.pe_c cM hr (Nat.le_refl _) (by rfl) (pa_cons (pv 0) (pa_cons (pv 1) pa_nil))))
      (pss_cons (ps_for PassesOwn.never rfl (pi_range1 (by rfl) T.range (pa_cons (pe_callB call_len_seq (by rfl) T.len PySem.boot_len (pa_cons (pv 0) pa_nil)) pa_nil)) (pg_name (i := 3) sc_unl.nd rfl (.inl rfl))
        (pss_one (ps_for PassesOwn.never rfl (pi_range1 (by rfl) T.range (pa_cons (pe_callB call_len_seq (by rfl) T.len PySem.boot_len (pa_cons (pv 0) pa_nil)) pa_nil)) (pg_name (i := 4) sc_unl.nd rfl (.inl rfl))
          (pss_one (ps_if (pt_cmpR op_ne (pe_ix ix_str (pe_ix ix_tup (pv 2) (pv 3) (fun _ _ => rfl)) (pv 4) (fun _ _ => rfl)) (pe_ix ix_str (pe_ix ix_tup (pv 0) (pv 3) (fun _ _ => rfl)) (pv 4) (fun _ _ => rfl)) (nomark _))
            (pss_one (ps_ret (pe_tup (pa_cons (pv 3) (pa_cons (pv 4) pa_nil))))) pss_nil)))))
      (pss_one (ps_ret pe_non))), ?_⟩
    refine ⟨_, rfl, _, rfl, N, C, c, a, m, rfl, hN, hc, ha, fun o H1 e1 ho => ?_⟩
    refine nm_eq [some (.ref c), some (.ref a), some (.ref o), none, none] rfl ?_
    have hl : ∀ {σ : L2.St} {H' : Hp}, σ[0]? = some (some (.ref c)) → Ex H H' → Evl.EvA (tCons (tCB (Evl.rLenS K) (tCons (tVar 0) tNil)) tNil) σ H' [.int (N : Int)] := fun {σ H'} h0 eH => by
      have q := ev_lenT (K := K) (Evl.ev_var (H := H') h0) (Evl.ex_t eH hc)
      rw [crp_len] at q
      exact Evl.ea_cons q Evl.ea_nil
    refine Evl.q_forR1 (n := (N : Int)) (hl rfl e1) b5
      (fun r σ H' => ∃ y3 y4, σ = [some (.ref c), some (.ref a), some (.ref o), y3, y4] ∧ Ex H1 H' ∧ ∀ p, In N p → Done r 0 p → mvC N m C p.1 p.2 = C p.1 p.2)
      (fun H2 e2 => ⟨none, none, rfl, e2, fun p _ hd => ?_⟩) (fun r σ H2 hrN hP => ?_) (fun σ H2 hP => ?_)
    · obtain ⟨d1, d2, d3⟩ := hd
      omega
    · obtain ⟨y3, y4, rfl, e2, hS⟩ := hP
      refine st_eq [some (.ref c), some (.ref a), some (.ref o), some (.int (r : Int)), y4] rfl ?_
      refine Evl.s_forR1 (n := (N : Int)) (hl rfl (e1.trans e2)) b5
        (fun j σ H' => ∃ y4, σ = [some (.ref c), some (.ref a), some (.ref o), some (.int (r : Int)), y4] ∧ Ex H1 H' ∧ ∀ p, In N p → Done r j p → mvC N m C p.1 p.2 = C p.1 p.2)
        (fun H3 e3 => ⟨y4, rfl, e2.trans e3, hS⟩) (fun j σ H3 hjN hP => ?_) (fun σ H3 hP => ?_)
      · obtain ⟨y4, rfl, e3, hS⟩ := hP
        refine st_eq [some (.ref c), some (.ref a), some (.ref o), some (.int (r : Int)), some (.int (j : Int))] rfl ?_
        have hr1 : r < N := by omega
        have hj1 : j < N := by omega
        have inn : In N ((r : Int), (j : Int)) := by unfold In; dsimp only; omega
        refine ⟨_, rfl, _, rfl, o, _, r, _, rfl, rfl, .inl (.inl (e3 o _ ho)), crp_at hr1, _, rfl, ?_⟩
        refine ⟨_, _, mvC N m C r j, rfl, rfl, by rw [rowS_len]; exact five_le hN, rowS_at hj1, ?_⟩
        refine ⟨_, rfl, _, rfl, c, _, r, _, rfl, rfl, Evl.ex_t (e1.trans e3) hc, crp_at hr1, _, rfl, ?_⟩
        refine ⟨_, _, C r j, rfl, rfl, by rw [rowS_len]; exact five_le hN, rowS_at hj1, ?_⟩
        refine ⟨rfl, _, rfl, ?_⟩
        rw [sign_ne]
        refine ite2 (fun h => ?_) (fun h => ?_)
        · have h : mvC N m C r j ≠ C r j := by simpa using h
          refine ⟨_, rfl, _, rfl, two_leF, fun q hq => ?_⟩
          exact ret2 r j inn h q _ ((e1.trans e3).trans (Ex.new hq)) upd_same
        · have h : mvC N m C r j = C r j := by simpa using h
          refine ⟨_, rfl, e3, fun p hp hd => ?_⟩
          by_cases e : p = ((r : Int), (j : Int))
          · rw [e]; exact h
          · refine hS p hp ?_
            obtain ⟨d1, d2, d3⟩ := hd
            refine ⟨d1, d2, ?_⟩
            rcases d3 with d3 | ⟨d3, d4⟩
            · exact .inl d3
            · refine .inr ⟨d3, ?_⟩
              have ne : p.2 ≠ j := fun z => e (Prod.ext d3 z)
              omega
      · obtain ⟨y4, rfl, e3, hS⟩ := hP
        refine ⟨_, _, rfl, e3, fun p hp hd => hS p hp ?_⟩
        rw [Int.toNat_natCast]
        obtain ⟨d1, d2, d3⟩ := hd
        obtain ⟨_, _, _, h4⟩ := hp
        refine ⟨d1, d2, ?_⟩
        omega
    · obtain ⟨y3, y4, rfl, e2, hS⟩ := hP
      rw [Int.toNat_natCast] at hS
      refine ret1 ((same_iff hn m C).mp fun r c hi => ?_) H2 (e1.trans e2)
      exact hS (r, c) hi ⟨hi.2.2.1, hi.1, .inl hi.2.1⟩
end
end Ck
namespace Ck
open PySem PySem.Spec PyProof.Rows L2
open Evl (Ex)
section
variable {P : Program} {w : World} {K : PySem.W.Frag} {mg : Str → Option Value} {base : Heap}
theorem mvs_get {K : PySem.W.Frag} {H : Hp} : ∀ {qs : List Addr} {ms : List Mv} {i : Nat} {q : Addr}, Mvs K H qs ms → qs[i]? = some q → ∃ m, ms[i]? = some m ∧ SqT K H q (mvV m)
  | _, _, _, _, .nil, e => by simp at e
  | _, _, 0, _, .cons h _, e => by
    have e := Option.some.inj e
    subst e
    exact ⟨_, rfl, h⟩
  | _, _, i + 1, q, .cons _ t, e => by
    obtain ⟨m, h1, h2⟩ := mvs_get (i := i) t (by simpa using e)
    exact ⟨m, by simpa using h1, h2⟩
theorem refs_get {qs : List Addr} {i : Nat} {x : V} (h : (qs.map V.ref)[i]? = some x) : ∃ q, qs[i]? = some q ∧ x = .ref q := by
  rw [List.getElem?_map] at h
  obtain ⟨q, h1, h2⟩ := Option.map_eq_some_iff.mp h
  exact ⟨q, h1, h2.symm⟩
theorem take_snoc {α : Type} {l : List α} {i : Nat} {x : α} (h : l[i]? = some x) : l.take (i + 1) = l.take i ++ [x] := by
  rw [List.take_add_one, h]
  rfl
noncomputable def lvB (N : Nat) (C : Carp) (m : Mv) : Bool := @decide (Lv N C m) (Classical.propDecidable _)
theorem lvB_iff {N : Nat} {C : Carp} {m : Mv} : lvB N C m = true ↔ Lv N C m := by
  unfold lvB
  exact ⟨fun h => @of_decide_eq_true _ (Classical.propDecidable _) h, fun h => @decide_eq_true _ (Classical.propDecidable _) h⟩
theorem lvs_eq (N : Nat) (C : Carp) : lvs N C = (alls N).filter fun m => lvB N C m := rfl
theorem alls_le {N : Nat} (h : Sz N) : (alls N).length ≤ 200 := by
  rw [alls_len]
  have : N * N ≤ 5 * 5 := Nat.mul_le_mul h.2 h.2
  omega
theorem lt_line {n : Nat} (h : n ≤ 200) : n < sizeLine := Nat.lt_of_le_of_lt h (by decide)
/-- leaving -/
theorem ok_lvg {k : Nat} (T : Tx K w mg) (D : Df K mg "leaving" t_lvg p_lvg) (cA : Cal P w K mg base k "all_movements" (sp_alm K) []) (cL : Cal P w K mg base k "leaves" (sp_lvs K) []) : Cal P w K mg base (k + 1) "leaving" (sp_lvg K) [] := by
  refine D.cal sc_lvg (fun vs H Q E h => ?_) (fun f cdv A outer s H vs Q E hr h => ?_)
  · obtain ⟨_, _, _, rfl, _⟩ := h
    rfl
  · obtain ⟨N, C, c, rfl, hN, hC, hc, ret⟩ := h
    refine ⟨_, pss_one (ps_ret (pe_lc (own := [("movement", 1)]) (g := gName 1) rfl sc_lvg.nd (pi_list (C8.pe_c cA hr (Nat.le_refl _) (by rfl) (pa_cons (pe_callB call_len_seq (by rfl) T.len PySem.boot_len (pa_cons (pv 0) pa_nil)) pa_nil)))
        (blkOk_by (own := [("movement", 1)]) (N := n_lvg) (sc := defScope t_lvg) (by decide +kernel)) (fun _ _ _ _ _ => pg_name (i := 1) sc_lvg.nd rfl (Or.inl rfl))
        (fun _ _ _ _ _ => pts_one (pt_val (C8.pe_c cL hr (Nat.le_refl _) (by rfl) (pa_cons (pv 0) (pa_cons (pv 1) pa_nil)))))
        (fun _ _ _ _ _ => pv 1))), ?_⟩
    refine ⟨_, rfl, c, crp N C, rfl, .inr hc, ?_⟩
    rw [crp_len]
    refine ⟨N, rfl, hN, fun p qs H1 e1 hp hl hm => ?_⟩
    refine ⟨p, rfl, ⟨_, .inl (.inl hl)⟩, fun L hL => ?_⟩
    have hL0 := Evl.fresh_back e1 hL
    refine lc_list (K := K) (a := p) (xs := qs.map V.ref) (fun i H' => Ex H1 H' ∧ ∃ os : List Addr, H' L = some (.lst (os.map V.ref)) ∧ Mvs K H' os (((alls N).take i).filter fun m => lvB N C m)) ⟨Ex.new hL, [], upd_same, .nil⟩ (fun i H' _ hP => .inl (.inl (hP.1 p _ hl))) (fun i x H' hx hP => ?_) (fun H' hP => ?_)
    · obtain ⟨e2, os, l2, hm2⟩ := hP
      obtain ⟨q, hq, rfl⟩ := refs_get hx
      obtain ⟨m, hmi, hqm⟩ := mvs_get hm hq
      have hq2 := Evl.ex_t e2 hqm
      refine ⟨rfl, _, rfl, _, rfl, N, C, c, q, m, rfl, hN, hC, Evl.ex_t (e1.trans e2) hc, hq2, fun b hb H3 e3 => ⟨_, rfl, ?_⟩⟩
      have tk := take_snoc hmi
      refine ite2 (fun hbt => ?_) (fun hbf => ?_)
      · have hv : lvB N C m = true := lvB_iff.mpr (hb.mp hbt)
        have sx : Sx H3 (upd H3 L (.lst (os.map V.ref ++ [.ref q]))) := Sx.upd (e3 L _ l2) trivial
        refine ⟨_, rfl, _, e3 L _ l2, ?_, (e2.trans e3).mut hL, os ++ [q], ?_, ?_⟩
        · rw [List.length_map, mvs_len hm2]
          refine lt_line (Nat.le_trans (List.length_filter_le _ _) ?_)
          rw [List.length_take]
          exact Nat.le_trans (Nat.min_le_right _ _) (alls_le hN)
        · rw [upd_same, List.map_append]
          rfl
        · rw [tk, List.filter_append, List.filter_cons, if_pos hv]
          exact mvs_snoc (mvs_sx sx (mvs_ex e3 hm2)) (sx_t sx (Evl.ex_t e3 hq2))
      · have hv : ¬ lvB N C m = true := fun z => hbf (hb.mpr (lvB_iff.mp z))
        refine ⟨e2.trans e3, os, e3 L _ l2, ?_⟩
        rw [tk, List.filter_append, List.filter_cons, if_neg hv, List.filter_nil, List.append_nil]
        exact mvs_ex e3 hm2
    · obtain ⟨e2, os, l2, hm2⟩ := hP
      rw [List.length_map, mvs_len hm, List.take_length] at hm2
      exact ret L os H' (e1.trans e2) hL0 l2 hm2
/-- _law_left -/
theorem ok_left {k : Nat} (T : Tx K w mg) (D : Df K mg "_law_left" t_left p_left) (cP : Cal P w K mg base k "_law_place" (sp_plc K) []) : Cal P w K mg base (k + 1) "_law_left" (sp_left K) [] := by
  refine D.cal sc_left (fun vs H Q E h => ?_) (fun f cdv A outer s H vs Q E hr h => ?_)
  · obtain ⟨_, _, _, _, _, rfl, _⟩ := h
    rfl
  · obtain ⟨N, C, c, a, m, rfl, hN, hC, hc, ha, ret⟩ := h
    have hn : (0 : Int) < N := by have := hN.1; omega
    have b5 : (0 : Int) ≤ N ∧ (N : Int) ≤ 100000 := ⟨by omega, by have := hN.2; omega⟩
    refine ⟨_, pss_cons (ps_set (i := 2) sc_left.nd rfl (.inl rfl) (pe_callB call_len_seq (by rfl) T.len PySem.boot_len (pa_cons (pv 0) pa_nil)))
      (pss_cons (ps_for PassesOwn.never rfl (pi_range1 (by rfl) T.range (pa_cons (pv 2) pa_nil)) (pg_name (i := 3) sc_left.nd rfl (.inl rfl))
        (pss_one (ps_for PassesOwn.never rfl (pi_range1 (by rfl) T.range (pa_cons (pv 2) pa_nil)) (pg_name (i := 4) sc_left.nd rfl (.inl rfl))
          (pss_cons (ps_asg (C8.pe_c cP hr (Nat.le_refl _) (by rfl) (pa_cons (pv 2) (pa_cons (pv 1) (pa_cons (pe_tup (pa_cons (pv 3) (pa_cons (pv 4) pa_nil))) pa_nil))))
              (pg_tup (by rfl) (pgs_cons (pg_name (i := 5) sc_left.nd rfl (.inl rfl)) (pgs_cons (pg_name (i := 6) sc_left.nd rfl (.inl rfl)) pgs_nil))))
            (pss_one (ps_if (pt_cmpR op_ne (pe_ix ix_str (pe_ix ix_tup (pv 0) (pv 5) (fun _ _ => rfl)) (pv 6) (fun _ _ => rfl)) (pe_ix ix_str (pe_ix ix_tup (pv 0) (pv 3) (fun _ _ => rfl)) (pv 4) (fun _ _ => rfl)) (nomark _))
              (pss_one (ps_ret pe_bl)) pss_nil))))))
      (pss_one (ps_ret pe_bl))), ?_⟩
    refine ⟨_, rfl, c, crp N C, rfl, .inr hc, ?_⟩
    refine nm_eq [some (.ref c), some (.ref a), some (.int (N : Int)), none, none, none, none] (by rw [crp_len]; rfl) ?_
    refine Evl.q_forR1 (n := (N : Int)) (Evl.ea_cons (Evl.ev_var rfl) Evl.ea_nil) b5
      (fun r σ H' => ∃ y3 y4 y5 y6, σ = [some (.ref c), some (.ref a), some (.int (N : Int)), y3, y4, y5, y6] ∧ Ex H H' ∧ ∀ p, In N p → Done r 0 p → C (led N m p).1 (led N m p).2 = C p.1 p.2)
      (fun H2 e2 => ⟨none, none, none, none, rfl, e2, fun p _ hd => ?_⟩) (fun r σ H2 hrN hP => ?_) (fun σ H2 hP => ?_)
    · obtain ⟨d1, d2, d3⟩ := hd
      omega
    · obtain ⟨y3, y4, y5, y6, rfl, e2, hS⟩ := hP
      refine st_eq [some (.ref c), some (.ref a), some (.int (N : Int)), some (.int (r : Int)), y4, y5, y6] rfl ?_
      refine Evl.s_forR1 (n := (N : Int)) (Evl.ea_cons (Evl.ev_var rfl) Evl.ea_nil) b5
        (fun j σ H' => ∃ y4 y5 y6, σ = [some (.ref c), some (.ref a), some (.int (N : Int)), some (.int (r : Int)), y4, y5, y6] ∧ Ex H H' ∧ ∀ p, In N p → Done r j p → C (led N m p).1 (led N m p).2 = C p.1 p.2)
        (fun H3 e3 => ⟨y4, y5, y6, rfl, e2.trans e3, hS⟩) (fun j σ H3 hjN hP => ?_) (fun σ H3 hP => ?_)
      · obtain ⟨y4, y5, y6, rfl, e3, hS⟩ := hP
        refine st_eq [some (.ref c), some (.ref a), some (.int (N : Int)), some (.int (r : Int)), some (.int (j : Int)), y5, y6] rfl ?_
        have hr1 : r < N := by omega
        have hj1 : j < N := by omega
        have inn : In N ((r : Int), (j : Int)) := by unfold In; dsimp only; omega
        refine ⟨_, rfl, _, rfl, _, rfl, _, rfl, two_leF, fun q hq => ?_⟩
        have eq := e3.trans (Ex.new (o := .tup [.int (r : Int), .int (j : Int)]) hq)
        refine ⟨N, a, q, m, r, j, rfl, hn, Evl.ex_t eq ha, .inl (.inl upd_same), fun t H4 e4 ht => ?_⟩
        obtain ⟨i1, i2, i3, i4⟩ := led_in hn m ((r : Int), (j : Int))
        have e34 := eq.trans e4
        refine ⟨t, _, rfl, .inl (.inl ht), rfl, _, _, rfl, _, _, rfl, rfl, ?_⟩
        dsimp only
        refine st_eq [some (.ref c), some (.ref a), some (.int (N : Int)), some (.int (r : Int)), some (.int (j : Int)), some (.int (led N m ((r : Int), (j : Int))).1), some (.int (led N m ((r : Int), (j : Int))).2)] rfl ?_
        refine ⟨_, rfl, _, rfl, c, _, _, _, rfl, rfl, Evl.ex_t e34 hc, crp_atI i1 i2, _, rfl, ?_⟩
        refine ⟨_, _, C (led N m ((r : Int), (j : Int))).1 (led N m ((r : Int), (j : Int))).2, rfl, rfl, by rw [rowS_len]; exact five_le hN, rowS_atI i3 i4, ?_⟩
        refine ⟨_, rfl, _, rfl, c, _, r, _, rfl, rfl, Evl.ex_t e34 hc, crp_at hr1, _, rfl, ?_⟩
        refine ⟨_, _, C r j, rfl, rfl, by rw [rowS_len]; exact five_le hN, rowS_at hj1, ?_⟩
        refine ⟨rfl, _, rfl, ?_⟩
        rw [sign_ne]
        refine ite2 (fun h => ?_) (fun h => ?_)
        · have h : C (led N m ((r : Int), (j : Int))).1 (led N m ((r : Int), (j : Int))).2 ≠ C r j := by simpa using h
          refine ret false ⟨(fun z => nomatch z), (fun z => absurd (z r j inn) h)⟩ _ e34
        · have h : C (led N m ((r : Int), (j : Int))).1 (led N m ((r : Int), (j : Int))).2 = C r j := by simpa using h
          refine ⟨_, _, _, rfl, e34, fun p hp hd => ?_⟩
          by_cases e : p = ((r : Int), (j : Int))
          · rw [e]; exact h
          · refine hS p hp ?_
            obtain ⟨d1, d2, d3⟩ := hd
            refine ⟨d1, d2, ?_⟩
            rcases d3 with d3 | ⟨d3, d4⟩
            · exact .inl d3
            · refine .inr ⟨d3, ?_⟩
              have ne : p.2 ≠ j := fun z => e (Prod.ext d3 z)
              omega
      · obtain ⟨y4, y5, y6, rfl, e3, hS⟩ := hP
        refine ⟨_, _, _, _, rfl, e3, fun p hp hd => hS p hp ?_⟩
        rw [Int.toNat_natCast]
        obtain ⟨d1, d2, d3⟩ := hd
        obtain ⟨_, _, _, h4⟩ := hp
        refine ⟨d1, d2, ?_⟩
        omega
    · obtain ⟨y3, y4, y5, y6, rfl, e2, hS⟩ := hP
      rw [Int.toNat_natCast] at hS
      refine ret true ⟨fun _ r c hi => ?_, fun _ => rfl⟩ H2 e2
      exact hS (r, c) hi ⟨hi.2.2.1, hi.1, .inl hi.2.1⟩
/-- _law_led_to -/
theorem ok_ledto {k : Nat} (T : Tx K w mg) (D : Df K mg "_law_led_to" t_ledto p_ledto) (cP : Cal P w K mg base k "_law_place" (sp_plc K) []) : Cal P w K mg base (k + 1) "_law_led_to" (sp_ledto K) [] := by
  refine D.cal sc_ledto (fun vs H Q E h => ?_) (fun f cdv A outer s H vs Q E hr h => ?_)
  · obtain ⟨_, _, _, _, _, rfl, _⟩ := h
    rfl
  · obtain ⟨N, C, c, a, m, rfl, hN, hc, ha, ret⟩ := h
    have hn : (0 : Int) < N := by have := hN.1; omega
    have b5 : (0 : Int) ≤ N ∧ (N : Int) ≤ 100000 := ⟨by omega, by have := hN.2; omega⟩
    refine ⟨_, pss_cons (ps_set (i := 2) sc_ledto.nd rfl (.inl rfl) (pe_callB call_len_seq (by rfl) T.len PySem.boot_len (pa_cons (pv 0) pa_nil)))
      (pss_cons (ps_set (i := 3) sc_ledto.nd rfl (.inl rfl) pe_dnewT)
      (pss_cons (ps_for PassesOwn.never rfl (pi_range1 (by rfl) T.range (pa_cons (pv 2) pa_nil)) (pg_name (i := 4) sc_ledto.nd rfl (.inl rfl))
        (pss_one (ps_for PassesOwn.never rfl (pi_range1 (by rfl) T.range (pa_cons (pv 2) pa_nil)) (pg_name (i := 5) sc_ledto.nd rfl (.inl rfl))
          (pss_one (ps_dput (hu_of hr) (pv 3) (C8.pe_c cP hr (Nat.le_refl _) (by rfl) (pa_cons (pv 2) (pa_cons (pv 1) (pa_cons (pe_tup (pa_cons (pv 4) (pa_cons (pv 5) pa_nil))) pa_nil))))
            (pe_ix ix_str (pe_ix ix_tup (pv 0) (pv 4) (fun _ _ => rfl)) (pv 5) (fun _ _ => rfl)) rfl)))))
      (pss_one (ps_ret (pv 3))))), ?_⟩
    refine ⟨_, rfl, c, crp N C, rfl, .inr hc, ?_⟩
    refine nm_eq [some (.ref c), some (.ref a), some (.int (N : Int)), none, none, none] (by rw [crp_len]; rfl) ?_
    refine fun d hd => ?_
    refine nm_eq [some (.ref c), some (.ref a), some (.int (N : Int)), some (.ref d), none, none] rfl ?_
    refine Evl.q_forR1 (n := (N : Int)) (Evl.ea_cons (Evl.ev_var rfl) Evl.ea_nil) b5
      (fun r σ H' => ∃ y4 y5 kv, σ = [some (.ref c), some (.ref a), some (.int (N : Int)), some (.ref d), y4, y5] ∧ H' d = some (.dT kv) ∧ LedSo N C m r 0 kv ∧ Ex H H')
      (fun H1 e1 => ⟨none, none, [], rfl, e1 d _ upd_same, ⟨Nat.zero_le _, fun p _ hp => ?_⟩, (Ex.new hd).trans e1⟩) (fun r σ H1 hrN hP => ?_) (fun σ H1 hP => ?_)
    · obtain ⟨d1, d2, d3⟩ := hp
      omega
    · obtain ⟨y4, y5, kv, rfl, hD, hL, eH⟩ := hP
      refine st_eq [some (.ref c), some (.ref a), some (.int (N : Int)), some (.ref d), some (.int (r : Int)), y5] rfl ?_
      refine Evl.s_forR1 (n := (N : Int)) (Evl.ea_cons (Evl.ev_var rfl) Evl.ea_nil) b5
        (fun j σ H' => ∃ y5 kv, σ = [some (.ref c), some (.ref a), some (.int (N : Int)), some (.ref d), some (.int (r : Int)), y5] ∧ H' d = some (.dT kv) ∧ LedSo N C m r j kv ∧ Ex H H')
        (fun H2 e2 => ⟨y5, kv, rfl, e2 d _ hD, hL, eH.trans e2⟩) (fun j σ H2 hjN hP => ?_) (fun σ H2 hP => ?_)
      · obtain ⟨y5, kv, rfl, hD, hL, eH⟩ := hP
        have hr1 : r < N := by omega
        have hj1 : j < N := by omega
        refine st_eq [some (.ref c), some (.ref a), some (.int (N : Int)), some (.ref d), some (.int (r : Int)), some (.int (j : Int))] rfl ?_
        refine ⟨_, rfl, _, rfl, c, crp N C, r, _, rfl, rfl, Evl.ex_t eH hc, crp_at hr1, _, rfl, ?_⟩
        refine ⟨_, _, C r j, rfl, rfl, by rw [rowS_len]; exact five_le hN, rowS_at hj1, ?_⟩
        refine ⟨_, rfl, _, rfl, _, rfl, _, rfl, _, rfl, two_leF, fun q hq => ?_⟩
        have eq := Ex.new (o := .tup [.int (r : Int), .int (j : Int)]) hq
        refine ⟨N, a, q, m, r, j, rfl, hn, Evl.ex_t (eH.trans eq) ha, .inl (.inl upd_same), fun t H3 e3 ht => ?_⟩
        have hD3 := e3 d _ (eq d _ hD)
        refine ⟨d, _, rfl, DPut.t (k := pk (led N m ((r : Int), (j : Int)))) hD3 ht (size25 hN hr1 hj1 hL.len), ?_⟩
        refine ⟨_, _, rfl, upd_same, hL.put hr1 hj1, ?_⟩
        exact ((eH.trans eq).trans e3).mut hd
      · obtain ⟨y5, kv, rfl, hD, hL, eH⟩ := hP
        rw [Int.toNat_natCast] at hL
        exact ⟨_, _, kv, rfl, hD, hL.next, eH⟩
    · obtain ⟨y4, y5, kv, rfl, hD, hL, eH⟩ := hP
      rw [Int.toNat_natCast] at hL
      exact ⟨_, rfl, ret d kv H1 eH hD (hL.all (by have := hN.1; omega))⟩
/-- _law_all -/
theorem ok_lal {k : Nat} (T : Tx K w mg) (D : Df K mg "_law_all" t_lal p_lal) : Cal P w K mg base (k + 1) "_law_all" (sp_lal K) [] := by
  refine D.cal sc_lal (fun vs H Q E h => ?_) (fun f cdv A outer s H vs Q E hr h => ?_)
  · obtain ⟨_, rfl, _⟩ := h
    rfl
  · obtain ⟨N, rfl, hN, ret⟩ := h
    have b5 : (0 : Int) ≤ N ∧ (N : Int) ≤ 100000 := ⟨by omega, by have := hN.2; omega⟩
    refine ⟨_, pss_cons (ps_set (i := 1) sc_lal.nd rfl (.inl rfl) (pe_lst pa_nil))
      (pss_cons (ps_for PassesOwn.never rfl (pi_tup (pe_tup (pa_cons pe_str (pa_cons pe_str (pa_cons pe_str (pa_cons pe_str (pa_cons pe_str (pa_cons pe_str (pa_cons pe_str (pa_cons pe_str pa_nil)))))))))) (pg_name (i := 2) sc_lal.nd rfl (.inl rfl))
        (pss_one (ps_for PassesOwn.never rfl (pi_range1 (by rfl) T.range (pa_cons (pv 0) pa_nil)) (pg_name (i := 3) sc_lal.nd rfl (.inl rfl))
          (pss_one (ps_for PassesOwn.never rfl (pi_range1 (by rfl) T.range (pa_cons (pv 0) pa_nil)) (pg_name (i := 4) sc_lal.nd rfl (.inl rfl))
            (pss_one (ps_expr (pe_bm PySem.F.plainAttrs_list PySem.F.slot_list_append PySem.F.type_list_append mt_append (pv 1) (pa_cons (pe_tup (pa_cons (pv 2) (pa_cons (pv 3) (pa_cons (pv 4) pa_nil)))) pa_nil)))))))))
      (pss_one (ps_ret (pv 1)))), ?_⟩
    refine ⟨Nat.zero_le _, fun p hp => ?_⟩
    have e0 := Ex.new (o := .lst []) hp
    refine nm_eq [some (.int (N : Int)), some (.ref p), none, none, none] rfl ?_
    refine ⟨by show 8 ≤ sizeLine; decide, fun b hb => ?_⟩
    have L0 : LM K H (upd (upd H p (.lst [])) b (.tup ((allW.map wn).map V.str))) p (preD N 0) := (lm_nil hp).ex' (Ex.new hb)
    refine ⟨b, rfl, ⟨_, .inl (.inl upd_same)⟩, ?_⟩
    refine for_tup (K := K) (a := b) (xs := (allW.map wn).map V.str) (fun i σ H' => ∃ y2 y3 y4, σ = [some (.int (N : Int)), some (.ref p), y2, y3, y4] ∧ LM K H H' p (preD N i) ∧ H' b = some (.tup ((allW.map wn).map V.str)))
      ⟨none, none, none, rfl, L0, upd_same⟩ (fun i σ H' _ hP => ?_) (fun i x σ H' hx hP => ?_) (fun σ H' hP => ?_)
    · obtain ⟨_, _, _, _, _, h⟩ := hP
      exact .inl (.inl h)
    · obtain ⟨y2, y3, y4, rfl, hL, hB⟩ := hP
      rw [List.map_map, List.getElem?_map] at hx
      obtain ⟨w8, hw, rfl⟩ := Option.map_eq_some_iff.mp hx
      have hi : i < 8 := (List.getElem?_eq_some_iff.mp hw).1
      refine nm_eq [some (.int (N : Int)), some (.ref p), some (.str (wn w8)), y3, y4] rfl ?_
      refine Evl.s_forR1 (n := (N : Int)) (Evl.ea_cons (Evl.ev_var rfl) Evl.ea_nil) b5
        (fun d σ H' => ∃ y3 y4, σ = [some (.int (N : Int)), some (.ref p), some (.str (wn w8)), y3, y4] ∧ LM K H H' p (preD N i ++ preR N w8 d) ∧ H' b = some (.tup ((allW.map wn).map V.str)))
        (fun H1 e1 => ⟨y3, y4, rfl, ?_, e1 b _ hB⟩) (fun d σ H1 hd hP => ?_) (fun σ H1 hP => ?_)
      · rw [show preR N w8 0 = [] from rfl, List.append_nil]
        exact hL.ex' e1
      · obtain ⟨y3, y4, rfl, hL, hB⟩ := hP
        refine st_eq [some (.int (N : Int)), some (.ref p), some (.str (wn w8)), some (.int (d : Int)), y4] rfl ?_
        refine Evl.s_forR1 (n := (N : Int)) (Evl.ea_cons (Evl.ev_var rfl) Evl.ea_nil) b5
          (fun r σ H' => ∃ y4, σ = [some (.int (N : Int)), some (.ref p), some (.str (wn w8)), some (.int (d : Int)), y4] ∧ LM K H H' p (preD N i ++ preR N w8 d ++ preM w8 d r) ∧ H' b = some (.tup ((allW.map wn).map V.str)))
          (fun H1 e1 => ⟨y4, rfl, ?_, e1 b _ hB⟩) (fun r σ H1 hr hP => ?_) (fun σ H1 hP => ?_)
        · rw [show preM w8 d 0 = [] from rfl, List.append_nil]
          exact hL.ex' e1
        · obtain ⟨y4, rfl, hL, hB⟩ := hP
          refine st_eq [some (.int (N : Int)), some (.ref p), some (.str (wn w8)), some (.int (d : Int)), some (.int (r : Int))] rfl ?_
          obtain ⟨qs0, hl0, hm0⟩ := hL.at_
          refine ⟨_, rfl, .inl ⟨rfl, _, .inl (.inl hl0)⟩, _, rfl, _, rfl, _, rfl, by show 3 ≤ sizeLine; decide, fun q hq => ?_⟩
          have eq1 := Ex.new (o := .tup [.str (wn w8), .int (d : Int), .int (r : Int)]) hq
          obtain ⟨qs, hl1, len1, hL2⟩ := hL.app (q := q) (m := ⟨w8, d, r⟩) eq1 (.inl (.inl upd_same))
          refine ⟨p, _, _, rfl, rfl, hl1, ?_, ?_⟩
          · rw [List.length_map, len1]
            exact pre_len hN hi (by omega) (by omega)
          · refine ⟨_, rfl, ?_, ?_⟩
            · rw [preM_succ, ← List.append_assoc]
              exact hL2
            · have hbp' : b ≠ p := ne_of (eq1 b _ hB) hl1 (fun z => nomatch z)
              rw [upd_ne hbp']
              exact eq1 b _ hB
        · obtain ⟨y4, rfl, hL, hB⟩ := hP
          refine ⟨_, _, rfl, ?_, hB⟩
          rw [preR_succ, ← List.append_assoc]
          exact hL
      · obtain ⟨y3, y4, rfl, hL, hB⟩ := hP
        refine ⟨_, _, _, rfl, ?_, hB⟩
        rw [preD_succ hw]
        exact hL
    · obtain ⟨y2, y3, y4, rfl, hL, hB⟩ := hP
      obtain ⟨n, e, qs, hl, hm⟩ := hL
      exact ⟨_, rfl, ret p qs H' e n hl hm⟩
end
end Ck
namespace Ck
/-! ### a search that goes on: F found, ws waiting -/
structure Bf (N : Nat) (G F ws : List Mv) (ex : Mv → Prop) : Prop where
  nd : F.Nodup
  e0 : e0 ∈ F
  rch : ∀ x ∈ F, Rch N G x
  sub : ∀ x ∈ ws, x ∈ F
  cl : ∀ x ∈ F, x ∈ ws ∨ ex x ∨ ∀ g ∈ G, th N x g ∈ F
theorem Bf.start (N : Nat) (G : List Mv) : Bf N G [Ck.e0] [Ck.e0] (fun _ => False) :=
  ⟨by simp, by simp, fun x hx => by rw [List.mem_singleton.mp hx]; exact .one, fun x hx => hx, fun x hx => .inl hx⟩
theorem Bf.pop {N : Nat} {G F ws : List Mv} {x : Mv} (h : Bf N G F (ws ++ [x]) (fun _ => False)) : x ∈ F ∧ Bf N G F ws (fun y => y = x) := by
  refine ⟨h.sub x (by simp), h.nd, h.e0, h.rch, fun y hy => h.sub y (List.mem_append_left _ hy), fun y hy => ?_⟩
  rcases h.cl y hy with q | q | q
  · rcases List.mem_append.mp q with q | q
    · exact .inl q
    · exact .inr (.inl (List.mem_singleton.mp q))
  · exact q.elim
  · exact .inr (.inr q)
theorem Bf.add {N : Nat} {G F ws : List Mv} {ex : Mv → Prop} {x g : Mv} (h : Bf N G F ws ex) (hx : x ∈ F) (hg : g ∈ G) (hn : th N x g ∉ F) : Bf N G (F ++ [th N x g]) (ws ++ [th N x g]) ex := by
  refine ⟨?_, List.mem_append_left _ h.e0, fun y hy => ?_, fun y hy => ?_, fun y hy => ?_⟩
  · refine List.nodup_append.mpr ⟨h.nd, by simp, fun a ha b hb e => ?_⟩
    rw [List.mem_singleton.mp hb] at e
    exact hn (e ▸ ha)
  · rcases List.mem_append.mp hy with q | q
    · exact h.rch y q
    · rw [List.mem_singleton.mp q]; exact .step (h.rch x hx) hg
  · rcases List.mem_append.mp hy with q | q
    · exact List.mem_append_left _ (h.sub y q)
    · exact List.mem_append_right _ q
  · rcases List.mem_append.mp hy with q | q
    · rcases h.cl y q with q | q | q
      · exact .inl (List.mem_append_left _ q)
      · exact .inr (.inl q)
      · exact .inr (.inr fun g' hg' => List.mem_append_left _ (q g' hg'))
    · exact .inl (List.mem_append_right _ q)
theorem Bf.shut {N : Nat} {G F ws : List Mv} {x : Mv} (h : Bf N G F ws (fun y => y = x)) (hc : ∀ g ∈ G, th N x g ∈ F) : Bf N G F ws (fun _ => False) := by
  refine ⟨h.nd, h.e0, h.rch, h.sub, fun y hy => ?_⟩
  rcases h.cl y hy with q | q | q
  · exact .inl q
  · rw [q]; exact .inr (.inr hc)
  · exact .inr (.inr q)
theorem Bf.done {N : Nat} {G F : List Mv} (h : Bf N G F [] (fun _ => False)) : ∀ x, x ∈ F ↔ Rch N G x := by
  intro x
  constructor
  · exact h.rch x
  · intro r
    refine r.within (P := fun x => x ∈ F) h.e0 fun a g ha hg => ?_
    rcases h.cl a ha with q | q | q
    · simp at q
    · exact q.elim
    · exact q g hg
theorem Bf.few {N : Nat} (hn : 0 < N) {G F ws : List Mv} {ex : Mv → Prop} (h : Bf N G F ws ex) : F.length ≤ 8 * (N * N) := by
  rw [← alls_len]
  exact len_le h.nd fun x hx => mem_alls.mpr ((h.rch x hx).ok (by omega))
/-! ### the same, row by row -/
structure Bq (N : Nat) (G ms : List Mv) (t : Nat) : Prop where
  nd : ms.Nodup
  e0 : e0 ∈ ms
  rch : ∀ x ∈ ms, Rch N G x
  cl : ∀ (j : Nat) (x : Mv), ms[j]? = some x → j < t → ∀ g ∈ G, th N x g ∈ ms
theorem Bq.start (N : Nat) (G : List Mv) : Bq N G [Ck.e0] 0 :=
  ⟨by simp, by simp, fun x hx => by rw [List.mem_singleton.mp hx]; exact .one, fun j x _ h => absurd h (Nat.not_lt_zero _)⟩
theorem Bq.add {N : Nat} {G ms : List Mv} {t : Nat} {x g : Mv} (h : Bq N G ms t) (ht : t ≤ ms.length) (hx : x ∈ ms) (hg : g ∈ G) (hn : th N x g ∉ ms) : Bq N G (ms ++ [th N x g]) t := by
  refine ⟨?_, List.mem_append_left _ h.e0, fun y hy => ?_, fun j y hj hjt g' hg' => ?_⟩
  · refine List.nodup_append.mpr ⟨h.nd, by simp, fun a ha b hb e => ?_⟩
    rw [List.mem_singleton.mp hb] at e
    exact hn (e ▸ ha)
  · rcases List.mem_append.mp hy with q | q
    · exact h.rch y q
    · rw [List.mem_singleton.mp q]; exact .step (h.rch x hx) hg
  · rw [List.getElem?_append_left (by omega)] at hj
    exact List.mem_append_left _ (h.cl j y hj hjt g' hg')
theorem Bq.shut {N : Nat} {G ms : List Mv} {t : Nat} {x : Mv} (h : Bq N G ms t) (hx : ms[t]? = some x) (hc : ∀ g ∈ G, th N x g ∈ ms) : Bq N G ms (t + 1) := by
  refine ⟨h.nd, h.e0, h.rch, fun j y hj hjt => ?_⟩
  by_cases e : j = t
  · subst e
    rw [hx] at hj
    rw [← Option.some.inj hj]
    exact hc
  · exact h.cl j y hj (by omega)
theorem Bq.done {N : Nat} {G ms : List Mv} {t : Nat} (h : Bq N G ms t) (ht : ms.length ≤ t) : ∀ x, x ∈ ms ↔ Rch N G x := by
  intro x
  constructor
  · exact h.rch x
  · intro r
    refine r.within (P := fun x => x ∈ ms) h.e0 fun a g ha hg => ?_
    obtain ⟨j, hj, e⟩ := List.mem_iff_getElem.mp ha
    exact h.cl j a (by rw [List.getElem?_eq_getElem hj, e]) (by omega) g hg
theorem Bq.few {N : Nat} (hn : 0 < N) {G ms : List Mv} {t : Nat} (h : Bq N G ms t) : ms.length ≤ 8 * (N * N) := by
  rw [← alls_len]
  exact len_le h.nd fun x hx => mem_alls.mpr ((h.rch x hx).ok (by omega))
/-- sorted some way, no two alike: md -/
theorem sort_md {N : Nat} (hn : 0 < N) {G ns : List Mv} (hs : ns.Pairwise fun a b => ¬ lt b a) (hd : ns.Nodup) (hm : ∀ x, x ∈ ns ↔ Rch N G x) : ns = md N G := by
  refine md_uniq hn ?_ hm
  refine (hs.and hd).imp ?_
  intro a b ⟨h, hne⟩
  exact lt_total h (fun e => hne e.symm)
theorem pl12_inj {a b : W8} (h : pl a (1, 2) = pl b (1, 2)) : a = b := by
  cases a <;> cases b <;> first | rfl | (exact absurd h (by decide))
end Ck
namespace Ck
open PySem PySem.Spec PyProof.Rows L2
open Evl (Ex)
/-! ### movements compared -/
def mvD (m : Mv) : PyData := .tuple [.str (wn m.w), .int m.d, .int m.r]
theorem mv_dp {K : PySem.W.Frag} {H : Hp} {q : Addr} {m : Mv} (h : SqT K H q (mvV m)) : Dp K H (.ref q) (mvD m) := .tup h (.cons (.str _) (.cons (.int _) (.cons (.int _) .nil)))
theorem wn_ok (w8 : W8) : PyData.strOk (wn w8) = true := by cases w8 <;> decide +kernel
theorem mvD_lay (m : Mv) : PyData.canLay0 (mvD m) = true := by simp [mvD, PyData.canLay0, PyData.canLayAll0, wn_ok]
theorem mvD_dep (m : Mv) : PyData.depth (mvD m) = 1 := by simp [mvD, PyData.depth, PyData.depthAll]
theorem mvD_ok (m : Mv) : SeqAt.shaped (mvD m) = true := by
  unfold SeqAt.shaped
  rw [mvD_lay, mvD_dep]
  rfl
theorem mvs_dp {K : PySem.W.Frag} {H : Hp} : ∀ {qs : List Addr} {ms : List Mv}, Mvs K H qs ms → DpAll K H (qs.map V.ref) (ms.map mvD)
  | _, _, .nil => .nil
  | _, _, .cons h r => .cons (mv_dp h) (mvs_dp r)
theorem mvDs_lay : ∀ ms : List Mv, PyData.canLayAll0 (ms.map mvD) = true ∧ PyData.depthAll (ms.map mvD) ≤ 1
  | [] => ⟨by simp [PyData.canLayAll0], by simp [PyData.depthAll]⟩
  | a :: r => by
    have q := mvDs_lay r
    rw [List.map_cons]
    constructor
    · simp [PyData.canLayAll0, mvD_lay, q.1]
    · simp only [PyData.depthAll, mvD_dep]
      omega
theorem mvDs_ok (ms : List Mv) : SeqAt.shaped (.list (ms.map mvD)) = true := by
  have q := mvDs_lay ms
  unfold SeqAt.shaped
  simp only [PyData.canLay0, q.1, PyData.depth, Bool.true_and]
  exact decide_eq_true (by omega)
theorem eqv_list (xs ys : List PyData) : PyData.eqv (.list xs) (.list ys) = PyData.eqvAll xs ys := by simp [PyData.eqv]
theorem nil_eqv (ms : List Mv) : PyData.eqv (.list (ms.map mvD)) (.list []) = ms.isEmpty := by
  rw [eqv_list]
  cases ms with
  | nil => simp [PyData.eqvAll]
  | cons a r => simp [PyData.eqvAll]
theorem mvD_eqv (a b : Mv) : PyData.eqv (mvD a) (mvD b) = decide (a = b) := by
  have e : PyData.eqv (mvD a) (mvD b) = ((wn a.w == wn b.w) && ((a.d == b.d) && ((a.r == b.r) && true))) := by simp [mvD, PyData.eqv, PyData.eqvAll]
  rw [e, Bool.eq_iff_iff]
  simp only [Bool.and_eq_true, beq_iff_eq, decide_eq_true_eq, and_true]
  constructor
  · intro ⟨h1, h2, h3⟩
    obtain ⟨aw, ad, ar⟩ := a
    obtain ⟨bw, bd, br⟩ := b
    dsimp only at h1 h2 h3
    rw [wn_inj h1, h2, h3]
  · intro h; rw [h]; exact ⟨rfl, rfl, rfl⟩
def plcD (p : Int × Int) : PyData := .tuple [.int p.1, .int p.2]
theorem plc_dp {K : PySem.W.Frag} {H : Hp} {q : Addr} {p : Int × Int} (h : SqT K H q [.int p.1, .int p.2]) : Dp K H (.ref q) (plcD p) := .tup h (.cons (.int _) (.cons (.int _) .nil))
theorem plcD_ok (p : Int × Int) : SeqAt.shaped (plcD p) = true := by
  unfold SeqAt.shaped
  simp [plcD, PyData.canLay0, PyData.canLayAll0, PyData.depth, PyData.depthAll]
theorem plcD_eqv (a b : Int × Int) : PyData.eqv (plcD a) (plcD b) = decide (a = b) := by
  have e : PyData.eqv (plcD a) (plcD b) = ((a.1 == b.1) && ((a.2 == b.2) && true)) := by simp [plcD, PyData.eqv, PyData.eqvAll]
  rw [e, Bool.eq_iff_iff]
  simp only [Bool.and_eq_true, beq_iff_eq, decide_eq_true_eq, and_true]
  exact ⟨fun ⟨h1, h2⟩ => Prod.ext h1 h2, fun h => by rw [h]; exact ⟨rfl, rfl⟩⟩
section
variable {P : Program} {w : World} {K : PySem.W.Frag} {mg : Str → Option Value} {base : Heap}
/-- _law_behind -/
theorem ok_beh {k : Nat} (D : Df K mg "_law_behind" t_beh p_beh) (cN : Cal P w K mg base k "_law_plain" (sp_pln K) []) (cP : Cal P w K mg base k "_law_place" (sp_plc K) []) : Cal P w K mg base (k + 1) "_law_behind" (sp_beh K) [] := by
  refine D.cal sc_beh (fun vs H Q E h => ?_) (fun f cdv A outer s H vs Q E hr h => ?_)
  · obtain ⟨_, _, _, _, _, rfl, _⟩ := h
    rfl
  · obtain ⟨n, a, b, m, o, rfl, hn, ha, hb, ret⟩ := h
    refine ⟨_, pss_cons (ps_set (i := 3) sc_beh.nd rfl (.inl rfl) (C8.pe_c cN hr (Nat.le_refl _) (by rfl) (pa_cons (pe_ix ix_tup (pv 1) pe_int (fun _ _ => rfl)) (pa_cons pe_int (pa_cons pe_int pa_nil)))))
      (pss_cons (ps_set (i := 3) sc_beh.nd rfl (.inl rfl) (C8.pe_c cN hr (Nat.le_refl _) (by rfl) (pa_cons (pe_ix ix_tup (pv 2) pe_int (fun _ _ => rfl)) (pa_cons (pe_ix ix_tup (pv 3) pe_int (fun _ _ => rfl)) (pa_cons (pe_ix ix_tup (pv 3) pe_int (fun _ _ => rfl)) pa_nil)))))
      (pss_cons (ps_for PassesOwn.never rfl (pi_tup (pe_tup (pa_cons pe_str (pa_cons pe_str (pa_cons pe_str (pa_cons pe_str (pa_cons pe_str (pa_cons pe_str (pa_cons pe_str (pa_cons pe_str pa_nil)))))))))) (pg_name (i := 4) sc_beh.nd rfl (.inl rfl))
        (pss_one (ps_if (pt_cmpR (op_eqD hr.units) (C8.pe_c cN hr (Nat.le_refl _) (by rfl) (pa_cons (pv 4) (pa_cons pe_int (pa_cons pe_int pa_nil)))) (pv 3) (nomark _))
          (pss_cons (ps_asg (C8.pe_c cP hr (Nat.le_refl _) (by rfl) (pa_cons (pv 0) (pa_cons (pv 2) (pa_cons (pe_tup (pa_cons (pe_ix ix_tup (pv 1) pe_int (fun _ _ => rfl)) (pa_cons (pe_ix ix_tup (pv 1) pe_int (fun _ _ => rfl)) pa_nil))) pa_nil))))
              (pg_tup (by rfl) (pgs_cons (pg_name (i := 5) sc_beh.nd rfl (.inl rfl)) (pgs_cons (pg_name (i := 6) sc_beh.nd rfl (.inl rfl)) pgs_nil))))
            (pss_one (ps_ret (pe_tup (pa_cons (pv 4) (pa_cons (pv 5) (pa_cons (pv 6) pa_nil))))))) pss_nil)))
      (pss_one (ps_ret pe_non)))), ?_⟩
    refine ⟨_, rfl, a, mvV m, 0, _, rfl, rfl, ha, rfl, ?_⟩
    refine ⟨m.w, 1, 2, rfl, fun t H1 e1 ht => ?_⟩
    refine nm_eq [some (.int n), some (.ref a), some (.ref b), some (.ref t), none, none, none] rfl ?_
    refine ⟨_, rfl, b, mvV o, 0, _, rfl, rfl, Evl.ex_t e1 hb, rfl, ?_⟩
    refine ⟨_, rfl, t, _, 0, _, rfl, rfl, .inl (.inl ht), rfl, ?_⟩
    refine ⟨_, rfl, t, _, 1, _, rfl, rfl, .inl (.inl ht), rfl, ?_⟩
    refine ⟨o.w, _, _, rfl, fun u H2 e2 hu => ?_⟩
    refine nm_eq [some (.int n), some (.ref a), some (.ref b), some (.ref u), none, none, none] rfl ?_
    have hu' : SqT K H2 u [.int (pl (cw m.w o.w) (1, 2)).1, .int (pl (cw m.w o.w) (1, 2)).2] := by
      rw [pl_cw]
      exact .inl (.inl hu)
    refine ⟨by show 8 ≤ sizeLine; decide, fun v hv => ?_⟩
    refine ⟨v, rfl, ⟨_, .inl (.inl upd_same)⟩, ?_⟩
    refine for_tup (K := K) (a := v) (xs := (allW.map wn).map V.str) (fun i σ H' => ∃ y4, σ = [some (.int n), some (.ref a), some (.ref b), some (.ref u), y4, none, none] ∧ Ex (upd H2 v (.tup ((allW.map wn).map V.str))) H' ∧ cw m.w o.w ∉ allW.take i)
      ⟨none, rfl, Ex.refl _, by simp⟩ (fun i σ H' _ hP => ?_) (fun i x σ H' hx hP => ?_) (fun σ H' hP => ?_)
    · obtain ⟨_, _, e, _⟩ := hP
      exact .inl (.inl (e v _ upd_same))
    · obtain ⟨y4, rfl, e3, hno⟩ := hP
      rw [List.map_map, List.getElem?_map] at hx
      obtain ⟨w8, hw, rfl⟩ := Option.map_eq_some_iff.mp hx
      have e23 := (Ex.new hv).trans e3
      refine nm_eq [some (.int n), some (.ref a), some (.ref b), some (.ref u), some (.str (wn w8)), none, none] rfl ?_
      refine ⟨_, rfl, w8, 1, 2, rfl, fun t3 H3 e4 ht3 => ?_⟩
      refine ⟨_, rfl, plcD (pl w8 (1, 2)), plcD (pl (cw m.w o.w) (1, 2)), plc_dp (.inl (.inl ht3)), plc_dp (Evl.ex_t (e23.trans e4) hu'), plcD_ok _, plcD_ok _, _, rfl, ?_⟩
      rw [plcD_eqv]
      have e5 := e1.trans (e2.trans (e23.trans e4))
      refine ite2 (fun h => ?_) (fun h => ?_)
      · have hw8 : w8 = cw m.w o.w := pl12_inj (of_decide_eq_true h)
        subst hw8
        refine ⟨_, rfl, _, rfl, ?_⟩
        refine ⟨_, rfl, a, mvV m, 1, _, rfl, rfl, Evl.ex_t e5 ha, rfl, ?_⟩
        refine ⟨_, rfl, a, mvV m, 2, _, rfl, rfl, Evl.ex_t e5 ha, rfl, ?_⟩
        refine ⟨two_leF, fun q hq => ?_⟩
        have e6 := e5.trans (Ex.new (o := .tup [.int m.d, .int m.r]) hq)
        refine ⟨n, b, q, o, m.d, m.r, rfl, hn, Evl.ex_t e6 hb, .inl (.inl upd_same), fun t4 H4 e7 ht4 => ?_⟩
        refine ⟨t4, _, rfl, .inl (.inl ht4), rfl, _, _, rfl, _, _, rfl, rfl, ?_⟩
        refine ⟨_, rfl, _, rfl, _, rfl, by show 3 ≤ sizeLine; decide, fun p hp => ?_⟩
        exact ret p _ (e6.trans (e7.trans (Ex.new hp))) upd_same
      · refine ⟨_, rfl, e3.trans e4, fun hm => ?_⟩
        rw [take_snoc hw] at hm
        rcases List.mem_append.mp hm with q | q
        · exact hno q
        · rw [List.mem_singleton.mp q] at h
          exact h (decide_eq_true rfl)
    · obtain ⟨y4, rfl, e3, hno⟩ := hP
      exact absurd (mem_allW _) hno
end
end Ck
namespace Ck
open PySem PySem.Spec PyProof.Rows L2
open Evl (Ex)
theorem kv_keys (xs : List Row) : (kvs xs).map (·.1) = xs.map (·.1) := by
  unfold kvs
  rw [List.map_map]
  rfl
theorem kv_none {xs : List Row} {F : List Mv} (hk : xs.map (·.1) = F.map mvK) {m : Mv} : valV (kvs xs) (mvK m) = none ↔ m ∉ F := by
  constructor
  · intro h hm
    have q := valV_not h
    rw [kv_keys, hk] at q
    exact q (List.mem_map.mpr ⟨m, hm, rfl⟩)
  · intro h
    cases e : valV (kvs xs) (mvK m) with
    | none => rfl
    | some v =>
      have q := valV_in e
      rw [kv_keys, hk] at q
      obtain ⟨x, hx, ex⟩ := List.mem_map.mp q
      exact absurd (mvK_inj ex ▸ hx) h
theorem map_snoc {α β : Type} (f : α → β) (l : List α) (x : α) : (l ++ [x]).map f = l.map f ++ [f x] := by rw [List.map_append]; rfl
theorem mvs_last {K : PySem.W.Frag} {H : Hp} {x : Mv} {ws : List Mv} : ∀ {qs : List Addr}, Mvs K H qs (ws ++ [x]) → ∃ qs' q, qs = qs' ++ [q] ∧ Mvs K H qs' ws ∧ SqT K H q (mvV x) := by
  induction ws with
  | nil =>
    intro qs h
    have h : Mvs K H qs [x] := h
    cases qs with
    | nil => cases h
    | cons q r =>
      cases h with
      | cons h1 h2 =>
        cases h2
        exact ⟨[], q, rfl, .nil, h1⟩
  | cons y ws ih =>
    intro qs h
    have h : Mvs K H qs (y :: (ws ++ [x])) := h
    cases qs with
    | nil => cases h
    | cons q r =>
      cases h with
      | cons h1 h2 =>
        obtain ⟨qs', q', e, a1, a2⟩ := ih h2
        exact ⟨q :: qs', q', by rw [e]; rfl, .cons h1 a1, a2⟩
theorem snd_zip : ∀ {os : List Addr} {ns : List Mv}, os.length = ns.length → (os.zip ns).map (·.2) = ns
  | [], [], _ => rfl
  | [], _ :: _, h => by simp at h
  | _ :: _, [], h => by simp at h
  | a :: os, n :: ns, h => by rw [List.zip_cons_cons, List.map_cons, snd_zip (os := os) (ns := ns) (by simpa using h)]
theorem so_perm {K : PySem.W.Frag} {H : Hp} {qs os : List Addr} {ms ns : List Mv} (hm : Mvs K H qs ms) (h : SortOut K H qs ms os ns) : ns.Perm ms := by
  have p := h.perm.map (fun z => z.2)
  rw [snd_zip (mvs_len h.mvs), snd_zip (mvs_len hm)] at p
  exact p
/-- the search's heap: the dict at d holds F, the list at l holds ws -/
structure MS (P : Program) (w : World) (K : PySem.W.Frag) (H0 H : Hp) (d l : Addr) (F ws : List Mv) : Prop where
  ex : Ex H0 H
  nd : H0 d = none
  nl : H0 l = none
  found : ∃ xs : List Row, H d = some (DG P w d xs) ∧ Mvs K H (xs.map (·.2.1)) F ∧ xs.map (·.1) = F.map mvK
  wait : ∃ qs : List Addr, H l = some (.lst (qs.map V.ref)) ∧ Mvs K H qs ws
section
variable {P : Program} {w : World} {K : PySem.W.Frag} {mg : Str → Option Value} {base : Heap}
theorem MS.ex' {H0 H H1 : Hp} {d l : Addr} {F ws : List Mv} (h : MS P w K H0 H d l F ws) (e : Ex H H1) : MS P w K H0 H1 d l F ws := by
  obtain ⟨e0, n1, n2, ⟨xs, a1, a2, a3⟩, ⟨qs, b1, b2⟩⟩ := h
  exact ⟨e0.trans e, n1, n2, ⟨xs, e d _ a1, mvs_ex e a2, a3⟩, ⟨qs, e l _ b1, mvs_ex e b2⟩⟩
theorem dg_mut {P : Program} {w : World} {d : Addr} {xs : List Row} : Mut (some (DG P w d xs)) := trivial
/-- found[more] = True -/
theorem MS.put {H0 H : Hp} {d l q : Addr} {F ws : List Mv} {m : Mv} {xs : List Row} {v : V} (h : MS P w K H0 H d l F ws) (hd : H d = some (DG P w d xs)) (h2 : Mvs K H (xs.map (·.2.1)) F) (h3 : xs.map (·.1) = F.map mvK) (hq : SqT K H q (mvV m)) :
    MS P w K H0 (upd H d (DG P w d (xs ++ [(mvK m, q, v)]))) d l (F ++ [m]) ws := by
  obtain ⟨e0, n1, n2, _, ⟨qs, b1, b2⟩⟩ := h
  have sx : Sx H (upd H d (DG P w d (xs ++ [(mvK m, q, v)]))) := Sx.upd hd dg_mut
  have ne : l ≠ d := ne_of b1 hd (fun z => nomatch z)
  refine ⟨e0.mut n1, n1, n2, ⟨_, upd_same, ?_, ?_⟩, ⟨qs, ?_, mvs_sx sx b2⟩⟩
  · rw [map_snoc]
    exact mvs_snoc (mvs_sx sx h2) (sx_t sx hq)
  · rw [map_snoc, map_snoc, h3]
  · rw [upd_ne ne]
    exact b1
/-- waiting.append(more) -/
theorem MS.app {H0 H : Hp} {d l q : Addr} {F ws : List Mv} {m : Mv} {qs : List Addr} (h : MS P w K H0 H d l F ws) (hl : H l = some (.lst (qs.map V.ref))) (h2 : Mvs K H qs ws) (hq : SqT K H q (mvV m)) :
    MS P w K H0 (upd H l (.lst (qs.map V.ref ++ [.ref q]))) d l F (ws ++ [m]) := by
  obtain ⟨e0, n1, n2, ⟨xs, a1, a2, a3⟩, _⟩ := h
  have sx : Sx H (upd H l (.lst (qs.map V.ref ++ [.ref q]))) := Sx.upd hl trivial
  have ne : d ≠ l := ne_of a1 hl (fun z => nomatch z)
  refine ⟨e0.mut n2, n1, n2, ⟨xs, ?_, mvs_sx sx a2, a3⟩, ⟨qs ++ [q], ?_, mvs_snoc (mvs_sx sx h2) (sx_t sx hq)⟩⟩
  · rw [upd_ne ne]
    exact a1
  · rw [upd_same, map_snoc]
/-- waiting.pop() -/
theorem MS.pop {H0 H : Hp} {d l q : Addr} {F ws : List Mv} {m : Mv} {qs : List Addr} (h : MS P w K H0 H d l F (ws ++ [m])) (hl : H l = some (.lst ((qs ++ [q]).map V.ref))) (h2 : Mvs K H qs ws) :
    MS P w K H0 (upd H l (.lst ((qs ++ [q]).map V.ref).dropLast)) d l F ws := by
  obtain ⟨e0, n1, n2, ⟨xs, a1, a2, a3⟩, _⟩ := h
  have sx : Sx H (upd H l (.lst ((qs ++ [q]).map V.ref).dropLast)) := Sx.upd hl trivial
  have ne : d ≠ l := ne_of a1 hl (fun z => nomatch z)
  refine ⟨e0.mut n2, n1, n2, ⟨xs, ?_, mvs_sx sx a2, a3⟩, ⟨qs, ?_, mvs_sx sx h2⟩⟩
  · rw [upd_ne ne]
    exact a1
  · rw [upd_same, map_snoc, List.dropLast_concat]
theorem nn_le {N : Nat} (h : Sz N) : 8 * (N * N) ≤ 200 := by
  have : N * N ≤ 5 * 5 := Nat.mul_le_mul h.2 h.2
  omega
/-- the test: waiting != [] -/
theorem et_wait {σ : L2.St} {H : Hp} {i : Nat} {l : Addr} {qs : List Addr} {ws : List Mv} (hi : σ[i]? = some (some (.ref l))) (hl : H l = some (.lst (qs.map V.ref))) (hm : Mvs K H qs ws) :
    Evl.EvT (tTest (tOp (rNeD K) (tVar i) (tLst tNil))) σ H (!ws.isEmpty) := by
  intro H1 e Q q
  refine ⟨_, hi, Nat.zero_le _, fun r hr => ?_⟩
  have e2 := e.trans (Ex.new (o := .lst []) hr)
  refine ⟨.list (ws.map mvD), .list [], .lst (.inl (.inl (e2 l _ hl))) (mvs_dp (mvs_ex e2 hm)), .lst (.inl (.inl upd_same)) .nil, mvDs_ok ws, mvDs_ok [], _, rfl, ?_⟩
  rw [nil_eqv]
  exact q _ (Ex.new hr)
end
end Ck
namespace Ck
open PySem PySem.Spec PyProof.Rows L2
open Evl (Ex)
section
variable {P : Program} {w : World} {K : PySem.W.Frag} {mg : Str → Option Value} {base : Heap}

/-- made -/
theorem ok_made {k : Nat} (T : Tx K w mg) (D : Df K mg "made" t_made p_made) (cT : Cal P w K mg base k "then" (sp_then K) []) : Cal P w K mg base (k + 1) "made" (sp_made K) [] := by
  refine D.cal sc_made (fun vs H Q E h => ?_) (fun f cdv A outer s H vs Q E hr h => ?_)
  · obtain ⟨_, _, _, _, rfl, _⟩ := h
    rfl
  · obtain ⟨N, a, qs, G, rfl, hN, ha, hG, ret⟩ := h
    have hN0 : 0 < N := hN.1
    have hn : (0 : Int) < N := by omega
    refine ⟨_, pss_cons (ps_set (i := 2) sc_made.nd rfl (.inl rfl) (pe_tup (pa_cons pe_str (pa_cons pe_int (pa_cons pe_int pa_nil)))))
      (pss_cons (ps_set (i := 3) sc_made.nd rfl (.inl rfl) (pe_disp1 (hu_of hr) (pv 2) pe_bl))
      (pss_cons (ps_set (i := 4) sc_made.nd rfl (.inl rfl) (pe_lst (pa_cons (pv 2) pa_nil)))
      (pss_cons (ps_while PassesOwn.never (pt_cmpR (op_neD hr.units) (pv 4) (pe_lst pa_nil) (nomark _))
        (pss_cons (ps_set (i := 5) sc_made.nd rfl (.inl rfl) (pe_bm0 PySem.F.plainAttrs_list PySem.F.slot_list_pop PySem.F.type_list_pop mt_pop (pv 4)))
        (pss_one (ps_for PassesOwn.never rfl (pi_list (pv 1)) (pg_name (i := 6) sc_made.nd rfl (.inl rfl))
          (pss_cons (ps_set (i := 7) sc_made.nd rfl (.inl rfl) (C8.pe_c cT hr (Nat.le_refl _) (by rfl) (pa_cons (pv 0) (pa_cons (pv 5) (pa_cons (pv 6) pa_nil)))))
          (pss_one (ps_if (pt_cmpR (op_gnot (hu_of hr)) (pv 7) (pv 3) (by rfl))
            (pss_cons (ps_asg pe_bl (pg_sub (pv 3) (pv 7) (set_gput (hu_of hr))))
            (pss_one (ps_expr (pe_bm PySem.F.plainAttrs_list PySem.F.slot_list_append PySem.F.type_list_append mt_append (pv 4) (pa_cons (pv 7) pa_nil))))) pss_nil)))))))
      (pss_one (ps_ret (pe_callB (cr_sortG rfl) (by rfl) T.sorted (by decide +kernel) (pa_cons (pv 3) pa_nil))))))), ?_⟩
    refine ⟨by show 3 ≤ sizeLine; decide, fun f1 hf1 => ?_⟩
    refine nm_eq [some (.int (N : Int)), some (.ref a), some (.ref f1), none, none, none, none, none] rfl ?_
    have g1 : SqT K (upd H f1 (.tup (mvV e0))) f1 (mvV e0) := .inl (.inl upd_same)
    refine fun d hd => ?_
    have g2 : SqT K (upd (upd H f1 (.tup (mvV e0))) d (DG P w d [])) f1 (mvV e0) := Evl.ex_t (Ex.new hd) g1
    refine ⟨_, rfl, upd_same, f1, mvK e0, rfl, g2, ?_⟩
    refine nm_eq [some (.int (N : Int)), some (.ref a), some (.ref f1), some (.ref d), none, none, none, none] rfl ?_
    rw [upd_upd]
    have g3 : SqT K (upd (upd H f1 (.tup (mvV e0))) d (DG P w d [(mvK e0, f1, .bl true)])) f1 (mvV e0) := Evl.ex_t (Ex.new hd) g1
    refine ⟨_, rfl, by show 1 ≤ sizeLine; decide, fun l hl => ?_⟩
    refine nm_eq [some (.int (N : Int)), some (.ref a), some (.ref f1), some (.ref d), some (.ref l), none, none, none] rfl ?_
    have g4 := Evl.ex_t (Ex.new (o := .lst [.ref f1]) hl) g3
    have ex2 : Ex H (upd (upd H f1 (.tup (mvV e0))) d (DG P w d [(mvK e0, f1, .bl true)])) := (Ex.new hf1).trans (Ex.new hd)
    have ms0 : MS P w K H (upd (upd (upd H f1 (.tup (mvV e0))) d (DG P w d [(mvK e0, f1, .bl true)])) l (.lst [.ref f1])) d l [e0] [e0] :=
      ⟨ex2.trans (Ex.new hl), Evl.fresh_back (Ex.new hf1) hd, Evl.fresh_back ex2 hl, ⟨_, (Ex.new hl) d _ upd_same, .cons g4 .nil, rfl⟩, ⟨[f1], upd_same, .cons g4 .nil⟩⟩
    refine Evl.q_while (fun M σ H' => ∃ F ws y5 y6 y7, σ = [some (.int (N : Int)), some (.ref a), some (.ref f1), some (.ref d), some (.ref l), y5, y6, y7] ∧ MS P w K H H' d l F ws ∧ Bf N G F ws (fun _ => False) ∧ ws.length ≤ F.length ∧ M = 2 * (8 * (N * N) - F.length) + ws.length) _ ⟨[e0], [e0], none, none, none, rfl, ms0, Bf.start N G, Nat.le_refl _, rfl⟩ (fun M σ H1 hW => ?_)
    obtain ⟨F, ws, y5, y6, y7, rfl, hS, hB, hle, hM⟩ := hW
    obtain ⟨wqs, hl, hw⟩ := hS.wait
    refine ⟨!ws.isEmpty, et_wait rfl hl hw, fun hb H2 e2 => ?_, fun hb H2 e2 => ?_⟩
    · obtain ⟨ws', x0, rfl⟩ : ∃ ws' x0, ws = ws' ++ [x0] := by
        rcases List.eq_nil_or_concat ws with e | ⟨ws', x0, e⟩
        · subst e; simp at hb
        · exact ⟨ws', x0, by rw [e, List.concat_eq_append]⟩
      obtain ⟨wqs', q0, rfl, hw', hq0⟩ := mvs_last hw
      have hS2 := hS.ex' e2
      have hl2 := e2 l _ hl
      have hp := hS2.pop hl2 (mvs_ex e2 hw')
      obtain ⟨hx0, hB2⟩ := hB.pop
      have hq2 : SqT K (upd H2 l (.lst ((wqs' ++ [q0]).map V.ref).dropLast)) q0 (mvV x0) := sx_t (Sx.upd hl2 trivial) (Evl.ex_t e2 hq0)
      refine ⟨fun σ2 H2 => ∃ m', m' < M ∧ ∃ F ws y5 y6 y7, σ2 = [some (.int (N : Int)), some (.ref a), some (.ref f1), some (.ref d), some (.ref l), y5, y6, y7] ∧ MS P w K H H2 d l F ws ∧ Bf N G F ws (fun _ => False) ∧ ws.length ≤ F.length ∧ m' = 2 * (8 * (N * N) - F.length) + ws.length, fun σ2 H2 h => h, ?_⟩
      refine ⟨_, rfl, .inl ⟨rfl, _, .inl (.inl hl2)⟩, l, _, .ref q0, rfl, rfl, hl2, ?_, ?_⟩
      · rw [map_snoc, List.length_append, List.length_singleton, Nat.add_sub_cancel, List.getElem?_append_right (Nat.le_refl _), Nat.sub_self]
        rfl
      refine nm_eq [some (.int (N : Int)), some (.ref a), some (.ref f1), some (.ref d), some (.ref l), some (.ref q0), y6, y7] rfl ?_
      refine ⟨_, rfl, a, rfl, ⟨_, Evl.ex_l hp.ex ha⟩, ?_⟩
      refine for_list (K := K) (a := a) (xs := qs.map V.ref) (fun i σ H' => ∃ F ws y6 y7, σ = [some (.int (N : Int)), some (.ref a), some (.ref f1), some (.ref d), some (.ref l), some (.ref q0), y6, y7] ∧ MS P w K H H' d l F ws ∧ Bf N G F ws (fun y => y = x0) ∧ (∀ g ∈ G.take i, th N x0 g ∈ F) ∧ x0 ∈ F ∧ SqT K H' q0 (mvV x0) ∧ ws.length ≤ F.length ∧ 2 * (8 * (N * N) - F.length) + ws.length < M)
        ⟨F, ws', y6, y7, rfl, hp, hB2, by simp, hx0, hq2, by rw [List.length_append] at hle; omega, ?_⟩ (fun i σ H' _ hP => ?_) (fun i x σ H3 hx hP => ?_) (fun σ H3 hP => ?_)
      · rw [hM, List.length_append, List.length_singleton]
        omega
      · obtain ⟨F, ws, y6, y7, _, hS, _⟩ := hP
        exact Evl.ex_l hS.ex ha
      · obtain ⟨F, ws, y6, y7, rfl, hS, hB, hT, hx0, hq, hle, hlt⟩ := hP
        obtain ⟨q, hqi, rfl⟩ := refs_get hx
        obtain ⟨g, hgi, hgq⟩ := mvs_get hG hqi
        have hgG : g ∈ G := List.mem_of_getElem? hgi
        refine nm_eq [some (.int (N : Int)), some (.ref a), some (.ref f1), some (.ref d), some (.ref l), some (.ref q0), some (.ref q), y7] rfl ?_
        refine ⟨_, rfl, _, rfl, _, rfl, N, q0, q, x0, g, rfl, hn, hq, Evl.ex_t hS.ex hgq, fun t H4 e4 ht => ?_⟩
        refine nm_eq [some (.int (N : Int)), some (.ref a), some (.ref f1), some (.ref d), some (.ref l), some (.ref q0), some (.ref q), some (.ref t)] rfl ?_
        have hS4 := hS.ex' e4
        obtain ⟨xs, hd4, hk4, hx4⟩ := hS4.found
        have ht' : SqT K H4 t (mvV (th N x0 g)) := .inl (.inl ht)
        refine ⟨_, rfl, _, rfl, d, t, xs, mvK (th N x0 g), rfl, rfl, hd4, mvs_ks hk4 hx4, ht', _, rfl, ?_⟩
        have tk := take_snoc hgi
        refine ite2 (fun hc => ?_) (fun hc => ?_)
        · have hnone : valV (kvs xs) (mvK (th N x0 g)) = none := by
            cases e : valV (kvs xs) (mvK (th N x0 g)) with
            | none => rfl
            | some v => rw [e] at hc; simp at hc
          have hnot : th N x0 g ∉ F := (kv_none hx4).mp hnone
          have hB5 := hB.add hx0 hgG hnot
          have hF5 := hB5.few hN0
          have hlen : xs.length = F.length := by
            have := congrArg List.length hx4
            rw [List.length_map, List.length_map] at this
            exact this
          rw [List.length_append, List.length_singleton] at hF5
          refine ⟨_, rfl, _, rfl, d, t, xs, mvK (th N x0 g), rfl, rfl, hd4, mvs_ks hk4 hx4, ht', hnone, lt_line (by have := nn_le hN; omega), ?_⟩
          have hS5 := hS4.put (v := .bl true) hd4 hk4 hx4 ht'
          have sx5 : Sx H4 (upd H4 d (DG P w d (xs ++ [(mvK (th N x0 g), t, .bl true)]))) := Sx.upd hd4 dg_mut
          obtain ⟨wq5, hl5, hw5⟩ := hS5.wait
          have ht5 := sx_t sx5 ht'
          have hS6 := hS5.app hl5 hw5 ht5
          have hsub : ws.length ≤ wq5.length := Nat.le_of_eq (mvs_len hw5).symm
          refine ⟨_, rfl, .inl ⟨rfl, _, .inl (.inl hl5)⟩, _, rfl, l, _, _, rfl, rfl, hl5, ?_, ?_⟩
          · rw [List.length_map, mvs_len hw5]
            exact lt_line (by have := nn_le hN; omega)
          · refine ⟨_, _, _, _, rfl, hS6, hB5, fun g' hg' => ?_, List.mem_append_left _ hx0, ?_, by rw [List.length_append, List.length_append]; exact Nat.add_le_add_right hle _, ?_⟩
            · rw [tk] at hg'
              rcases List.mem_append.mp hg' with h | h
              · exact List.mem_append_left _ (hT g' h)
              · rw [List.mem_singleton.mp h]
                exact List.mem_append_right _ List.mem_cons_self
            · exact sx_t (Sx.upd hl5 trivial) (sx_t sx5 (Evl.ex_t e4 hq))
            · simp only [List.length_append, List.length_singleton]
              omega
        · have hin : th N x0 g ∈ F := by
            by_cases q : th N x0 g ∈ F
            · exact q
            · exfalso
              apply hc
              rw [(kv_none hx4).mpr q]
              rfl
          refine ⟨F, ws, _, _, rfl, hS4, hB, fun g' hg' => ?_, hx0, Evl.ex_t e4 hq, hle, hlt⟩
          rw [tk] at hg'
          rcases List.mem_append.mp hg' with h | h
          · exact hT g' h
          · rw [List.mem_singleton.mp h]
            exact hin
      · obtain ⟨F, ws, y6, y7, rfl, hS, hB, hT, hx0, hq, hle, hlt⟩ := hP
        rw [List.length_map, mvs_len hG, List.take_length] at hT
        exact ⟨_, hlt, F, ws, _, _, _, rfl, hS, hB.shut hT, hle, rfl⟩
    · have hnil : ws = [] := by
        cases ws with
        | nil => rfl
        | cons x r => simp at hb
      subst hnil
      have hS2 := hS.ex' e2
      obtain ⟨xs, hd2, hk2, hx2⟩ := hS2.found
      refine ⟨_, rfl, d, xs, F, rfl, hd2, hk2, hx2, fun p os ns hp so => ?_⟩
      have pm := so_perm hk2 so
      have e : ns = md N G := sort_md hN0 so.srt (pm.nodup_iff.mpr hB.nd) fun x => pm.mem_iff.trans (hB.done x)
      subst e
      exact ret p os _ (hS2.ex.trans (Ex.new hp)) (Evl.fresh_back hS2.ex hp) upd_same (mvs_ex (Ex.new hp) so.mvs)
end
end Ck
namespace Ck
open PySem PySem.Spec PyProof.Rows L2
open Evl (Ex)
section
variable {P : Program} {w : World} {K : PySem.W.Frag} {mg : Str → Option Value} {base : Heap}

/-- _law_come -/
theorem ok_come {k : Nat} (T : Tx K w mg) (D : Df K mg "_law_come" t_come p_come) (cT : Cal P w K mg base k "_law_behind" (sp_beh K) []) : Cal P w K mg base (k + 1) "_law_come" (sp_come K) [] := by
  refine D.cal sc_come (fun vs H Q E h => ?_) (fun f cdv A outer s H vs Q E hr h => ?_)
  · obtain ⟨_, _, _, _, rfl, _⟩ := h
    rfl
  · obtain ⟨N, a, qs, G, rfl, hN, ha, hG, ret⟩ := h
    have hN0 : 0 < N := hN.1
    have hn : (0 : Int) < N := by omega
    refine ⟨_, pss_cons (ps_set (i := 2) sc_come.nd rfl (.inl rfl) (pe_disp1 (hu_of hr) (pe_tup (pa_cons pe_str (pa_cons pe_int (pa_cons pe_int pa_nil)))) pe_bl))
      (pss_cons (ps_set (i := 3) sc_come.nd rfl (.inl rfl) (pe_lst (pa_cons (pe_tup (pa_cons pe_str (pa_cons pe_int (pa_cons pe_int pa_nil)))) pa_nil)))
      (pss_cons (ps_while PassesOwn.never (pt_cmpR (op_neD hr.units) (pv 3) (pe_lst pa_nil) (nomark _))
        (pss_cons (ps_set (i := 4) sc_come.nd rfl (.inl rfl) (pe_bm0 PySem.F.plainAttrs_list PySem.F.slot_list_pop PySem.F.type_list_pop mt_pop (pv 3)))
        (pss_one (ps_for PassesOwn.never rfl (pi_list (pv 1)) (pg_name (i := 5) sc_come.nd rfl (.inl rfl))
          (pss_cons (ps_set (i := 6) sc_come.nd rfl (.inl rfl) (C8.pe_c cT hr (Nat.le_refl _) (by rfl) (pa_cons (pv 0) (pa_cons (pv 4) (pa_cons (pv 5) pa_nil)))))
          (pss_one (ps_if (pt_cmpR (op_gnot (hu_of hr)) (pv 6) (pv 2) (by rfl))
            (pss_cons (ps_asg pe_bl (pg_sub (pv 2) (pv 6) (set_gput (hu_of hr))))
            (pss_one (ps_expr (pe_bm PySem.F.plainAttrs_list PySem.F.slot_list_append PySem.F.type_list_append mt_append (pv 3) (pa_cons (pv 6) pa_nil))))) pss_nil)))))))
      (pss_one (ps_ret (pe_callB (cr_sortG rfl) (by rfl) T.sorted (by decide +kernel) (pa_cons (pv 2) pa_nil)))))), ?_⟩
    refine fun d hd => ?_
    refine ⟨by show 3 ≤ sizeLine; decide, fun f1 hf1 => ?_⟩
    have g2 : SqT K (upd (upd H d (DG P w d [])) f1 (.tup (mvV e0))) f1 (mvV e0) := .inl (.inl upd_same)
    have gd : (upd (upd H d (DG P w d [])) f1 (.tup (mvV e0))) d = some (DG P w d []) := (Ex.new hf1) d _ upd_same
    have eH : Ex H (upd (upd H d (DG P w d [])) f1 (.tup (mvV e0))) := (Ex.new hd).trans (Ex.new hf1)
    refine ⟨gd, f1, mvK e0, rfl, g2, ?_⟩
    refine nm_eq [some (.int (N : Int)), some (.ref a), some (.ref d), none, none, none, none] rfl ?_
    have g3 := sx_t (Sx.upd (o := DG P w d [(mvK e0, f1, .bl true)]) gd dg_mut) g2
    have ex2 : Ex H (upd (upd (upd H d (DG P w d [])) f1 (.tup (mvV e0))) d (DG P w d [(mvK e0, f1, .bl true)])) := eH.mut hd
    have gd2 : upd (upd (upd H d (DG P w d [])) f1 (.tup (mvV e0))) d (DG P w d [(mvK e0, f1, .bl true)]) d = some (DG P w d [(mvK e0, f1, .bl true)]) := upd_same
    refine ⟨by show 3 ≤ sizeLine; decide, fun f2 hf2 => ?_⟩
    refine ⟨by show 1 ≤ sizeLine; decide, fun l hl => ?_⟩
    refine nm_eq [some (.int (N : Int)), some (.ref a), some (.ref d), some (.ref l), none, none, none] rfl ?_
    have exl := (Ex.new (o := .tup (mvV e0)) hf2).trans (Ex.new (o := .lst [.ref f2]) hl)
    have h2 := Evl.ex_t (K := K) (a := f2) (xs := mvV e0) (Ex.new (o := .lst [.ref f2]) hl) (.inl (.inl upd_same))
    have ms0 := (show MS P w K H _ d l [e0] [e0] from ⟨ex2.trans exl, hd, Evl.fresh_back (ex2.trans (Ex.new (o := .tup (mvV e0)) hf2)) hl, ⟨_, exl d _ gd2, .cons (Evl.ex_t exl g3) .nil, rfl⟩, ⟨[f2], upd_same, .cons h2 .nil⟩⟩)
    refine Evl.q_while (fun M σ H' => ∃ F ws y4 y5 y6, σ = [some (.int (N : Int)), some (.ref a), some (.ref d), some (.ref l), y4, y5, y6] ∧ MS P w K H H' d l F ws ∧ Bf N G F ws (fun _ => False) ∧ ws.length ≤ F.length ∧ M = 2 * (8 * (N * N) - F.length) + ws.length) _ ⟨[e0], [e0], none, none, none, rfl, ms0, Bf.start N G, Nat.le_refl _, rfl⟩ (fun M σ H1 hW => ?_)
    obtain ⟨F, ws, y4, y5, y6, rfl, hS, hB, hle, hM⟩ := hW
    obtain ⟨wqs, hl, hw⟩ := hS.wait
    refine ⟨!ws.isEmpty, et_wait rfl hl hw, fun hb H2 e2 => ?_, fun hb H2 e2 => ?_⟩
    · obtain ⟨ws', x0, rfl⟩ : ∃ ws' x0, ws = ws' ++ [x0] := by
        rcases List.eq_nil_or_concat ws with e | ⟨ws', x0, e⟩
        · subst e; simp at hb
        · exact ⟨ws', x0, by rw [e, List.concat_eq_append]⟩
      obtain ⟨wqs', q0, rfl, hw', hq0⟩ := mvs_last hw
      have hS2 := hS.ex' e2
      have hl2 := e2 l _ hl
      have hp := hS2.pop hl2 (mvs_ex e2 hw')
      obtain ⟨hx0, hB2⟩ := hB.pop
      have hq2 : SqT K (upd H2 l (.lst ((wqs' ++ [q0]).map V.ref).dropLast)) q0 (mvV x0) := sx_t (Sx.upd hl2 trivial) (Evl.ex_t e2 hq0)
      refine ⟨fun σ2 H2 => ∃ m', m' < M ∧ ∃ F ws y4 y5 y6, σ2 = [some (.int (N : Int)), some (.ref a), some (.ref d), some (.ref l), y4, y5, y6] ∧ MS P w K H H2 d l F ws ∧ Bf N G F ws (fun _ => False) ∧ ws.length ≤ F.length ∧ m' = 2 * (8 * (N * N) - F.length) + ws.length, fun σ2 H2 h => h, ?_⟩
      refine ⟨_, rfl, .inl ⟨rfl, _, .inl (.inl hl2)⟩, l, _, .ref q0, rfl, rfl, hl2, ?_, ?_⟩
      · rw [map_snoc, List.length_append, List.length_singleton, Nat.add_sub_cancel, List.getElem?_append_right (Nat.le_refl _), Nat.sub_self]
        rfl
      refine nm_eq [some (.int (N : Int)), some (.ref a), some (.ref d), some (.ref l), some (.ref q0), y5, y6] rfl ?_
      refine ⟨_, rfl, a, rfl, ⟨_, Evl.ex_l hp.ex ha⟩, ?_⟩
      refine for_list (K := K) (a := a) (xs := qs.map V.ref) (fun i σ H' => ∃ F ws y5 y6, σ = [some (.int (N : Int)), some (.ref a), some (.ref d), some (.ref l), some (.ref q0), y5, y6] ∧ MS P w K H H' d l F ws ∧ Bf N G F ws (fun y => y = x0) ∧ (∀ g ∈ G.take i, th N x0 g ∈ F) ∧ x0 ∈ F ∧ SqT K H' q0 (mvV x0) ∧ ws.length ≤ F.length ∧ 2 * (8 * (N * N) - F.length) + ws.length < M)
        ⟨F, ws', y5, y6, rfl, hp, hB2, by simp, hx0, hq2, by rw [List.length_append] at hle; omega, ?_⟩ (fun i σ H' _ hP => ?_) (fun i x σ H3 hx hP => ?_) (fun σ H3 hP => ?_)
      · rw [hM, List.length_append, List.length_singleton]
        omega
      · obtain ⟨F, ws, y5, y6, _, hS, _⟩ := hP
        exact Evl.ex_l hS.ex ha
      · obtain ⟨F, ws, y5, y6, rfl, hS, hB, hT, hx0, hq, hle, hlt⟩ := hP
        obtain ⟨q, hqi, rfl⟩ := refs_get hx
        obtain ⟨g, hgi, hgq⟩ := mvs_get hG hqi
        have hgG : g ∈ G := List.mem_of_getElem? hgi
        refine nm_eq [some (.int (N : Int)), some (.ref a), some (.ref d), some (.ref l), some (.ref q0), some (.ref q), y6] rfl ?_
        refine ⟨_, rfl, _, rfl, _, rfl, N, q0, q, x0, g, rfl, hn, hq, Evl.ex_t hS.ex hgq, fun t H4 e4 ht => ?_⟩
        refine nm_eq [some (.int (N : Int)), some (.ref a), some (.ref d), some (.ref l), some (.ref q0), some (.ref q), some (.ref t)] rfl ?_
        have hS4 := hS.ex' e4
        obtain ⟨xs, hd4, hk4, hx4⟩ := hS4.found
        have ht' : SqT K H4 t (mvV (th N x0 g)) := .inl (.inl ht)
        refine ⟨_, rfl, _, rfl, d, t, xs, mvK (th N x0 g), rfl, rfl, hd4, mvs_ks hk4 hx4, ht', _, rfl, ?_⟩
        have tk := take_snoc hgi
        refine ite2 (fun hc => ?_) (fun hc => ?_)
        · have hnone : valV (kvs xs) (mvK (th N x0 g)) = none := by
            cases e : valV (kvs xs) (mvK (th N x0 g)) with
            | none => rfl
            | some v => rw [e] at hc; simp at hc
          have hnot : th N x0 g ∉ F := (kv_none hx4).mp hnone
          have hB5 := hB.add hx0 hgG hnot
          have hF5 := hB5.few hN0
          have hlen : xs.length = F.length := by
            have := congrArg List.length hx4
            rw [List.length_map, List.length_map] at this
            exact this
          rw [List.length_append, List.length_singleton] at hF5
          refine ⟨_, rfl, _, rfl, d, t, xs, mvK (th N x0 g), rfl, rfl, hd4, mvs_ks hk4 hx4, ht', hnone, lt_line (by have := nn_le hN; omega), ?_⟩
          have hS5 := hS4.put (v := .bl true) hd4 hk4 hx4 ht'
          have sx5 : Sx H4 (upd H4 d (DG P w d (xs ++ [(mvK (th N x0 g), t, .bl true)]))) := Sx.upd hd4 dg_mut
          obtain ⟨wq5, hl5, hw5⟩ := hS5.wait
          have ht5 := sx_t sx5 ht'
          have hS6 := hS5.app hl5 hw5 ht5
          have hsub : ws.length ≤ wq5.length := Nat.le_of_eq (mvs_len hw5).symm
          refine ⟨_, rfl, .inl ⟨rfl, _, .inl (.inl hl5)⟩, _, rfl, l, _, _, rfl, rfl, hl5, ?_, ?_⟩
          · rw [List.length_map, mvs_len hw5]
            exact lt_line (by have := nn_le hN; omega)
          · refine ⟨_, _, _, _, rfl, hS6, hB5, fun g' hg' => ?_, List.mem_append_left _ hx0, ?_, by rw [List.length_append, List.length_append]; exact Nat.add_le_add_right hle _, ?_⟩
            · rw [tk] at hg'
              rcases List.mem_append.mp hg' with h | h
              · exact List.mem_append_left _ (hT g' h)
              · rw [List.mem_singleton.mp h]
                exact List.mem_append_right _ List.mem_cons_self
            · exact sx_t (Sx.upd hl5 trivial) (sx_t sx5 (Evl.ex_t e4 hq))
            · simp only [List.length_append, List.length_singleton]
              omega
        · have hin : th N x0 g ∈ F := by
            by_cases q : th N x0 g ∈ F
            · exact q
            · exfalso
              apply hc
              rw [(kv_none hx4).mpr q]
              rfl
          refine ⟨F, ws, _, _, rfl, hS4, hB, fun g' hg' => ?_, hx0, Evl.ex_t e4 hq, hle, hlt⟩
          rw [tk] at hg'
          rcases List.mem_append.mp hg' with h | h
          · exact hT g' h
          · rw [List.mem_singleton.mp h]
            exact hin
      · obtain ⟨F, ws, y5, y6, rfl, hS, hB, hT, hx0, hq, hle, hlt⟩ := hP
        rw [List.length_map, mvs_len hG, List.take_length] at hT
        exact ⟨_, hlt, F, ws, _, _, _, rfl, hS, hB.shut hT, hle, rfl⟩
    · have hnil : ws = [] := by
        cases ws with
        | nil => rfl
        | cons x r => simp at hb
      subst hnil
      have hS2 := hS.ex' e2
      obtain ⟨xs, hd2, hk2, hx2⟩ := hS2.found
      refine ⟨_, rfl, d, xs, F, rfl, hd2, hk2, hx2, fun p os ns hp so => ?_⟩
      have pm := so_perm hk2 so
      have e : ns = md N G := sort_md hN0 so.srt (pm.nodup_iff.mpr hB.nd) fun x => pm.mem_iff.trans (hB.done x)
      subst e
      exact ret p os _ (hS2.ex.trans (Ex.new hp)) (Evl.fresh_back hS2.ex hp) upd_same (mvs_ex (Ex.new hp) so.mvs)
end
end Ck
namespace Ck
open PySem PySem.Spec PyProof.Rows L2
open Evl (Ex)
theorem any_mv (m : Mv) : ∀ ms : List Mv, ((ms.map mvD).any fun z => PyData.eqv z (mvD m)) = decide (m ∈ ms)
  | [] => by simp
  | a :: r => by
    rw [List.map_cons, List.any_cons, any_mv m r, mvD_eqv, Bool.eq_iff_iff]
    simp only [Bool.or_eq_true, decide_eq_true_eq, List.mem_cons]
    constructor
    · intro h
      rcases h with h | h
      · exact .inl h.symm
      · exact .inr h
    · intro h
      rcases h with h | h
      · exact .inl h.symm
      · exact .inr h
section
variable {P : Program} {w : World} {K : PySem.W.Frag} {mg : Str → Option Value} {base : Heap}
/-- few_of -/
theorem ok_few {k : Nat} (T : Tx K w mg) (D : Df K mg "few_of" t_few p_few) (cM : Cal P w K mg base k "made" (sp_made K) []) : Cal P w K mg base (k + 1) "few_of" (sp_few K) [] := by
  refine D.cal sc_few (fun vs H Q E h => ?_) (fun f cdv A outer s H vs Q E hr h => ?_)
  · obtain ⟨_, _, _, _, rfl, _⟩ := h
    rfl
  · obtain ⟨N, a, qs, L, rfl, hN, ha, hL, h200, hok, ret⟩ := h
    have hN0 : 0 < N := hN.1
    have hn : (0 : Int) < N := by omega
    refine ⟨_, pss_cons (ps_set (i := 2) sc_few.nd rfl (.inl rfl) (pe_lst pa_nil))
      (pss_cons (ps_set (i := 3) sc_few.nd rfl (.inl rfl) (C8.pe_c cM hr (Nat.le_refl _) (by rfl) (pa_cons (pv 0) (pa_cons (pv 2) pa_nil))))
      (pss_cons (ps_for PassesOwn.never rfl (pi_list (pe_callB cr_sortMv (by rfl) T.sorted (by decide +kernel) (pa_cons (pv 1) pa_nil))) (pg_name (i := 4) sc_few.nd rfl (.inl rfl))
        (pss_one (ps_if (pt_cmpR (op_notInD (hu65 hr)) (pv 4) (pv 3) (by rfl))
          (pss_cons (ps_expr (pe_bm PySem.F.plainAttrs_list PySem.F.slot_list_append PySem.F.type_list_append mt_append (pv 2) (pa_cons (pv 4) pa_nil)))
          (pss_one (ps_set (i := 3) sc_few.nd rfl (.inl rfl) (C8.pe_c cM hr (Nat.le_refl _) (by rfl) (pa_cons (pv 0) (pa_cons (pv 2) pa_nil)))))) pss_nil)))
      (pss_one (ps_ret (pv 2))))), ?_⟩
    refine ⟨Nat.zero_le _, fun p hp => ?_⟩
    refine nm_eq [some (.int (N : Int)), some (.ref a), some (.ref p), none, none] rfl ?_
    refine ⟨_, rfl, _, rfl, N, p, [], [], rfl, hN, .inl (.inl upd_same), .nil, fun kp kqs H1 e1 hk0 hkl hkm => ?_⟩
    refine nm_eq [some (.int (N : Int)), some (.ref a), some (.ref p), some (.ref kp), none] rfl ?_
    have hp1 := e1 p _ upd_same
    have nekp : kp ≠ p := fun z => by subst z; rw [upd_same] at hk0; cases hk0
    have lm0 : LM K H H1 p [] := (lm_nil hp).ex' e1
    refine ⟨_, rfl, a, qs, L, rfl, Evl.ex_l lm0.ex ha, mvs_ex lm0.ex hL, fun b os ns hb so => ?_⟩
    have neb : b ≠ p := fun z => by subst z; rw [hp1] at hb; cases hb
    have pm : ns.Perm L := so_perm (mvs_ex lm0.ex hL) so
    refine ⟨b, rfl, ⟨_, .inl (.inl upd_same)⟩, ?_⟩
    refine for_list (K := K) (a := b) (xs := os.map V.ref) (fun i σ H' => ∃ F kp kqs y4, σ = [some (.int (N : Int)), some (.ref a), some (.ref p), some (.ref kp), y4] ∧ LM K H H' p F ∧ H' kp = some (.lst (kqs.map V.ref)) ∧ Mvs K H' kqs (md N F) ∧ kp ≠ p ∧
        H' b = some (.lst (os.map V.ref)) ∧ Mvs K H' os ns ∧ (∀ x ∈ F, x ∈ L) ∧ Chain N F ∧ ∀ x ∈ ns.take i, Rch N F x)
      ⟨[], kp, kqs, none, rfl, lm0.ex' (Ex.new hb), (Ex.new hb) kp _ hkl, mvs_ex (Ex.new hb) hkm, nekp, upd_same, mvs_ex (Ex.new hb) so.mvs, by simp, fun k x h => by simp at h, by simp⟩
      (fun i σ H' _ hP => ?_) (fun i x σ H' hx hP => ?_) (fun σ H' hP => ?_)
    · obtain ⟨_, _, _, _, _, _, _, _, _, h, _⟩ := hP
      exact .inl (.inl h)
    · obtain ⟨F, kp, kqs, y4, rfl, hF, hkl, hkm, nekp, hB, hM, hsub, hch, hr1⟩ := hP
      obtain ⟨q, hqi, rfl⟩ := refs_get hx
      obtain ⟨m, hmi, hqm⟩ := mvs_get hM hqi
      have hmL : m ∈ L := pm.mem_iff.mp (List.mem_of_getElem? hmi)
      refine nm_eq [some (.int (N : Int)), some (.ref a), some (.ref p), some (.ref kp), some (.ref q)] rfl ?_
      refine ⟨_, rfl, _, rfl, mvD m, (md N F).map mvD, mv_dp hqm, .lst (.inl (.inl hkl)) (mvs_dp hkm), mvD_ok m, mvDs_ok _, _, rfl, ?_⟩
      rw [any_mv]
      have tk := take_snoc hmi
      refine ite2 (fun hc => ?_) (fun hc => ?_)
      · have hno : ¬ Rch N F m := fun z => by
          rw [decide_eq_true ((mem_md hN0).mpr z)] at hc
          cases hc
        have hch2 := hch.snoc (hok m hmL) hno
        obtain ⟨fqs, hpl, hlen, hF2⟩ := hF.app (Ex.refl _) hqm
        have sx := Sx.upd (o := .lst (fqs.map V.ref ++ [.ref q])) hpl trivial
        refine ⟨_, rfl, .inl ⟨rfl, _, .inl (.inl hpl)⟩, _, rfl, p, _, _, rfl, rfl, hpl, ?_, ?_⟩
        · rw [List.length_map, hlen]
          exact lt_line (by have := chain_len hN0 hN.2 hch; omega)
        obtain ⟨fq2, hpl2, hfm2⟩ := hF2.at_
        refine ⟨_, rfl, _, rfl, N, p, fq2, F ++ [m], rfl, hN, .inl (.inl hpl2), hfm2, fun kp2 kqs2 H2 e2 hk0 hkl2 hkm2 => ?_⟩
        refine nm_eq [some (.int (N : Int)), some (.ref a), some (.ref p), some (.ref kp2), some (.ref q)] rfl ?_
        refine ⟨F ++ [m], kp2, kqs2, _, rfl, hF2.ex' e2, hkl2, hkm2, fun z => ?_, e2 b _ ?_, mvs_ex e2 (mvs_sx sx hM), fun x hx => ?_, hch2, fun x hx => ?_⟩
        · subst z
          rw [hpl2] at hk0
          cases hk0
        · rw [upd_ne neb]
          exact hB
        · rcases List.mem_append.mp hx with h | h
          · exact hsub x h
          · rw [List.mem_singleton.mp h]; exact hmL
        · rw [tk] at hx
          rcases List.mem_append.mp hx with h | h
          · exact (hr1 x h).mono fun y hy => List.mem_append_left _ hy
          · rw [List.mem_singleton.mp h]
            exact Rch.gen (List.mem_append_right _ List.mem_cons_self) (hok m hmL)
      · have hyes : Rch N F m := by
          by_cases z : m ∈ md N F
          · exact (mem_md hN0).mp z
          · exfalso
            apply hc
            rw [decide_eq_false z]
            rfl
        refine ⟨F, kp, kqs, _, rfl, hF, hkl, hkm, nekp, hB, hM, hsub, hch, fun x hx => ?_⟩
        rw [tk] at hx
        rcases List.mem_append.mp hx with h | h
        · exact hr1 x h
        · rw [List.mem_singleton.mp h]
          exact hyes
    · obtain ⟨F, kp, kqs, y4, rfl, hF, hkl, hkm, nekp, hB, hM, hsub, hch, hr1⟩ := hP
      obtain ⟨n0, e, fqs, hl, hm⟩ := hF
      rw [List.length_map, mvs_len hM, List.take_length] at hr1
      exact ⟨_, rfl, ret F hsub hch (fun x hx => hr1 x (pm.mem_iff.mpr hx)) p fqs H' e n0 hl hm⟩
end
end Ck
namespace Ck
open PySem PySem.Spec PyProof.Rows L2
open Evl (Ex)
theorem seq_c {i : Nat} {v : V} {tz : TS} {D : Ends} {σ : L2.St} {H : Hp} (σ' : L2.St) (e : σ.set i (some v) = σ') (h : tz D σ' H) : tSeq (tAsg (tC v) (gName i)) tz D σ H := by
  subst e
  exact h
theorem kv_at : ∀ {xs : List Row} {i : Nat} {x : Row}, (xs.map (·.1)).Nodup → xs[i]? = some x → valV (kvs xs) x.1 = some x.2.2
  | [], _, _, _, h => by simp at h
  | y :: r, 0, x, _, h => by
    have e := Option.some.inj h
    subst e
    exact valV_pos (p := (y.1, y.2.2)) rfl
  | y :: r, i + 1, x, nd, h => by
    have nd : (y.1 :: r.map (·.1)).Nodup := nd
    obtain ⟨h1, h2⟩ := List.nodup_cons.mp nd
    have hr : r[i]? = some x := by simpa using h
    have ne : ¬ y.1 = x.1 := fun e => h1 (List.mem_map.mpr ⟨x, List.mem_of_getElem? hr, e.symm⟩)
    have q := kv_at h2 hr
    rw [← q]
    exact valV_neg (p := (y.1, y.2.2)) ne
theorem walkF_snoc {n : Int} {F : List Mv} {i : Nat} {g : Mv} (hg : F[i]? = some g) : ∀ {is : List Nat} {m x : Mv}, walkF n F m is = some x → walkF n F m (is ++ [i]) = some (th n x g)
  | [], m, x, h => by
    have e : m = x := Option.some.inj h
    subst e
    show walkF n F m [i] = _
    unfold walkF
    rw [hg]
    rfl
  | j :: r, m, x, h => by
    rw [List.cons_append]
    unfold walkF at h ⊢
    cases e : F[j]? with
    | none => rw [e] at h; cases h
    | some g' =>
      rw [e] at h
      exact walkF_snoc hg h
abbrev iV (is : List Nat) : List V := is.map fun i => V.int ((i : Nat) : Int)
/-- the rows' heap: the dict at d, the queue at p -/
structure RS (P : Program) (w : World) (K : PySem.W.Frag) (H0 H : Hp) (d p : Addr) (n : Int) (G : List Mv) (xs : List Row) (ms : List Mv) : Prop where
  ex : Ex H0 H
  nd : H0 d = none
  np : H0 p = none
  fd : H d = some (DG P w d xs)
  rw : H p = some (.lst ((xs.map (·.2.1)).map V.ref))
  mvs : Mvs K H (xs.map (·.2.1)) ms
  keys : xs.map (·.1) = ms.map mvK
  vals : ∀ (i : Nat) (x : Row) (m : Mv), xs[i]? = some x → ms[i]? = some m → ∃ (l : Addr) (is : List Nat), x.2.2 = .ref l ∧ l ≠ p ∧ H l = some (.lst (iV is)) ∧ walkF n G e0 is = some m ∧ is.length ≤ i
section
variable {P : Program} {w : World} {K : PySem.W.Frag} {mg : Str → Option Value} {base : Heap}
theorem RS.ex' {H0 H H1 : Hp} {d p : Addr} {n : Int} {G : List Mv} {xs : List Row} {ms : List Mv} (h : RS P w K H0 H d p n G xs ms) (e : Ex H H1) : RS P w K H0 H1 d p n G xs ms := by
  refine ⟨h.ex.trans e, h.nd, h.np, e d _ h.fd, e p _ h.rw, mvs_ex e h.mvs, h.keys, fun i x m a b => ?_⟩
  obtain ⟨l, is, h1, h2, h3, h4⟩ := h.vals i x m a b
  exact ⟨l, is, h1, h2, e l _ h3, h4⟩
theorem RS.len {H0 H : Hp} {d p : Addr} {n : Int} {G : List Mv} {xs : List Row} {ms : List Mv} (h : RS P w K H0 H d p n G xs ms) : xs.length = ms.length := by
  have := congrArg List.length h.keys
  rw [List.length_map, List.length_map] at this
  exact this
theorem RS.add {H0 H : Hp} {d p t l : Addr} {n : Int} {G : List Mv} {xs : List Row} {ms : List Mv} {m : Mv} {is : List Nat} (h : RS P w K H0 H d p n G xs ms) (ht : SqT K H t (mvV m)) (hl : H l = some (.lst (iV is))) (hlp : l ≠ p)
    (hw : walkF n G e0 is = some m) (hi : is.length ≤ ms.length) :
    ∃ H1, H1 = upd H d (DG P w d (xs ++ [(mvK m, t, .ref l)])) ∧ H1 p = some (.lst ((xs.map (·.2.1)).map V.ref)) ∧ Sx H H1 ∧
      RS P w K H0 (upd H1 p (.lst ((xs.map (·.2.1)).map V.ref ++ [.ref t]))) d p n G (xs ++ [(mvK m, t, .ref l)]) (ms ++ [m]) := by
  have sx1 : Sx H (upd H d (DG P w d (xs ++ [(mvK m, t, .ref l)]))) := Sx.upd h.fd dg_mut
  have npd : p ≠ d := ne_of h.rw h.fd (fun z => nomatch z)
  have hp1 : upd H d (DG P w d (xs ++ [(mvK m, t, .ref l)])) p = some (.lst ((xs.map (·.2.1)).map V.ref)) := by rw [upd_ne npd]; exact h.rw
  have sx2 : Sx (upd H d (DG P w d (xs ++ [(mvK m, t, .ref l)]))) (upd (upd H d (DG P w d (xs ++ [(mvK m, t, .ref l)]))) p (.lst ((xs.map (·.2.1)).map V.ref ++ [.ref t]))) := Sx.upd hp1 trivial
  have sx := sx1.trans sx2
  have keep : ∀ (l' : Addr) (us : List V), l' ≠ p → H l' = some (.lst us) → upd (upd H d (DG P w d (xs ++ [(mvK m, t, .ref l)]))) p (.lst ((xs.map (·.2.1)).map V.ref ++ [.ref t])) l' = some (.lst us) := fun l' us ne e => by
    rw [upd_ne ne, upd_ne (ne_of e h.fd (fun z => nomatch z))]
    exact e
  refine ⟨_, rfl, hp1, sx1, ⟨(h.ex.mut h.nd).mut h.np, h.nd, h.np, ?_, ?_, ?_, ?_, fun i x m' a b => ?_⟩⟩
  · rw [upd_ne npd.symm, upd_same]
  · rw [upd_same, map_snoc, map_snoc]
  · rw [map_snoc]
    exact mvs_snoc (mvs_sx sx h.mvs) (sx_t sx ht)
  · rw [map_snoc, map_snoc, h.keys]
  · by_cases hlt : i < xs.length
    · rw [List.getElem?_append_left hlt] at a
      rw [List.getElem?_append_left (by rw [← h.len]; exact hlt)] at b
      obtain ⟨l', is', h1, h2, h3, h4⟩ := h.vals i x m' a b
      exact ⟨l', is', h1, h2, keep l' _ h2 h3, h4⟩
    · have hi2 : i = xs.length := by
        have := (List.getElem?_eq_some_iff.mp a).1
        rw [List.length_append, List.length_singleton] at this
        omega
      subst hi2
      rw [List.getElem?_append_right (Nat.le_refl _), Nat.sub_self] at a
      rw [List.getElem?_append_right (by rw [← h.len]; exact Nat.le_refl _), h.len, Nat.sub_self] at b
      have ea := Option.some.inj a
      have eb := Option.some.inj b
      subst ea
      subst eb
      exact ⟨l, is, rfl, hlp, keep l _ hlp hl, hw, by rw [h.len]; exact hi⟩
/-- rows_to -/
theorem ok_rows {k : Nat} (T : Tx K w mg) (D : Df K mg "rows_to" t_rows p_rows) (cT : Cal P w K mg base k "then" (sp_then K) []) : Cal P w K mg base (k + 1) "rows_to" (sp_rows P w K) [] := by
  refine D.cal sc_rows (fun vs H Q E h => ?_) (fun f cdv A outer s H vs Q E hr h => ?_)
  · obtain ⟨_, _, _, _, rfl, _⟩ := h
    rfl
  · obtain ⟨N, a, qs, G, rfl, hN, ha, hG, h200, ret⟩ := h
    have hN0 : 0 < N := hN.1
    have hn : (0 : Int) < N := by omega
    obtain ⟨aT, gT, hT⟩ := T.stay
    refine ⟨_, pss_cons (ps_set (i := 2) sc_rows.nd rfl (.inl rfl) (pe_disp1 (hu_of hr) (pe_glob (v := .ref aT) rfl gT rfl) (pe_lst pa_nil)))
      (pss_cons (ps_set (i := 3) sc_rows.nd rfl (.inl rfl) (pe_lst (pa_cons (pe_glob (v := .ref aT) rfl gT rfl) pa_nil)))
      (pss_cons (ps_set (i := 4) sc_rows.nd rfl (.inl rfl) pe_int)
      (pss_cons (ps_while PassesOwn.never (pt_cmpR op_lt (pv 4) (pe_callB call_len_seq (by rfl) T.len PySem.boot_len (pa_cons (pv 3) pa_nil)) (nomark _))
        (pss_cons (ps_for PassesOwn.never rfl (pi_enum (by rfl) T.enumerate (pa_cons (pv 1) pa_nil)) (pg_tup (by rfl) (pgs_cons (pg_name (i := 5) sc_rows.nd rfl (.inl rfl)) (pgs_cons (pg_name (i := 6) sc_rows.nd rfl (.inl rfl)) pgs_nil)))
          (pss_cons (ps_set (i := 7) sc_rows.nd rfl (.inl rfl) (C8.pe_c cT hr (Nat.le_refl _) (by rfl) (pa_cons (pv 0) (pa_cons (pe_ix ix_list (pv 3) (pv 4) (fun _ _ => rfl)) (pa_cons (pv 6) pa_nil)))))
          (pss_one (ps_if (pt_cmpR (op_gnot (hu_of hr)) (pv 7) (pv 2) (by rfl))
            (pss_cons (ps_asg (pe_op op_cat (pe_ix (ix_gget (hu_of hr)) (pv 2) (pe_ix ix_list (pv 3) (pv 4) (fun _ _ => rfl)) (fun _ _ => rfl)) (pe_lst (pa_cons (pv 5) pa_nil))) (pg_sub (pv 2) (pv 7) (set_gput (hu_of hr))))
            (pss_one (ps_expr (pe_bm PySem.F.plainAttrs_list PySem.F.slot_list_append PySem.F.type_list_append mt_append (pv 3) (pa_cons (pv 7) pa_nil))))) pss_nil))))
        (pss_one (ps_set (i := 4) sc_rows.nd rfl (.inl rfl) (pe_op op_add (pv 4) pe_int)))))
      (pss_one (ps_ret (pv 2)))))), ?_⟩
    refine fun d hd => ?_
    refine ⟨Nat.zero_le _, fun l0 hl0 => ?_⟩
    have gd : (upd (upd H d (DG P w d [])) l0 (.lst [])) d = some (DG P w d []) := (Ex.new hl0) d _ upd_same
    have eH := (Ex.new (o := DG P w d []) hd).trans (Ex.new (o := .lst []) hl0)
    refine ⟨gd, aT, mvK e0, rfl, hT.sq _, ?_⟩
    refine nm_eq [some (.int (N : Int)), some (.ref a), some (.ref d), none, none, none, none, none] rfl ?_
    have ex2 := eH.mut (o := DG P w d [(mvK e0, aT, .ref l0)]) hd
    have nl0d : l0 ≠ d := fun z => by subst z; rw [upd_same] at hl0; cases hl0
    have gl0 : upd (upd (upd H d (DG P w d [])) l0 (.lst [])) d (DG P w d [(mvK e0, aT, .ref l0)]) l0 = some (.lst []) := by rw [upd_ne nl0d, upd_same]
    have gd2 : upd (upd (upd H d (DG P w d [])) l0 (.lst [])) d (DG P w d [(mvK e0, aT, .ref l0)]) d = some (DG P w d [(mvK e0, aT, .ref l0)]) := upd_same
    refine ⟨by show 1 ≤ sizeLine; decide, fun p hp => ?_⟩
    refine nm_eq [some (.int (N : Int)), some (.ref a), some (.ref d), some (.ref p), none, none, none, none] rfl ?_
    have exp := Ex.new (o := .lst [.ref aT]) hp
    have nl0p : l0 ≠ p := ne_of_none gl0 hp
    have rs0 := (show RS P w K H _ d p N G [(mvK e0, aT, .ref l0)] [e0] from ⟨ex2.trans exp, hd, Evl.fresh_back ex2 hp, exp d _ gd2, upd_same, .cons (hT.sq _) .nil, rfl, fun i x m h1 h2 => by
      cases i with
      | zero =>
        have e1 := Option.some.inj h1
        have e2 := Option.some.inj h2
        subst e1
        subst e2
        exact ⟨l0, [], rfl, nl0p, exp l0 _ gl0, rfl, Nat.le_refl _⟩
      | succ i => simp at h1⟩)
    dsimp only
    refine seq_c [some (.int (N : Int)), some (.ref a), some (.ref d), some (.ref p), some (.int ((0 : Nat) : Int)), none, none, none] rfl ?_
    refine Evl.q_while (fun M σ H' => ∃ (t : Nat) (xs : List Row) (ms : List Mv) (y5 y6 y7 : Option V), σ = [some (.int (N : Int)), some (.ref a), some (.ref d), some (.ref p), some (.int (t : Int)), y5, y6, y7] ∧ RS P w K H H' d p N G xs ms ∧ Bq N G ms t ∧ t ≤ ms.length ∧ M = 8 * (N * N) - t) _
      ⟨0, _, _, none, none, none, rfl, rs0, Bq.start N G, Nat.zero_le _, rfl⟩ (fun M σ H1 hW => ?_)
    obtain ⟨t, xs, ms, y5, y6, y7, rfl, hS, hB, htl, hM⟩ := hW
    have hlen := hS.len
    have h8 := hB.few hN0
    have h8' := nn_le hN
    refine ⟨decide (t < xs.length), ?_, fun hb H2 e2 => ?_, fun hb H2 e2 => ?_⟩
    · intro H2 e2 Q q
      refine ⟨_, rfl, _, rfl, p, _, rfl, .inl (.inl (.inl (e2 p _ hS.rw))), _, _, rfl, rfl, _, rfl, ?_⟩
      have e : decide ((t : Int) < (((xs.map (·.2.1)).map V.ref).length : Int)) = decide (t < xs.length) := by
        rw [List.length_map, List.length_map, decide_eq_decide]
        omega
      rw [e]
      exact q _ (Ex.refl _)
    · have htx : t < xs.length := of_decide_eq_true hb
      have hS2 := hS.ex' e2
      refine ⟨fun σ2 H2 => ∃ m', m' < M ∧ ∃ (t : Nat) (xs : List Row) (ms : List Mv) (y5 y6 y7 : Option V), σ2 = [some (.int (N : Int)), some (.ref a), some (.ref d), some (.ref p), some (.int (t : Int)), y5, y6, y7] ∧ RS P w K H H2 d p N G xs ms ∧ Bq N G ms t ∧ t ≤ ms.length ∧ m' = 8 * (N * N) - t, fun σ2 H2 h => h, ?_⟩
      refine ⟨_, rfl, a, qs.map V.ref, rfl, Evl.ex_l hS2.ex ha, ?_⟩
      have hmt : ms[t]? = some ms[t] := List.getElem?_eq_getElem (by omega)
      generalize hx0 : ms[t]'(by omega) = x0 at hmt
      refine for_it (walk_enum (K := K) (a := a) (xs := qs.map V.ref)) (fun i σ H' => ∃ (xs : List Row) (ms : List Mv) (y5 y6 y7 : Option V), σ = [some (.int (N : Int)), some (.ref a), some (.ref d), some (.ref p), some (.int (t : Int)), y5, y6, y7] ∧ RS P w K H H' d p N G xs ms ∧ Bq N G ms t ∧ t < ms.length ∧ ms[t]? = some x0 ∧ ∀ g ∈ G.take i, th N x0 g ∈ ms)
        ⟨xs, ms, y5, y6, y7, rfl, hS2, hB, by omega, hmt, by simp⟩ (fun i σ H' _ hP => ?_) (fun i x σ H3 H3' hi hP hY => ?_) (fun σ H3 hP => ?_)
      · obtain ⟨xs, ms, y5, y6, y7, _, hS, _⟩ := hP
        exact Evl.ex_l hS.ex ha
      · obtain ⟨xs, ms, y5, y6, y7, rfl, hS, hB, htl, hmt, hT2⟩ := hP
        obtain ⟨Tq, x1, x2, rfl, hTq, rfl, ex1, hx2⟩ := hY
        have ex1 := (Option.some.inj ex1).symm
        subst ex1
        obtain ⟨q, hqi, rfl⟩ := refs_get hx2
        obtain ⟨g, hgi, hgq⟩ := mvs_get hG hqi
        have hgG : g ∈ G := List.mem_of_getElem? hgi
        have eT := Ex.new (o := .tup [.int ((i : Nat) : Int), .ref q]) hTq
        have hS := hS.ex' eT
        refine ⟨Tq, _, rfl, .inl (.inl upd_same), rfl, _, _, rfl, _, _, rfl, rfl, ?_⟩
        dsimp only
        refine st_eq [some (.int (N : Int)), some (.ref a), some (.ref d), some (.ref p), some (.int (t : Int)), some (.int ((i : Nat) : Int)), some (.ref q), y7] rfl ?_
        have hlen := hS.len
        have htx : t < xs.length := by omega
        have hxt : xs[t]? = some xs[t] := List.getElem?_eq_getElem htx
        generalize hr0 : xs[t]'htx = r0 at hxt
        have hrow : ((xs.map (·.2.1)).map V.ref)[t]? = some (.ref r0.2.1) := by
          rw [List.getElem?_map, List.getElem?_map, hxt]
          rfl
        have hq0 : SqT K (upd H3 Tq (.tup [.int ((i : Nat) : Int), .ref q])) r0.2.1 (mvV x0) := by
          obtain ⟨m', hm1, hm2⟩ := mvs_get (i := t) (q := r0.2.1) hS.mvs (by rw [List.getElem?_map, hxt]; rfl)
          rw [hmt] at hm1
          rw [Option.some.inj hm1]
          exact hm2
        have hkey0 : r0.1 = mvK x0 := by
          have q1 : (xs.map (·.1))[t]? = some r0.1 := by rw [List.getElem?_map, hxt]; rfl
          rw [hS.keys, List.getElem?_map, hmt] at q1
          exact (Option.some.inj q1).symm
        have h8 := hB.few hN0
        refine ⟨_, rfl, _, rfl, _, rfl, p, _, t, .ref r0.2.1, rfl, rfl, .inl (.inl hS.rw), atI_nat hrow, _, rfl, ?_⟩
        refine ⟨N, r0.2.1, q, x0, g, rfl, hn, hq0, Evl.ex_t hS.ex hgq, fun u H4 e4 hu => ?_⟩
        refine nm_eq [some (.int (N : Int)), some (.ref a), some (.ref d), some (.ref p), some (.int (t : Int)), some (.int ((i : Nat) : Int)), some (.ref q), some (.ref u)] rfl ?_
        have hS4 := hS.ex' e4
        have ks4 := mvs_ks hS4.mvs hS4.keys
        have hu' : SqT K H4 u (mvV (th N x0 g)) := .inl (.inl hu)
        refine ⟨_, rfl, _, rfl, d, u, xs, mvK (th N x0 g), rfl, rfl, hS4.fd, ks4, hu', _, rfl, ?_⟩
        have tk := take_snoc hgi
        refine ite2 (fun hc => ?_) (fun hc => ?_)
        · have hnone : valV (kvs xs) (mvK (th N x0 g)) = none := by
            cases e : valV (kvs xs) (mvK (th N x0 g)) with
            | none => rfl
            | some v => rw [e] at hc; simp at hc
          have hnot : th N x0 g ∉ ms := (kv_none hS4.keys).mp hnone
          have hB5 := hB.add (Nat.le_of_lt htl) (List.mem_of_getElem? hmt) hgG hnot
          have hF5 := hB5.few hN0
          rw [List.length_append, List.length_singleton] at hF5
          obtain ⟨l, is, hv1, hv2, hv3, hv4, hv5⟩ := hS4.vals t r0 x0 hxt hmt
          have ndk : (xs.map (·.1)).Nodup := by
            rw [hS4.keys]
            exact nodup_map hB.nd fun x _ y _ e => mvK_inj e
          have hval := kv_at ndk hxt
          rw [hkey0, hv1] at hval
          refine ⟨_, rfl, _, rfl, _, rfl, p, _, t, .ref r0.2.1, rfl, rfl, .inl (.inl hS4.rw), atI_nat hrow, ?_⟩
          refine ⟨d, r0.2.1, xs, mvK x0, .ref l, rfl, rfl, hS4.fd, ks4, Evl.ex_t e4 hq0, hval, ?_⟩
          refine ⟨_, rfl, by show 1 ≤ sizeLine; decide, fun b2 hb2 => ?_⟩
          have e5 := Ex.new (o := .lst [.int ((i : Nat) : Int)]) hb2
          refine ⟨l, b2, _, _, rfl, rfl, e5 l _ hv3, upd_same, ?_, fun l' hl' => ?_⟩
          · show (iV is).length + 1 ≤ sizeLine
            rw [List.length_map]
            exact Nat.le_of_lt (lt_line (by omega))
          have e6 := Ex.new (o := .lst (iV is ++ [.int ((i : Nat) : Int)])) hl'
          have e56 := e5.trans e6
          have hS6 := hS4.ex' e56
          have hu6 := Evl.ex_t e56 hu'
          have hl'p : l' ≠ p := fun z => by
            subst z
            have := e5 l' _ hS4.rw
            rw [this] at hl'
            cases hl'
          obtain ⟨H7, hH7, hp7, sx7, hS8⟩ := hS6.add (t := u) (l := l') (m := th N x0 g) (is := is ++ [i]) hu6 (by rw [upd_same]; unfold iV; rw [map_snoc]) hl'p (walkF_snoc hgi hv4) (by rw [List.length_append, List.length_singleton]; omega)
          refine ⟨_, rfl, _, rfl, d, u, xs, mvK (th N x0 g), rfl, rfl, hS6.fd, mvs_ks hS6.mvs hS6.keys, hu6, hnone, lt_line (by omega), ?_⟩
          have goal7 : ∀ {G7 : Hp → Prop}, G7 H7 → G7 (upd _ d (DG P w d (xs ++ [(mvK (th N x0 g), u, .ref l')]))) := fun {G7} h => hH7 ▸ h
          refine goal7 (G7 := fun H7 => tDrop (tBM K "list" rAppend (tVar 3) (tCons (tVar 7) tNil)) _ _ H7) ?_
          refine ⟨_, rfl, .inl ⟨rfl, _, .inl (.inl hp7)⟩, _, rfl, p, _, _, rfl, rfl, hp7, ?_, ?_⟩
          · rw [List.length_map, List.length_map]
            exact lt_line (by omega)
          · refine ⟨_, _, _, _, _, rfl, hS8, hB5, by rw [List.length_append]; omega, ?_, fun g' hg' => ?_⟩
            · rw [List.getElem?_append_left htl]
              exact hmt
            · rw [tk] at hg'
              rcases List.mem_append.mp hg' with h | h
              · exact List.mem_append_left _ (hT2 g' h)
              · rw [List.mem_singleton.mp h]
                exact List.mem_append_right _ List.mem_cons_self
        · have hin : th N x0 g ∈ ms := by
            by_cases q : th N x0 g ∈ ms
            · exact q
            · exfalso
              apply hc
              rw [(kv_none hS4.keys).mpr q]
              rfl
          refine ⟨xs, ms, _, _, _, rfl, hS4, hB, htl, hmt, fun g' hg' => ?_⟩
          rw [tk] at hg'
          rcases List.mem_append.mp hg' with h | h
          · exact hT2 g' h
          · rw [List.mem_singleton.mp h]
            exact hin
      · obtain ⟨xs, ms, y5, y6, y7, rfl, hS, hB, htl, hmt, hT2⟩ := hP
        rw [List.length_map, mvs_len hG, List.take_length] at hT2
        have hlt8 := hB.few hN0
        refine ⟨_, rfl, _, _, rfl, rfl, ?_⟩
        refine nm_eq [some (.int (N : Int)), some (.ref a), some (.ref d), some (.ref p), some (.int ((t + 1 : Nat) : Int)), y5, y6, y7] rfl ?_
        exact ⟨8 * (N * N) - (t + 1), by omega, t + 1, xs, ms, y5, y6, y7, rfl, hS, hB.shut hmt hT2, by omega, rfl⟩
    · have htx : ¬ t < xs.length := of_decide_eq_false hb
      have hS2 := hS.ex' e2
      refine ⟨_, rfl, ?_⟩
      refine ret d xs ms H2 hS2.ex hS2.fd ⟨hS2.mvs, hS2.keys, fun i x m h1 h2 => ?_⟩ hB.nd (hB.done (by omega))
      obtain ⟨l, is, a1, a2, a3, a4, a5⟩ := hS2.vals i x m h1 h2
      exact ⟨l, is, a1, .inl (.inl a3), a4⟩
end
end Ck
namespace Ck
open PySem PySem.Spec PyProof.Rows L2
open Evl (Ex)
theorem pk_none {kv : List (List Key × V)} {ps : List (Int × Int)} (hk : kv.map (·.1) = ps.map pk) {p : Int × Int} : valV kv (pk p) = none ↔ p ∉ ps := by
  constructor
  · intro h hm
    have q := valV_not h
    rw [hk] at q
    exact q (List.mem_map.mpr ⟨p, hm, rfl⟩)
  · intro h
    cases e : valV kv (pk p) with
    | none => rfl
    | some v =>
      have q := valV_in e
      rw [hk] at q
      obtain ⟨x, hx, ex⟩ := List.mem_map.mp q
      exact absurd (pk_inj ex ▸ hx) h
theorem valV_mem {kv : List (List Key × V)} {k : List Key} {v : V} (h : valV kv k = some v) : (k, v) ∈ kv := by
  unfold valV at h
  obtain ⟨x, hx, e⟩ := Option.map_eq_some_iff.mp h
  have h1 := List.mem_of_find?_eq_some hx
  have h2 := List.find?_some hx
  have h3 : x.1 = k := of_decide_eq_true h2
  rw [← h3, ← e]
  exact h1
def plcs (N : Nat) : List (Int × Int) := (List.range N).flatMap fun (i : Nat) => (List.range N).map fun (j : Nat) => ((i : Int), (j : Int))
theorem plcs_len (N : Nat) : (plcs N).length = N * N := by
  unfold plcs
  rw [flat_len (k := N) _ fun i => by rw [List.length_map, List.length_range], List.length_range]
theorem mem_plcs {N : Nat} {p : Int × Int} (h : In N p) : p ∈ plcs N := by
  obtain ⟨h1, h2, h3, h4⟩ := h
  refine List.mem_flatMap.mpr ⟨p.1.toNat, List.mem_range.mpr (by omega), List.mem_map.mpr ⟨p.2.toNat, List.mem_range.mpr (by omega), ?_⟩⟩
  rw [Int.toNat_of_nonneg h1, Int.toNat_of_nonneg h3]
/-- places at addresses -/
def Pls (H : Hp) : List Addr → List (Int × Int) → Prop := Paired fun q p => H q = some (.tup [.int p.1, .int p.2])
theorem pls_sx {H H' : Hp} (e : Sx H H') : ∀ {qs : List Addr} {ws : List (Int × Int)}, Pls H qs ws → Pls H' qs ws
  | _, _, .nil => .nil
  | _, _, .cons h r => .cons (e _ _ (fun z => z) h) (pls_sx e r)
theorem pls_len {H : Hp} {qs : List Addr} {ws : List (Int × Int)} (h : Pls H qs ws) : qs.length = ws.length := Paired.length h
theorem pls_dp {K : PySem.W.Frag} {H : Hp} : ∀ {qs : List Addr} {ws : List (Int × Int)}, Pls H qs ws → DpAll K H (qs.map V.ref) (ws.map plcD)
  | _, _, .nil => .nil
  | _, _, .cons h r => .cons (plc_dp (.inl (.inl h))) (pls_dp r)
theorem plcDs_lay : ∀ ws : List (Int × Int), PyData.canLayAll0 (ws.map plcD) = true ∧ PyData.depthAll (ws.map plcD) ≤ 1
  | [] => ⟨by simp [PyData.canLayAll0], by simp [PyData.depthAll]⟩
  | a :: r => by
    have q := plcDs_lay r
    rw [List.map_cons]
    constructor
    · simp [PyData.canLayAll0, plcD, PyData.canLay0, q.1]
    · have d1 : PyData.depth (plcD a) = 1 := by simp [plcD, PyData.depth, PyData.depthAll]
      simp only [PyData.depthAll, d1]
      omega
theorem plcDs_ok (ws : List (Int × Int)) : SeqAt.shaped (.list (ws.map plcD)) = true := by
  have q := plcDs_lay ws
  unfold SeqAt.shaped
  simp only [PyData.canLay0, q.1, PyData.depth, Bool.true_and]
  exact decide_eq_true (by omega)
theorem nil_eqvP (ws : List (Int × Int)) : PyData.eqv (.list (ws.map plcD)) (.list []) = ws.isEmpty := by
  rw [eqv_list]
  cases ws with
  | nil => simp [PyData.eqvAll]
  | cons a r => simp [PyData.eqvAll]
theorem pls_last {H : Hp} {x : Int × Int} {ws : List (Int × Int)} : ∀ {qs : List Addr}, Pls H qs (ws ++ [x]) → ∃ qs' q, qs = qs' ++ [q] ∧ Pls H qs' ws ∧ H q = some (.tup [.int x.1, .int x.2]) := by
  induction ws with
  | nil =>
    intro qs h
    have h : Pls H qs [x] := h
    cases qs with
    | nil => cases h
    | cons q r =>
      cases h with
      | cons h1 h2 =>
        cases h2
        exact ⟨[], q, rfl, .nil, h1⟩
  | cons y ws ih =>
    intro qs h
    have h : Pls H qs (y :: (ws ++ [x])) := h
    cases qs with
    | nil => cases h
    | cons q r =>
      cases h with
      | cons h1 h2 =>
        obtain ⟨qs', q', e, a1, a2⟩ := ih h2
        exact ⟨q :: qs', q', by rw [e]; rfl, .cons h1 a1, a2⟩
/-- the roots' dict at d holds the places ps -/
structure RT (N : Nat) (H0 H : Hp) (d : Addr) (ps : List (Int × Int)) : Prop where
  ex : Ex H0 H
  nd : H0 d = none
  kv : ∃ kv, H d = some (.dT kv) ∧ kv.map (·.1) = ps.map pk ∧ ∀ x ∈ kv, ∃ q a b, x.2 = .ref q ∧ H q = some (.tup [.int a, .int b]) ∧ In N (a, b)
  nodup : ps.Nodup
  inn : ∀ p ∈ ps, In N p
theorem RT.ex' {N : Nat} {H0 H H1 : Hp} {d : Addr} {ps : List (Int × Int)} (h : RT N H0 H d ps) (e : Ex H H1) : RT N H0 H1 d ps := by
  obtain ⟨a1, a2, ⟨kv, b1, b2, b3⟩, a4, a5⟩ := h
  refine ⟨a1.trans e, a2, ⟨kv, e d _ b1, b2, fun x hx => ?_⟩, a4, a5⟩
  obtain ⟨q, a, b, h1, h2, h3⟩ := b3 x hx
  exact ⟨q, a, b, h1, e q _ h2, h3⟩
theorem RT.size {N : Nat} {H0 H : Hp} {d : Addr} {ps : List (Int × Int)} (h : RT N H0 H d ps) : ps.length ≤ N * N := by
  rw [← plcs_len]
  exact len_le h.nodup fun p hp => mem_plcs (h.inn p hp)
/-- another list, not the dict, is changed -/
theorem RT.lst {N : Nat} {H0 H : Hp} {d l : Addr} {ps : List (Int × Int)} {xs ys : List V} (h : RT N H0 H d ps) (hl : H l = some (.lst xs)) (h0 : H0 l = none) : RT N H0 (upd H l (.lst ys)) d ps := by
  obtain ⟨a1, a2, ⟨kv, b1, b2, b3⟩, a4, a5⟩ := h
  have sx : Sx H (upd H l (.lst ys)) := Sx.upd hl trivial
  refine ⟨a1.mut h0, a2, ⟨kv, ?_, b2, fun x hx => ?_⟩, a4, a5⟩
  · rw [upd_ne (ne_of b1 hl (fun z => nomatch z))]
    exact b1
  · obtain ⟨q, a, b, h1, h2, h3⟩ := b3 x hx
    exact ⟨q, a, b, h1, sx q _ (fun z => z) h2, h3⟩
/-- a new place is put -/
theorem RT.put {N : Nat} {H0 H : Hp} {d v : Addr} {ps : List (Int × Int)} {kv : List (List Key × V)} {p : Int × Int} {a b : Int} (h : RT N H0 H d ps) (hd : H d = some (.dT kv)) (hk : kv.map (·.1) = ps.map pk) (hv : ∀ x ∈ kv, ∃ q a b, x.2 = .ref q ∧ H q = some (.tup [.int a, .int b]) ∧ In N (a, b))
    (hp : p ∉ ps) (hin : In N p) (hq : H v = some (.tup [.int a, .int b])) (hab : In N (a, b)) : RT N H0 (upd H d (.dT (putK kv (pk p) (.ref v)))) d (ps ++ [p]) := by
  have sx : Sx H (upd H d (.dT (putK kv (pk p) (.ref v)))) := Sx.upd hd trivial
  rw [putK_new _ ((pk_none hk).mpr hp)] at sx ⊢
  refine ⟨h.ex.mut h.nd, h.nd, ⟨_, upd_same, by rw [map_snoc, map_snoc, hk], fun x hx => ?_⟩, ?_, fun q hq => ?_⟩
  · rcases List.mem_append.mp hx with hx | hx
    · obtain ⟨q, a, b, h1, h2, h3⟩ := hv x hx
      exact ⟨q, a, b, h1, sx q _ (fun z => z) h2, h3⟩
    · rw [List.mem_singleton.mp hx]
      exact ⟨v, a, b, rfl, sx v _ (fun z => z) hq, hab⟩
  · refine List.nodup_append.mpr ⟨h.nodup, by simp, fun x hx y hy e => ?_⟩
    rw [List.mem_singleton.mp hy] at e
    exact hp (e ▸ hx)
  · rcases List.mem_append.mp hq with h1 | h1
    · exact h.inn q h1
    · rw [List.mem_singleton.mp h1]; exact hin
theorem RT.all {N : Nat} {H0 H : Hp} {d : Addr} {ps : List (Int × Int)} (h : RT N H0 H d ps) (ha : ∀ p, In N p → p ∈ ps) : ∃ kv, H d = some (.dT kv) ∧ Plc N kv (fun _ v => ∃ q x y, v = .ref q ∧ H q = some (.tup [.int x, .int y]) ∧ In N (x, y)) := by
  obtain ⟨kv, b1, b2, b3⟩ := h.kv
  refine ⟨kv, b1, fun r c hi => ?_⟩
  cases e : valV kv (pk (r, c)) with
  | none => exact absurd (ha _ hi) ((pk_none b2).mp e)
  | some v => exact ⟨v, e, b3 _ (valV_mem e)⟩
section
variable {P : Program} {w : World} {K : PySem.W.Frag} {mg : Str → Option Value} {base : Heap}
theorem et_waitP {σ : L2.St} {H : Hp} {i : Nat} {l : Addr} {qs : List Addr} {ws : List (Int × Int)} (hi : σ[i]? = some (some (.ref l))) (hl : H l = some (.lst (qs.map V.ref))) (hm : Pls H qs ws) :
    Evl.EvT (tTest (tOp (rNeD K) (tVar i) (tLst tNil))) σ H (!ws.isEmpty) := by
  intro H1 e Q q
  refine ⟨_, hi, Nat.zero_le _, fun r hr => ?_⟩
  have e2 := e.trans (Ex.new (o := .lst []) hr)
  refine ⟨.list (ws.map plcD), .list [], .lst (.inl (.inl (e2 l _ hl))) (pls_dp (pls_sx (Sx.of e2) hm)), .lst (.inl (.inl upd_same)) .nil, plcDs_ok ws, plcDs_ok [], _, rfl, ?_⟩
  rw [nil_eqvP]
  exact q _ (Ex.new hr)
theorem nn25 {N : Nat} (h : Sz N) : N * N ≤ 25 := Nat.mul_le_mul h.2 h.2
/-- _law_roots -/
theorem ok_roots {k : Nat} (T : Tx K w mg) (D : Df K mg "_law_roots" t_roots p_roots) (cP : Cal P w K mg base k "_law_place" (sp_plc K) []) : Cal P w K mg base (k + 1) "_law_roots" (sp_roots K) [] := by
  refine D.cal sc_roots (fun vs H Q E h => ?_) (fun f cdv A outer s H vs Q E hr h => ?_)
  · obtain ⟨_, _, _, _, rfl, _⟩ := h
    rfl
  · obtain ⟨N, a, qs, G, rfl, hN, ha, hG, h10, ret⟩ := h
    have hN0 : 0 < N := hN.1
    have hn : (0 : Int) < N := by omega
    have b5 : (0 : Int) ≤ N ∧ (N : Int) ≤ 100000 := ⟨by omega, by have := hN.2; omega⟩
    have h25 := nn25 hN
    refine ⟨_, pss_cons (ps_set (i := 2) sc_roots.nd rfl (.inl rfl) pe_dnewT)
      (pss_cons (ps_for PassesOwn.never rfl (pi_range1 (by rfl) T.range (pa_cons (pv 0) pa_nil)) (pg_name (i := 3) sc_roots.nd rfl (.inl rfl))
        (pss_one (ps_for PassesOwn.never rfl (pi_range1 (by rfl) T.range (pa_cons (pv 0) pa_nil)) (pg_name (i := 4) sc_roots.nd rfl (.inl rfl))
          (pss_one (ps_if (pt_cmp (pc_dnotin (hu_of hr) (pe_tup (pa_cons (pv 3) (pa_cons (pv 4) pa_nil))) (pv 2)) (by rfl))
            (pss_cons (ps_dput (hu_of hr) (pv 2) (pe_tup (pa_cons (pv 3) (pa_cons (pv 4) pa_nil))) (pe_tup (pa_cons (pv 3) (pa_cons (pv 4) pa_nil))) rfl)
            (pss_cons (ps_set (i := 5) sc_roots.nd rfl (.inl rfl) (pe_lst (pa_cons (pe_tup (pa_cons (pv 3) (pa_cons (pv 4) pa_nil))) pa_nil)))
            (pss_one (ps_while PassesOwn.never (pt_cmpR (op_neD hr.units) (pv 5) (pe_lst pa_nil) (nomark _))
              (pss_cons (ps_set (i := 6) sc_roots.nd rfl (.inl rfl) (pe_bm0 PySem.F.plainAttrs_list PySem.F.slot_list_pop PySem.F.type_list_pop mt_pop (pv 5)))
              (pss_one (ps_for PassesOwn.never rfl (pi_list (pv 1)) (pg_name (i := 7) sc_roots.nd rfl (.inl rfl))
                (pss_cons (ps_set (i := 8) sc_roots.nd rfl (.inl rfl) (C8.pe_c cP hr (Nat.le_refl _) (by rfl) (pa_cons (pv 0) (pa_cons (pv 7) (pa_cons (pv 6) pa_nil)))))
                (pss_one (ps_if (pt_cmp (pc_dnotin (hu_of hr) (pv 8) (pv 2)) (by rfl))
                  (pss_cons (ps_dput (hu_of hr) (pv 2) (pv 8) (pe_tup (pa_cons (pv 3) (pa_cons (pv 4) pa_nil))) rfl)
                  (pss_one (ps_expr (pe_bm PySem.F.plainAttrs_list PySem.F.slot_list_append PySem.F.type_list_append mt_append (pv 5) (pa_cons (pv 8) pa_nil))))) pss_nil)))))))))) pss_nil)))))
      (pss_one (ps_ret (pv 2)))), ?_⟩
    refine fun d hd => ?_
    refine nm_eq [some (.int (N : Int)), some (.ref a), some (.ref d), none, none, none, none, none, none] rfl ?_
    have rt0 : RT N H (upd H d (.dT [])) d [] := ⟨Ex.new hd, hd, ⟨[], upd_same, rfl, fun x hx => nomatch hx⟩, List.nodup_nil, fun p hp => nomatch hp⟩
    refine Evl.q_forR1 (n := (N : Int)) (Evl.ea_cons (Evl.ev_var rfl) Evl.ea_nil) b5
      (fun r σ H' => ∃ ps y3 y4 y5 y6 y7 y8, σ = [some (.int (N : Int)), some (.ref a), some (.ref d), y3, y4, y5, y6, y7, y8] ∧ RT N H H' d ps ∧ ∀ p, In N p → Done r 0 p → p ∈ ps)
      (fun H1 e1 => ⟨[], _, _, _, _, _, _, rfl, rt0.ex' e1, fun p _ hp => ?_⟩) (fun r σ H1 hrN hP => ?_) (fun σ H1 hP => ?_)
    · obtain ⟨d1, d2, d3⟩ := hp
      omega
    · obtain ⟨ps, y3, y4, y5, y6, y7, y8, rfl, hR, hA⟩ := hP
      refine st_eq [some (.int (N : Int)), some (.ref a), some (.ref d), some (.int (r : Int)), y4, y5, y6, y7, y8] rfl ?_
      refine Evl.s_forR1 (n := (N : Int)) (Evl.ea_cons (Evl.ev_var rfl) Evl.ea_nil) b5
        (fun c σ H' => ∃ ps y4 y5 y6 y7 y8, σ = [some (.int (N : Int)), some (.ref a), some (.ref d), some (.int (r : Int)), y4, y5, y6, y7, y8] ∧ RT N H H' d ps ∧ ∀ p, In N p → Done r c p → p ∈ ps)
        (fun H2 e2 => ⟨ps, _, _, _, _, _, rfl, hR.ex' e2, hA⟩) (fun c σ H2 hcN hP => ?_) (fun σ H2 hP => ?_)
      · obtain ⟨ps, y4, y5, y6, y7, y8, rfl, hR, hA⟩ := hP
        have inn : In N ((r : Int), (c : Int)) := by unfold In; dsimp only; omega
        have step : ∀ {ps' : List (Int × Int)}, (∀ p ∈ ps, p ∈ ps') → ((r : Int), (c : Int)) ∈ ps' → ∀ p, In N p → Done r (c + 1) p → p ∈ ps' := fun {ps'} h1 h2 p hp hd => by
          by_cases e : p = ((r : Int), (c : Int))
          · rw [e]; exact h2
          · refine h1 p (hA p hp ?_)
            obtain ⟨d1, d2, d3⟩ := hd
            refine ⟨d1, d2, ?_⟩
            rcases d3 with d3 | ⟨d3, d4⟩
            · exact .inl d3
            · refine .inr ⟨d3, ?_⟩
              have ne : p.2 ≠ c := fun z => e (Prod.ext d3 z)
              omega
        refine st_eq [some (.int (N : Int)), some (.ref a), some (.ref d), some (.int (r : Int)), some (.int (c : Int)), y5, y6, y7, y8] rfl ?_
        refine ⟨_, rfl, _, rfl, two_leF, fun q1 hq1 => ?_⟩
        have e1 := Ex.new (o := .tup [.int (r : Int), .int (c : Int)]) hq1
        have hR1 := hR.ex' e1
        obtain ⟨kv, hd1, hk1, hv1⟩ := hR1.kv
        refine ⟨_, rfl, d, _, rfl, DGet.t (k := pk ((r : Int), (c : Int))) hd1 upd_same, _, rfl, ?_⟩
        refine ite2 (fun hc => ?_) (fun hc => ?_)
        · have hnone : valV kv (pk ((r : Int), (c : Int))) = none := by
            cases e : valV kv (pk ((r : Int), (c : Int))) with
            | none => rfl
            | some v => rw [e] at hc; simp at hc
          have hnot := (pk_none hk1).mp hnone
          refine ⟨_, rfl, _, rfl, two_leF, fun v1 hv1' => ?_⟩
          have e2 := Ex.new (o := .tup [.int (r : Int), .int (c : Int)]) hv1'
          refine ⟨_, rfl, _, rfl, _, rfl, two_leF, fun q2 hq2 => ?_⟩
          have e3 := Ex.new (o := .tup [.int (r : Int), .int (c : Int)]) hq2
          have hR3 := hR1.ex' (e2.trans e3)
          have hd3 := e3 d _ (e2 d _ hd1)
          have hv3 := e3 v1 _ upd_same
          have sz3 : kv.length < sizeLine := by
            have q := congrArg List.length hk1
            rw [List.length_map, List.length_map] at q
            have := hR3.size
            exact lt_line (by omega)
          refine ⟨d, _, rfl, DPut.t (k := pk ((r : Int), (c : Int))) hd3 upd_same sz3, ?_⟩
          have hR4 := hR3.put (v := v1) hd3 hk1 (fun x hx => by
            obtain ⟨q, a, b, h1, h2, h3⟩ := hv1 x hx
            exact ⟨q, a, b, h1, e3 q _ (e2 q _ h2), h3⟩) hnot inn hv3 inn
          refine ⟨_, rfl, _, rfl, two_leF, fun q3 hq3 => ?_⟩
          have hR5 := hR4.ex' (Ex.new (o := .tup [.int (r : Int), .int (c : Int)]) hq3)
          refine ⟨by show 1 ≤ sizeLine; decide, fun l hl => ?_⟩
          have hR6 := hR5.ex' (Ex.new (o := .lst [.ref q3]) hl)
          have hl0 := Evl.fresh_back hR5.ex hl
          refine nm_eq [some (.int (N : Int)), some (.ref a), some (.ref d), some (.int (r : Int)), some (.int (c : Int)), some (.ref l), y6, y7, y8] rfl ?_
          have hpl : Pls (upd (upd _ q3 (.tup [.int (r : Int), .int (c : Int)])) l (.lst [.ref q3])) [q3] [((r : Int), (c : Int))] := .cons ((Ex.new (o := .lst [.ref q3]) hl) q3 _ upd_same) .nil
          refine Evl.s_while (fun M σ H' => ∃ ps' wqs ws y6 y7 y8, σ = [some (.int (N : Int)), some (.ref a), some (.ref d), some (.int (r : Int)), some (.int (c : Int)), some (.ref l), y6, y7, y8] ∧ RT N H H' d ps' ∧ H' l = some (.lst (wqs.map V.ref)) ∧ Pls H' wqs ws ∧
              (∀ p ∈ ps, p ∈ ps') ∧ ((r : Int), (c : Int)) ∈ ps' ∧ ws.length ≤ ps'.length ∧ M = 2 * (N * N - ps'.length) + ws.length) _
            ⟨_, [q3], [((r : Int), (c : Int))], _, _, _, rfl, hR6, upd_same, hpl, fun p hp => List.mem_append_left _ hp, List.mem_append_right _ List.mem_cons_self, by rw [List.length_append, List.length_singleton]; exact Nat.le_add_left _ _, rfl⟩ (fun M σ H7 hW => ?_)
          obtain ⟨ps', wqs, ws, y6, y7, y8, rfl, hR7, hl7, hp7, hsub, hrc, hle, hM⟩ := hW
          refine ⟨!ws.isEmpty, et_waitP rfl hl7 hp7, fun hb H8 e8 => ?_, fun hb H8 e8 => ?_⟩
          · obtain ⟨ws', x0, rfl⟩ : ∃ ws' x0, ws = ws' ++ [x0] := by
              rcases List.eq_nil_or_concat ws with e | ⟨ws', x0, e⟩
              · subst e; simp at hb
              · exact ⟨ws', x0, by rw [e, List.concat_eq_append]⟩
            obtain ⟨wqs', q0, rfl, hw', hq0⟩ := pls_last hp7
            have hR8 := hR7.ex' e8
            have hl8 := e8 l _ hl7
            have sx9 : Sx H8 (upd H8 l (.lst ((wqs' ++ [q0]).map V.ref).dropLast)) := Sx.upd hl8 trivial
            have hR9 := hR8.lst (ys := ((wqs' ++ [q0]).map V.ref).dropLast) hl8 hl0
            refine ⟨fun σ2 H2 => ∃ m', m' < M ∧ ∃ ps' wqs ws y6 y7 y8, σ2 = [some (.int (N : Int)), some (.ref a), some (.ref d), some (.int (r : Int)), some (.int (c : Int)), some (.ref l), y6, y7, y8] ∧ RT N H H2 d ps' ∧ H2 l = some (.lst (wqs.map V.ref)) ∧ Pls H2 wqs ws ∧
              (∀ p ∈ ps, p ∈ ps') ∧ ((r : Int), (c : Int)) ∈ ps' ∧ ws.length ≤ ps'.length ∧ m' = 2 * (N * N - ps'.length) + ws.length, fun σ2 H2 h => h, ?_⟩
            refine ⟨_, rfl, .inl ⟨rfl, _, .inl (.inl hl8)⟩, l, _, .ref q0, rfl, rfl, hl8, ?_, ?_⟩
            · rw [map_snoc, List.length_append, List.length_singleton, Nat.add_sub_cancel, List.getElem?_append_right (Nat.le_refl _), Nat.sub_self]
              rfl
            refine nm_eq [some (.int (N : Int)), some (.ref a), some (.ref d), some (.int (r : Int)), some (.int (c : Int)), some (.ref l), some (.ref q0), y7, y8] rfl ?_
            refine ⟨_, rfl, a, rfl, ⟨_, Evl.ex_l hR9.ex ha⟩, ?_⟩
            rw [List.length_append, List.length_singleton] at hle hM
            refine for_list (K := K) (a := a) (xs := qs.map V.ref) (fun i σ H' => ∃ ps' wqs ws y7 y8, σ = [some (.int (N : Int)), some (.ref a), some (.ref d), some (.int (r : Int)), some (.int (c : Int)), some (.ref l), some (.ref q0), y7, y8] ∧ RT N H H' d ps' ∧ H' l = some (.lst (wqs.map V.ref)) ∧ Pls H' wqs ws ∧
                (∀ p ∈ ps, p ∈ ps') ∧ ((r : Int), (c : Int)) ∈ ps' ∧ ws.length ≤ ps'.length ∧ H' q0 = some (.tup [.int x0.1, .int x0.2]) ∧ 2 * (N * N - ps'.length) + ws.length < M)
              ⟨ps', wqs', ws', y7, y8, rfl, hR9, by rw [upd_same, map_snoc, List.dropLast_concat], pls_sx sx9 (pls_sx (Sx.of e8) hw'), hsub, hrc, by omega, sx9 q0 _ (fun z => z) (e8 q0 _ hq0), by omega⟩ (fun i σ H' _ hP => ?_) (fun i x σ H10 hx hP => ?_) (fun σ H10 hP => ?_)
            · obtain ⟨ps', wqs, ws, y7, y8, _, hR, _⟩ := hP
              exact Evl.ex_l hR.ex ha
            · obtain ⟨ps', wqs, ws, y7, y8, rfl, hR, hl10, hp10, hsub, hrc, hle, hq, hlt⟩ := hP
              obtain ⟨q, hqi, rfl⟩ := refs_get hx
              obtain ⟨g, hgi, hgq⟩ := mvs_get hG hqi
              refine nm_eq [some (.int (N : Int)), some (.ref a), some (.ref d), some (.int (r : Int)), some (.int (c : Int)), some (.ref l), some (.ref q0), some (.ref q), y8] rfl ?_
              refine ⟨_, rfl, _, rfl, _, rfl, N, q, q0, g, x0.1, x0.2, rfl, hn, Evl.ex_t hR.ex hgq, .inl (.inl hq), fun t H11 e11 ht => ?_⟩
              refine nm_eq [some (.int (N : Int)), some (.ref a), some (.ref d), some (.int (r : Int)), some (.int (c : Int)), some (.ref l), some (.ref q0), some (.ref q), some (.ref t)] rfl ?_
              have hR11 := hR.ex' e11
              obtain ⟨kv, hd11, hk11, hv11⟩ := hR11.kv
              refine ⟨_, rfl, _, rfl, d, _, rfl, DGet.t (k := pk (led N g (x0.1, x0.2))) hd11 ht, _, rfl, ?_⟩
              refine ite2 (fun hc => ?_) (fun hc => ?_)
              · have hnone : valV kv (pk (led N g (x0.1, x0.2))) = none := by
                  cases e : valV kv (pk (led N g (x0.1, x0.2))) with
                  | none => rfl
                  | some v => rw [e] at hc; simp at hc
                have hnot := (pk_none hk11).mp hnone
                refine ⟨_, rfl, _, rfl, two_leF, fun v2 hv2 => ?_⟩
                have e12 := Ex.new (o := .tup [.int (r : Int), .int (c : Int)]) hv2
                have hR12 := hR11.ex' e12
                have hd12 := e12 d _ hd11
                have sz3 : kv.length < sizeLine := by
                  have q := congrArg List.length hk11
                  rw [List.length_map, List.length_map] at q
                  have := hR12.size
                  exact lt_line (by omega)
                refine ⟨_, rfl, _, rfl, d, _, rfl, DPut.t (k := pk (led N g (x0.1, x0.2))) hd12 (e12 t _ ht) sz3, ?_⟩
                have hR13 := hR12.put (v := v2) hd12 hk11 (fun x hx => by
                  obtain ⟨q, a, b, h1, h2, h3⟩ := hv11 x hx
                  exact ⟨q, a, b, h1, e12 q _ h2, h3⟩) hnot (led_in hn g _) upd_same inn
                have sx13 := Sx.upd (o := .dT (putK kv (pk (led N g (x0.1, x0.2))) (.ref v2))) hd12 trivial
                have nld : l ≠ d := ne_of (e12 l _ (e11 l _ hl10)) hd12 (fun z => nomatch z)
                have hl13 : upd (upd H11 v2 (.tup [.int (r : Int), .int (c : Int)])) d (.dT (putK kv (pk (led N g (x0.1, x0.2))) (.ref v2))) l = some (.lst (wqs.map V.ref)) := by
                  rw [upd_ne nld]
                  exact e12 l _ (e11 l _ hl10)
                have sx14 := Sx.upd (o := .lst (wqs.map V.ref ++ [.ref t])) hl13 trivial
                have sz := hR13.size
                rw [List.length_append, List.length_singleton] at sz
                have hR14 := hR13.lst (ys := wqs.map V.ref ++ [.ref t]) hl13 hl0
                refine ⟨_, rfl, .inl ⟨rfl, _, .inl (.inl hl13)⟩, _, rfl, l, _, _, rfl, rfl, hl13, ?_, ?_⟩
                · rw [List.length_map, pls_len hp10]
                  exact lt_line (by omega)
                · refine ⟨ps' ++ [led N g (x0.1, x0.2)], wqs ++ [t], ws ++ [led N g (x0.1, x0.2)], _, _, rfl, hR14, by rw [upd_same, map_snoc], ?_, fun p hp => List.mem_append_left _ (hsub p hp), List.mem_append_left _ hrc, ?_, ?_, ?_⟩
                  · exact pls_sx sx14 (pls_sx sx13 (Paired.snoc (pls_sx (Sx.of (e11.trans e12)) hp10) (e12 t _ ht)))
                  · rw [List.length_append, List.length_append]
                    exact Nat.add_le_add_right hle _
                  · exact sx14 q0 _ (fun z => z) (sx13 q0 _ (fun z => z) (e12 q0 _ (e11 q0 _ hq)))
                  · simp only [List.length_append, List.length_singleton]
                    omega
              · exact ⟨ps', wqs, ws, _, _, rfl, hR11, e11 l _ hl10, pls_sx (Sx.of e11) hp10, hsub, hrc, hle, e11 q0 _ hq, hlt⟩
            · obtain ⟨ps', wqs, ws, y7, y8, rfl, hR, hl10, hp10, hsub, hrc, hle, hq, hlt⟩ := hP
              exact ⟨_, hlt, ps', wqs, ws, _, _, _, rfl, hR, hl10, hp10, hsub, hrc, hle, rfl⟩
          · exact ⟨ps', _, _, _, _, _, rfl, hR7.ex' e8, step hsub hrc⟩
        · have hin : ((r : Int), (c : Int)) ∈ ps := by
            by_cases q : ((r : Int), (c : Int)) ∈ ps
            · exact q
            · exfalso
              apply hc
              rw [(pk_none hk1).mpr q]
              rfl
          exact ⟨ps, _, _, _, _, _, rfl, hR1, step (fun p hp => hp) hin⟩
      · obtain ⟨ps, y4, y5, y6, y7, y8, rfl, hR, hA⟩ := hP
        rw [Int.toNat_natCast] at hA
        refine ⟨ps, _, _, _, _, _, _, rfl, hR, fun p hp hd => hA p hp ?_⟩
        obtain ⟨d1, d2, d3⟩ := hd
        obtain ⟨_, _, _, h4⟩ := hp
        refine ⟨d1, d2, ?_⟩
        omega
    · obtain ⟨ps, y3, y4, y5, y6, y7, y8, rfl, hR, hA⟩ := hP
      rw [Int.toNat_natCast] at hA
      obtain ⟨kv, h1, h2⟩ := hR.all fun p hp => hA p hp ⟨hp.2.2.1, hp.1, .inl hp.2.1⟩
      exact ⟨_, rfl, ret d kv H1 hR.ex h1 h2⟩
end
end Ck
namespace Ck
open PySem PySem.Spec PyProof.Rows L2
open Evl (Ex)
theorem seq_cN {i : Nat} {v : V} {tz : TS} {D : Ends} {σ : L2.St} {H : Hp} (σ' : L2.St) (e : σ.set i (some v) = σ') (h : tz D σ' H) : tSeq (tAsg (tC v) (gName i)) tz D σ H := by
  subst e
  exact h
/-- rows of codes as a carpet -/
def ofRows (css : List (List Nat)) : Carp := fun i j => (css.getD i.toNat []).getD j.toNat 97
theorem getD_small {l : List Nat} (h : ∀ c ∈ l, c < 1114112) (j : Nat) : l.getD j 97 < 1114112 := by
  rw [List.getD_eq_getElem?_getD]
  cases e : l[j]? with
  | none => show 97 < _; decide
  | some c => exact h c (List.mem_of_getElem? e)
theorem ofRows_cb {css : List (List Nat)} (h : ∀ cs ∈ css, ∀ c ∈ cs, c < 1114112) : Cb (ofRows css) := by
  intro i j
  unfold ofRows
  refine getD_small ?_ _
  rw [List.getD_eq_getElem?_getD]
  cases e : css[i.toNat]? with
  | none => exact fun c hc => nomatch hc
  | some cs => exact h cs (List.mem_of_getElem? e)
theorem ofRows_crp {N : Nat} {css : List (List Nat)} (h1 : css.length = N) (h2 : ∀ cs ∈ css, cs.length = N) : crp N (ofRows css) = css.map fun cs => V.str ⟨cs.toArray⟩ := by
  unfold crp
  apply List.ext_getElem
  · rw [List.length_map, List.length_map, List.length_range, h1]
  · intro i hi hi'
    rw [List.length_map, List.length_range] at hi
    rw [List.getElem_map, List.getElem_map, List.getElem_range]
    have hic : i < css.length := by omega
    have hl := h2 css[i] (List.getElem_mem hic)
    unfold rowS
    congr 2
    congr 1
    apply List.ext_getElem
    · rw [List.length_map, List.length_range, hl]
    · intro j hj hj'
      rw [List.length_map, List.length_range] at hj
      rw [List.getElem_map, List.getElem_range]
      show (css.getD ((i : Nat) : Int).toNat []).getD ((j : Nat) : Int).toNat 97 = _
      rw [Int.toNat_natCast, Int.toNat_natCast, List.getD_eq_getElem?_getD, List.getD_eq_getElem?_getD, List.getElem?_eq_getElem hic]
      show (css[i][j]?).getD 97 = _
      rw [List.getElem?_eq_getElem hj']
      rfl
def letts : List Str := [("ab" : Str), ("abc" : Str), ("xy" : Str), ("qwe" : Str), ("za" : Str)]
theorem letts_ok : ∀ x ∈ letts, 0 < x.length ∧ x.length ≤ 3 ∧ ∀ c ∈ x.cps.toList, c < 1114112 := by
  have h : letts.all (fun x => decide (0 < x.length) && decide (x.length ≤ 3) && x.cps.toList.all (fun c => decide (c < 1114112))) = true := by decide +kernel
  intro x hx
  have q := List.all_eq_true.mp h x hx
  simp only [Bool.and_eq_true, decide_eq_true_eq, List.all_eq_true] at q
  exact ⟨q.1.1, q.1.2, q.2⟩
def many6 : List Nat := [0, 1, 1, 2, 2, 3]
theorem many6_ok : ∀ j, j < 6 → ∃ m : Nat, m ≤ 3 ∧ (many6.map fun i => V.int ((i : Nat) : Int))[j]? = some (.int (m : Int)) := by
  intro j hj
  match j, hj with
  | 0, _ => exact ⟨0, by decide, rfl⟩
  | 1, _ => exact ⟨1, by decide, rfl⟩
  | 2, _ => exact ⟨1, by decide, rfl⟩
  | 3, _ => exact ⟨2, by decide, rfl⟩
  | 4, _ => exact ⟨2, by decide, rfl⟩
  | 5, _ => exact ⟨3, by decide, rfl⟩
/-- places' tuples under keys -/
abbrev Vt (N : Nat) (H : Hp) : (Int × Int) → V → Prop := fun _ v => ∃ q x y, v = .ref q ∧ H q = some (.tup [.int x, .int y]) ∧ In N (x, y)
theorem plc_sx {N : Nat} {H H' : Hp} {kv : List (List Key × V)} (e : Sx H H') (h : Plc N kv (Vt N H)) : Plc N kv (Vt N H') := by
  intro r c hi
  obtain ⟨v, h1, q, x, y, h2, h3, h4⟩ := h r c hi
  exact ⟨v, h1, q, x, y, h2, e q _ (fun z => z) h3, h4⟩
section
variable {P : Program} {w : World} {K : PySem.W.Frag} {mg : Str → Option Value} {base : Heap}
/-- _law_carpet -/
theorem ok_carp {k : Nat} (T : Tx K w mg) (D : Df K mg "_law_carpet" t_carp p_carp) (cC : Cal P w K mg base k "_law_cell_at" (sp_cell K) []) (cM : Cal P w K mg base k "_law_mixed" sp_mix []) (cV : Cal P w K mg base k "_law_movement" (sp_lmv K) [])
    (cR : Cal P w K mg base k "_law_roots" (sp_roots K) []) : Cal P w K mg base (k + 1) "_law_carpet" (sp_carp K) [] := by
  refine D.cal sc_carp (fun vs H Q E h => ?_) (fun f cdv A outer s H vs Q E hr h => ?_)
  · obtain ⟨_, _, rfl, _⟩ := h
    rfl
  · obtain ⟨a, ns, rfl, hS, hl, ret⟩ := h
    refine ⟨_, (pss_cons (ps_set (i := 2) sc_carp.nd rfl (.inl rfl) (pe_op op_add pe_int (pe_op op_mod (C8.pe_c cM hr (Nat.le_refl _) (by rfl) (pa_cons (C8.pe_c cC hr (Nat.le_refl _) (by rfl) (pa_cons (pv 0) (pa_cons pe_int pa_nil))) (pa_cons pe_int pa_nil))) (pv 1))))
      (pss_cons (ps_set (i := 3) sc_carp.nd rfl (.inl rfl) (pe_lst pa_nil))
      (pss_cons (ps_for PassesOwn.never rfl (pi_range1 (by rfl) T.range (pa_cons (pe_ix ix_list (pe_lst (pa_cons pe_int (pa_cons pe_int (pa_cons pe_int (pa_cons pe_int (pa_cons pe_int (pa_cons pe_int pa_nil))))))) (pe_op op_mod (C8.pe_c cC hr (Nat.le_refl _) (by rfl) (pa_cons (pv 0) (pa_cons pe_int pa_nil))) pe_int) (fun _ _ => rfl)) pa_nil)) (pg_name (i := 4) sc_carp.nd rfl (.inl rfl))
      (pss_one (ps_expr (pe_bm PySem.F.plainAttrs_list PySem.F.slot_list_append PySem.F.type_list_append mt_append (pv 3) (pa_cons (C8.pe_c cV hr (Nat.le_refl _) (by rfl) (pa_cons (pv 2) (pa_cons (C8.pe_c cM hr (Nat.le_refl _) (by rfl) (pa_cons (C8.pe_c cC hr (Nat.le_refl _) (by rfl) (pa_cons (pv 0) (pa_cons pe_int pa_nil))) (pa_cons (pe_op op_add pe_int (pv 4)) pa_nil))) pa_nil))) pa_nil)))))
      (pss_cons (ps_set (i := 5) sc_carp.nd rfl (.inl rfl) (C8.pe_c cR hr (Nat.le_refl _) (by rfl) (pa_cons (pv 2) (pa_cons (pv 3) pa_nil))))
      (pss_cons (ps_set (i := 6) sc_carp.nd rfl (.inl rfl) (pe_ix ix_list (pe_lst (pa_cons pe_str (pa_cons pe_str (pa_cons pe_str (pa_cons pe_str (pa_cons pe_str pa_nil)))))) (pe_op op_mod (C8.pe_c cM hr (Nat.le_refl _) (by rfl) (pa_cons (C8.pe_c cC hr (Nat.le_refl _) (by rfl) (pa_cons (pv 0) (pa_cons pe_int pa_nil))) (pa_cons pe_int pa_nil))) pe_int) (fun _ _ => rfl)))
      (pss_cons (ps_set (i := 7) sc_carp.nd rfl (.inl rfl) (pe_lst pa_nil))
      (pss_cons (ps_for PassesOwn.never rfl (pi_range1 (by rfl) T.range (pa_cons (pv 2) pa_nil)) (pg_name (i := 8) sc_carp.nd rfl (.inl rfl))
      (pss_cons (ps_set (i := 9) sc_carp.nd rfl (.inl rfl) pe_str)
      (pss_cons (ps_for PassesOwn.never rfl (pi_range1 (by rfl) T.range (pa_cons (pv 2) pa_nil)) (pg_name (i := 10) sc_carp.nd rfl (.inl rfl))
      (pss_cons (ps_set (i := 11) sc_carp.nd rfl (.inl rfl) (pe_dget (hu_of hr) (pv 5) (pe_tup (pa_cons (pv 8) (pa_cons (pv 10) pa_nil))) (fun _ _ => rfl)))
      (pss_cons (ps_set (i := 12) sc_carp.nd rfl (.inl rfl) (C8.pe_c cM hr (Nat.le_refl _) (by rfl) (pa_cons (C8.pe_c cC hr (Nat.le_refl _) (by rfl) (pa_cons (pv 0) (pa_cons (pe_op op_add (pe_op op_add pe_int (pe_op op_mul (pe_ix ix_tup (pv 11) pe_int (fun _ _ => rfl)) (pv 2))) (pe_ix ix_tup (pv 11) pe_int (fun _ _ => rfl))) pa_nil))) (pa_cons (pe_op op_add (pe_op op_add pe_int (pe_op op_mul (pe_ix ix_tup (pv 11) pe_int (fun _ _ => rfl)) (pv 2))) (pe_ix ix_tup (pv 11) pe_int (fun _ _ => rfl))) pa_nil))))
      (pss_one (ps_set (i := 9) sc_carp.nd rfl (.inl rfl) (pe_op op_add_str (pv 9) (pe_ix ix_str (pv 6) (pe_op op_mod (pe_op op_fdiv (pv 12) pe_int) (pe_callB call_len_str (by rfl) T.len PySem.boot_len (pa_cons (pv 6) pa_nil))) (fun _ _ => rfl))))))))
      (pss_one (ps_expr (pe_bm PySem.F.plainAttrs_list PySem.F.slot_list_append PySem.F.type_list_append mt_append (pv 7) (pa_cons (pv 9) pa_nil)))))))
      (pss_one (ps_ret (pe_tupleOf (by rfl) T.tuple (pv 7))))))))))), ?_⟩
    -- n
    refine ⟨_, rfl, a, ns, 0, rfl, hS, hl, Int.le_refl _, fun z1 H1 e1 => ?_⟩
    refine ⟨z1, 1, rfl, by decide, by decide, fun z2 h0 h1 H2 e2 => ?_⟩
    refine ⟨_, rfl, _, _, rfl, rfl, (by show (0 : Int) < 5; decide), _, _, rfl, rfl, ?_⟩
    have m0 : (0 : Int) ≤ z2 % 5 := Int.emod_nonneg _ (by decide)
    have m5 : z2 % 5 < 5 := Int.emod_lt_of_pos _ (by decide)
    obtain ⟨N, hNe⟩ : ∃ N : Nat, 1 + z2 % 5 = (N : Int) := ⟨(1 + z2 % 5).toNat, by omega⟩
    have hN : Sz N := ⟨by omega, by omega⟩
    have hn : (0 : Int) < N := by omega
    have b5 : (0 : Int) ≤ N ∧ (N : Int) ≤ 100000 := ⟨by omega, by omega⟩
    refine nm_eq [some (.ref a), some (.int 5), some (.int (N : Int)), none, none, none, none, none, none, none, none, none, none] (by rw [← hNe]; rfl) ?_
    have e12 := e1.trans e2
    -- wish
    refine ⟨Nat.zero_le _, fun wl hwl => ?_⟩
    refine nm_eq [some (.ref a), some (.int 5), some (.int (N : Int)), some (.ref wl), none, none, none, none, none, none, none, none, none] rfl ?_
    have hw0 := Evl.fresh_back e12 hwl
    have lm0 : LM K H (upd H2 wl (.lst [])) wl [] := ⟨hw0, e12.trans (Ex.new hwl), [], upd_same, .nil⟩
    refine ⟨by show 6 ≤ sizeLine; decide, fun bl hbl => ?_⟩
    refine ⟨_, rfl, a, ns, 1, rfl, Evl.ex_l (lm0.ex.trans (Ex.new hbl)) hS, hl, by decide, fun z3 H3 e3 => ?_⟩
    refine ⟨_, _, rfl, rfl, (by show (0 : Int) < 6; decide), ?_⟩
    have q0 : (0 : Int) ≤ z3 % 6 := Int.emod_nonneg _ (by decide)
    have q6 : z3 % 6 < 6 := Int.emod_lt_of_pos _ (by decide)
    obtain ⟨j, hj⟩ : ∃ j : Nat, z3 % 6 = (j : Int) := ⟨(z3 % 6).toNat, by omega⟩
    obtain ⟨many, hmany, hat⟩ := many6_ok j (by omega)
    refine ⟨bl, many6.map fun i => V.int ((i : Nat) : Int), z3 % 6, .int (many : Int), rfl, rfl, .inl (.inl (e3 bl _ upd_same)), at_of hj hat, ?_⟩
    refine ⟨(many : Int), rfl, by omega, by omega, ?_⟩
    refine for_range (lo := 0) (n := ((many : Int)).toNat) (fun i σ H' => ∃ y4 G, σ = [some (.ref a), some (.int 5), some (.int (N : Int)), some (.ref wl), y4, none, none, none, none, none, none, none, none] ∧ LM K H H' wl G ∧ G.length = i)
      ⟨none, [], rfl, (lm0.ex' (Ex.new hbl)).ex' e3, rfl⟩ (fun i σ H4 hi hP => ?_) (fun σ H4 hP => ?_)
    · obtain ⟨y4, G, rfl, hL, hG⟩ := hP
      rw [Int.toNat_natCast] at hi
      refine nm_eq [some (.ref a), some (.int 5), some (.int (N : Int)), some (.ref wl), some (.int (i : Int)), none, none, none, none, none, none, none, none] (by rw [Int.zero_add]; rfl) ?_
      obtain ⟨wq0, hwl4, hwm4⟩ := hL.at_
      refine ⟨_, rfl, .inl ⟨rfl, _, .inl (.inl hwl4)⟩, _, rfl, _, rfl, a, ns, 1, rfl, Evl.ex_l hL.ex hS, hl, by decide, fun z4 H5 e5 => ?_⟩
      refine ⟨_, rfl, _, _, rfl, rfl, ?_⟩
      refine ⟨z4, 3 + (i : Int), rfl, by omega, by omega, fun z5 h50 h51 H6 e6 => ?_⟩
      refine ⟨N, z5, rfl, hn, by have := hN.2; omega, h50, fun m t H7 e7 ht => ?_⟩
      have e57 := e5.trans (e6.trans e7)
      obtain ⟨wq, hl7, hlen7, hL8⟩ := hL.app e57 (q := t) (m := m) (.inl (.inl ht))
      refine ⟨wl, _, _, rfl, rfl, hl7, ?_, _, _, rfl, hL8, by rw [List.length_append, hG]; rfl⟩
      rw [List.length_map, hlen7, hG]
      exact lt_line (by omega)
    obtain ⟨y4, G, rfl, hL, hG⟩ := hP
    rw [Int.toNat_natCast] at hG
    -- roots
    obtain ⟨wq, hwl4, hwm4⟩ := hL.at_
    refine ⟨_, rfl, _, rfl, N, wl, wq, G, rfl, hN, .inl (.inl hwl4), hwm4, by omega, fun rd kv H5 e5 hrd hplc => ?_⟩
    refine nm_eq [some (.ref a), some (.int 5), some (.int (N : Int)), some (.ref wl), y4, some (.ref rd), none, none, none, none, none, none, none] rfl ?_
    have eH5 := hL.ex.trans e5
    -- letters
    refine ⟨by show 5 ≤ sizeLine; decide, fun ll hll => ?_⟩
    have eH6 := eH5.trans (Ex.new (o := .lst (letts.map V.str)) hll)
    refine ⟨_, rfl, a, ns, 2, rfl, Evl.ex_l eH6 hS, hl, by decide, fun z6 H6 e6 => ?_⟩
    refine ⟨z6, 2, rfl, by decide, by decide, fun z7 h70 h71 H7 e7 => ?_⟩
    refine ⟨_, _, rfl, rfl, (by show (0 : Int) < 5; decide), ?_⟩
    have r0 : (0 : Int) ≤ z7 % 5 := Int.emod_nonneg _ (by decide)
    have r5 : z7 % 5 < 5 := Int.emod_lt_of_pos _ (by decide)
    obtain ⟨j7, hj7⟩ : ∃ j : Nat, z7 % 5 = (j : Int) := ⟨(z7 % 5).toNat, by omega⟩
    have hj75 : j7 < letts.length := by show j7 < 5; omega
    have hlet : (letts.map V.str)[j7]? = some (.str letts[j7]) := by
      rw [List.getElem?_map, List.getElem?_eq_getElem hj75]
      rfl
    obtain ⟨lt0, lt3, ltc⟩ := letts_ok letts[j7] (List.getElem_mem hj75)
    generalize letts[j7] = LT at hlet lt0 lt3 ltc
    have e67 := e6.trans e7
    refine ⟨ll, letts.map V.str, z7 % 5, .str LT, rfl, rfl, .inl (.inl (e67 ll _ upd_same)), at_of hj7 hlet, ?_⟩
    refine nm_eq [some (.ref a), some (.int 5), some (.int (N : Int)), some (.ref wl), y4, some (.ref rd), some (.str LT), none, none, none, none, none, none] rfl ?_
    have eH7 := eH6.trans e67
    have e57 := (Ex.new (o := .lst (letts.map V.str)) hll).trans e67
    -- rows
    refine ⟨Nat.zero_le _, fun rl hrl => ?_⟩
    have hrl0 := Evl.fresh_back eH7 hrl
    have e58 := e57.trans (Ex.new (o := .lst []) hrl)
    refine nm_eq [some (.ref a), some (.int 5), some (.int (N : Int)), some (.ref wl), y4, some (.ref rd), some (.str LT), some (.ref rl), none, none, none, none, none] rfl ?_
    refine Evl.q_forR1 (n := (N : Int)) (Evl.ea_cons (Evl.ev_var rfl) Evl.ea_nil) b5
      (fun r σ H' => ∃ (css : List (List Nat)) (y8 y9 y10 y11 y12 : Option V), σ = [some (.ref a), some (.int 5), some (.int (N : Int)), some (.ref wl), y4, some (.ref rd), some (.str LT), some (.ref rl), y8, y9, y10, y11, y12] ∧ Ex H H' ∧ H' rd = some (.dT kv) ∧ Plc N kv (Vt N H') ∧
        H' rl = some (.lst (css.map fun cs => V.str ⟨cs.toArray⟩)) ∧ css.length = r ∧ ∀ cs ∈ css, cs.length = N ∧ ∀ c ∈ cs, c < 1114112)
      (fun H8 e8 => ⟨[], none, none, none, none, none, rfl, (eH7.trans (Ex.new hrl)).trans e8, e8 rd _ (e58 rd _ hrd), plc_sx (Sx.of (e58.trans e8)) hplc, e8 rl _ upd_same, rfl, fun cs h => nomatch h⟩) (fun r σ H8 hrN hP => ?_) (fun σ H8 hP => ?_)
    · obtain ⟨css, y8, y9, y10, y11, y12, rfl, eH8, hrd8, hp8, hrl8, hc8, hcs8⟩ := hP
      refine seq_cN [some (.ref a), some (.int 5), some (.int (N : Int)), some (.ref wl), y4, some (.ref rd), some (.str LT), some (.ref rl), some (.int (r : Int)), some (.str ⟨([] : List Nat).toArray⟩), y10, y11, y12] rfl ?_
      refine Evl.q_forR1 (n := (N : Int)) (Evl.ea_cons (Evl.ev_var rfl) Evl.ea_nil) b5
        (fun c σ H' => ∃ (cs : List Nat) (y10 y11 y12 : Option V), σ = [some (.ref a), some (.int 5), some (.int (N : Int)), some (.ref wl), y4, some (.ref rd), some (.str LT), some (.ref rl), some (.int (r : Int)), some (.str ⟨cs.toArray⟩), y10, y11, y12] ∧ Ex H8 H' ∧ cs.length = c ∧ ∀ c ∈ cs, c < 1114112)
        (fun H9 e9 => ⟨[], y10, y11, y12, rfl, e9, rfl, fun c h => nomatch h⟩) (fun c σ H9 hcN hP => ?_) (fun σ H9 hP => ?_)
      · obtain ⟨cs, y10, y11, y12, rfl, e9, hcl, hcc⟩ := hP
        refine st_eq [some (.ref a), some (.int 5), some (.int (N : Int)), some (.ref wl), y4, some (.ref rd), some (.str LT), some (.ref rl), some (.int (r : Int)), some (.str ⟨cs.toArray⟩), some (.int (c : Int)), y11, y12] rfl ?_
        have inn : In N ((r : Int), (c : Int)) := by unfold In; dsimp only; omega
        obtain ⟨v, hv1, q, x, y, rfl, hq, hxy⟩ := hp8 r c inn
        refine ⟨_, rfl, _, rfl, _, rfl, two_leF, fun tq htq => ?_⟩
        have e10 := e9.trans (Ex.new (o := .tup [.int (r : Int), .int (c : Int)]) htq)
        refine ⟨rd, .ref q, rfl, .inr ⟨kv, [Sum.inl (r : Int), Sum.inl (c : Int)], tq, .inl (e10 rd _ hrd8), rfl, upd_same, hv1.symm⟩, ?_⟩
        refine nm_eq [some (.ref a), some (.int 5), some (.int (N : Int)), some (.ref wl), y4, some (.ref rd), some (.str LT), some (.ref rl), some (.int (r : Int)), some (.str ⟨cs.toArray⟩), some (.int (c : Int)), some (.ref q), y12] rfl ?_
        obtain ⟨x0, x1, y0, y1⟩ := hxy
        dsimp only at x0 x1 y0 y1
        have hN5 : (N : Int) ≤ 5 := by have := hN.2; omega
        have xn0 : (0 : Int) ≤ x * N := Int.mul_nonneg x0 (by omega)
        have xn1 : x * N ≤ 5 * 5 := Int.mul_le_mul (by omega) hN5 (by omega) (by decide)
        refine ⟨_, rfl, ?_⟩
        refine ⟨_, rfl, q, _, 0, .int x, rfl, rfl, .inl (.inl (e10 q _ hq)), rfl, ?_⟩
        refine ⟨_, rfl, _, _, rfl, rfl, .inl ⟨by omega, by omega⟩, _, _, rfl, rfl, ?_⟩
        refine ⟨_, rfl, q, _, 1, .int y, rfl, rfl, .inl (.inl (e10 q _ hq)), rfl, _, _, rfl, rfl, ?_⟩
        refine ⟨a, ns, 3 + x * N + y, rfl, Evl.ex_l (eH8.trans e10) hS, hl, by omega, fun z8 H10 e11 => ?_⟩
        have hq10 := e11 q _ (e10 q _ hq)
        refine ⟨_, rfl, q, _, 0, .int x, rfl, rfl, .inl (.inl hq10), rfl, ?_⟩
        refine ⟨_, rfl, _, _, rfl, rfl, .inl ⟨by omega, by omega⟩, _, _, rfl, rfl, ?_⟩
        refine ⟨_, rfl, q, _, 1, .int y, rfl, rfl, .inl (.inl hq10), rfl, _, _, rfl, rfl, ?_⟩
        refine ⟨z8, 11 + x * N + y, rfl, by omega, by omega, fun z9 h90 h91 H11 e12 => ?_⟩
        refine nm_eq [some (.ref a), some (.int 5), some (.int (N : Int)), some (.ref wl), y4, some (.ref rd), some (.str LT), some (.ref rl), some (.int (r : Int)), some (.str ⟨cs.toArray⟩), some (.int (c : Int)), some (.ref q), some (.int z9)] rfl ?_
        have lpos : (0 : Int) < (LT.length : Int) := by omega
        have i0 : (0 : Int) ≤ z9 / 16 % (LT.length : Int) := Int.emod_nonneg _ (by omega)
        have i1 : z9 / 16 % (LT.length : Int) < (LT.length : Int) := Int.emod_lt_of_pos _ lpos
        obtain ⟨jj, hjj⟩ : ∃ j : Nat, z9 / 16 % (LT.length : Int) = (j : Int) := ⟨(z9 / 16 % (LT.length : Int)).toNat, by omega⟩
        have hjl : jj < LT.cps.toList.length := by
          rw [Array.length_toList]
          show jj < LT.length
          omega
        refine ⟨_, rfl, _, rfl, ?_⟩
        refine ⟨_, rfl, _, _, rfl, rfl, ⟨by decide, by decide⟩, ?_⟩
        refine ⟨_, rfl, _, rfl, (by have : (3 : Nat) ≤ sizeLine := by decide
                                    omega), ?_⟩
        refine ⟨_, _, rfl, rfl, lpos, ?_⟩
        refine ⟨LT, _, LT.cps.toList[jj], rfl, rfl, (by have : (3 : Nat) ≤ sizeLine := by decide
                                                        omega), (by rw [hjj]; exact atI_nat (List.getElem?_eq_getElem hjl)), ?_⟩
        refine ⟨_, _, rfl, rfl, ?_, ?_⟩
        · show cs.toArray.size + 1 ≤ sizeLine
          rw [List.size_toArray, hcl]
          have := hN.2
          exact Nat.le_of_lt (lt_line (by omega))
        · refine ⟨cs ++ [LT.cps.toList[jj]], some (.int (c : Int)), some (.ref q), some (.int z9), ?_, e10.trans (e11.trans e12), ?_, fun c hc => ?_⟩
          · have ecat : (⟨cs.toArray⟩ : Str) ++ (⟨#[LT.cps.toList[jj]]⟩ : Str) = ⟨(cs ++ [LT.cps.toList[jj]]).toArray⟩ := SX.S_cat cs [LT.cps.toList[jj]]
            rw [ecat]
            rfl
          · rw [List.length_append, hcl]
            rfl
          · rcases List.mem_append.mp hc with h | h
            · exact hcc c h
            · rw [List.mem_singleton.mp h]
              exact ltc _ (List.getElem_mem hjl)
      · obtain ⟨cs, y10, y11, y12, rfl, e9, hcl, hcc⟩ := hP
        rw [Int.toNat_natCast] at hcl
        have hrl9 := e9 rl _ hrl8
        refine ⟨_, rfl, .inl ⟨rfl, _, .inl (.inl hrl9)⟩, _, rfl, rl, _, _, rfl, rfl, hrl9, ?_, ?_⟩
        · rw [List.length_map, hc8]
          have := hN.2
          exact lt_line (by omega)
        · have sx := Sx.upd (o := .lst (css.map (fun cs => V.str ⟨cs.toArray⟩) ++ [.str ⟨cs.toArray⟩])) hrl9 trivial
          refine ⟨css ++ [cs], _, _, _, _, _, rfl, (eH8.trans e9).mut hrl0, ?_, plc_sx sx (plc_sx (Sx.of e9) hp8), ?_, ?_, fun cs' h => ?_⟩
          · rw [upd_ne (ne_of (e9 rd _ hrd8) hrl9 (fun z => nomatch z))]
            exact e9 rd _ hrd8
          · rw [upd_same, map_snoc]
          · rw [List.length_append, hc8]
            rfl
          · rcases List.mem_append.mp h with h | h
            · exact hcs8 cs' h
            · rw [List.mem_singleton.mp h]
              exact ⟨hcl, hcc⟩
    · obtain ⟨css, y8, y9, y10, y11, y12, rfl, eH8, hrd8, hp8, hrl8, hc8, hcs8⟩ := hP
      rw [Int.toNat_natCast] at hc8
      refine ⟨_, rfl, .inl ⟨rl, _, rfl, .inl (.inl hrl8), fun q hq => ?_⟩⟩
      have er := ofRows_crp hc8 fun cs h => (hcs8 cs h).1
      have rr := ret N (ofRows css) hN (ofRows_cb fun cs h => (hcs8 cs h).2)
      rw [er] at rr
      exact rr q _ (eH8.trans (Ex.new hq)) upd_same
end
end Ck
namespace Ck
open PySem PySem.Spec PyProof.Rows L2
open Evl (Ex)
theorem cut_take {xs : List V} {k : Nat} : cutV xs none (some (k : Int)) = xs.take k := by
  unfold cutV
  rw [show HT.sIx xs.length 0 none = 0 from rfl, HT.sIx_nat, List.drop_zero, Nat.sub_zero]
  rcases Nat.le_total k xs.length with h | h
  · rw [Nat.min_eq_left h]
  · rw [Nat.min_eq_right h, List.take_length, List.take_of_length_le h]
theorem mvs_take {K : PySem.W.Frag} {H : Hp} : ∀ (k : Nat) {qs : List Addr} {ms : List Mv}, Mvs K H qs ms → Mvs K H (qs.take k) (ms.take k)
  | 0, _, _, _ => .nil
  | _ + 1, _, _, .nil => .nil
  | k + 1, _, _, .cons h r => .cons h (mvs_take k r)
theorem mvs_getM {K : PySem.W.Frag} {H : Hp} : ∀ {qs : List Addr} {ms : List Mv} {i : Nat} {m : Mv}, Mvs K H qs ms → ms[i]? = some m → ∃ q, qs[i]? = some q ∧ SqT K H q (mvV m)
  | _, _, _, _, .nil, e => by simp at e
  | _, _, 0, _, .cons h _, e => by
    have e := Option.some.inj e
    subst e
    exact ⟨_, rfl, h⟩
  | _, _, i + 1, m, .cons _ t, e => by
    obtain ⟨q, h1, h2⟩ := mvs_getM (i := i) t (by simpa using e)
    exact ⟨q, by simpa using h1, h2⟩
theorem iteFB {b : Bool} {A B : Prop} (e : b = false) (h : B) : if b = true then A else B := by
  subst e
  exact iteF h
/-- an or whose first part is false -/
theorem or_no {b : Bool} {H : Hp} {Q : Bool → Hp → Prop} {R : Prop} (e : b = false) (h : R) : if b = true then Q true H else R := iteFB e h
abbrev sL (a cq fp wp rd : Addr) (N : Nat) (y6 y7 y8 y9 y10 y11 y12 : Option V) : L2.St :=
  [some (.ref a), some (.ref cq), some (.int (N : Int)), some (.ref fp), some (.ref wp), some (.ref rd), y6, y7, y8, y9, y10, y11, y12]
section
variable {P : Program} {w : World} {K : PySem.W.Frag} {mg : Str → Option Value} {base : Heap}
/-- law -/
theorem ok_law {k : Nat} {f : Addr} {fd : FuncData} (T : Tx K w mg) (F0 : L2.Fun K "law" "law" t_law f fd) (cCarp : Cal P w K mg base k "_law_carpet" (sp_carp K) []) (cLvg : Cal P w K mg base k "leaving" (sp_lvg K) []) (cFew : Cal P w K mg base k "few_of" (sp_few K) [])
    (cRows : Cal P w K mg base k "rows_to" (sp_rows P w K) []) (cBeh : Cal P w K mg base k "_law_behind" (sp_beh K) []) (cCome : Cal P w K mg base k "_law_come" (sp_come K) []) (cAll : Cal P w K mg base k "_law_all" (sp_lal K) [])
    (cLeft : Cal P w K mg base k "_law_left" (sp_left K) []) (cUnl : Cal P w K mg base k "unlike_at" (sp_unl K) []) (cLed : Cal P w K mg base k "_law_led_to" (sp_ledto K) []) : FnOk P w K mg base CX0 (k + 1) f fd p_law (sp_law K) := by
  refine F0.ok sc_law (fun vs H Q E h => ?_) (fun cdv A outer s H vs Q E hr h => ?_)
  · obtain ⟨_, _, rfl, _⟩ := h
    rfl
  · obtain ⟨a, ns, rfl, hS, hl, ret⟩ := h
    refine ⟨_, (pss_cons (ps_set (i := 1) sc_law.nd rfl (.inl rfl) (C8.pe_c cCarp hr (Nat.le_refl _) (by rfl) (pa_cons (pv 0) (pa_cons pe_int pa_nil))))
      (pss_cons (ps_set (i := 2) sc_law.nd rfl (.inl rfl) (pe_callB call_len_seq (by rfl) T.len PySem.boot_len (pa_cons (pv 1) pa_nil)))
      (pss_cons (ps_set (i := 3) sc_law.nd rfl (.inl rfl) (C8.pe_c cLvg hr (Nat.le_refl _) (by rfl) (pa_cons (pv 1) pa_nil)))
      (pss_cons (ps_set (i := 4) sc_law.nd rfl (.inl rfl) (C8.pe_c cFew hr (Nat.le_refl _) (by rfl) (pa_cons (pv 2) (pa_cons (pe_callTy call_list_of (by rfl) T.list (by decide +kernel) (pa_cons (pv 3) pa_nil)) pa_nil))))
      (pss_cons (ps_set (i := 5) sc_law.nd rfl (.inl rfl) (C8.pe_c cRows hr (Nat.le_refl _) (by rfl) (pa_cons (pv 2) (pa_cons (pe_callTy call_list_of (by rfl) T.list (by decide +kernel) (pa_cons (pv 4) pa_nil)) pa_nil))))
      (pss_cons (ps_if (PW.pt (pw_or (pt_cmpR op_gt (pe_callB call_len_seq (by rfl) T.len PySem.boot_len (pa_cons (pv 4) pa_nil)) pe_int (nomark _)) (pw_or1 (pt_cmpR (op_neD hr.units) (pe_callB (cr_sortG rfl) (by rfl) T.sorted (by decide +kernel) (pa_cons (pv 5) pa_nil)) (pv 3) (nomark _)))))
      (pss_one (ps_ret pe_bl)) pss_nil)
      (pss_cons (ps_for PassesOwn.never rfl (pi_list (pv 3)) (pg_name (i := 6) sc_law.nd rfl (.inl rfl))
      (pss_cons (ps_set (i := 7) sc_law.nd rfl (.inl rfl) (pe_tup (pa_cons pe_str (pa_cons pe_int (pa_cons pe_int pa_nil)))))
      (pss_cons (ps_for PassesOwn.never rfl (pi_list (pe_ix (ix_gget (hu_of hr)) (pv 5) (pv 6) (fun _ _ => rfl))) (pg_name (i := 8) sc_law.nd rfl (.inl rfl))
      (pss_one (ps_set (i := 7) sc_law.nd rfl (.inl rfl) (C8.pe_c cBeh hr (Nat.le_refl _) (by rfl) (pa_cons (pv 2) (pa_cons (pv 7) (pa_cons (pe_ix ix_list (pv 4) (pv 8) (fun _ _ => rfl)) pa_nil)))))))
      (pss_one (ps_if (pt_cmpR (op_neD hr.units) (pv 7) (pv 6) (nomark _))
      (pss_one (ps_ret pe_bl)) pss_nil)))))
      (pss_cons (ps_for PassesOwn.never rfl (pi_range1 (by rfl) T.range (pa_cons (pe_callB call_len_seq (by rfl) T.len PySem.boot_len (pa_cons (pv 4) pa_nil)) pa_nil)) (pg_name (i := 9) sc_law.nd rfl (.inl rfl))
      (pss_one (ps_if (PW.pt (pw_or (pt_cmpR (op_notInD (hu65 hr)) (pe_ix ix_list (pv 4) (pv 9) (fun _ _ => rfl)) (pv 3) (by rfl)) (pw_or1 (pt_cmpR (op_inD (hu65 hr)) (pe_ix ix_list (pv 4) (pv 9) (fun _ _ => rfl)) (C8.pe_c cCome hr (Nat.le_refl _) (by rfl) (pa_cons (pv 2) (pa_cons (pe_slice sl_list (pv 4) po_none (po_some (pv 9))) pa_nil))) (by rfl)))))
      (pss_one (ps_ret pe_bl)) pss_nil)))
      (pss_cons (ps_for PassesOwn.never rfl (pi_list (C8.pe_c cAll hr (Nat.le_refl _) (by rfl) (pa_cons (pv 2) pa_nil))) (pg_name (i := 6) sc_law.nd rfl (.inl rfl))
      (pss_cons (ps_set (i := 10) sc_law.nd rfl (.inl rfl) (C8.pe_c cLeft hr (Nat.le_refl _) (by rfl) (pa_cons (pv 1) (pa_cons (pv 6) pa_nil))))
      (pss_cons (ps_set (i := 8) sc_law.nd rfl (.inl rfl) (C8.pe_c cUnl hr (Nat.le_refl _) (by rfl) (pa_cons (pv 1) (pa_cons (pv 6) pa_nil))))
      (pss_cons (ps_if (PW.pt (pw_or (pt_cmpR op_ne (pv 10) (pe_cmpR (op_gin (hu_of hr)) (pv 6) (pv 5) (by rfl)) (nomark _)) (pw_or1 (pt_cmpR op_ne (pv 10) (pe_cmpR op_isN (pv 8) pe_non (nomark _)) (nomark _)))))
      (pss_one (ps_ret pe_bl)) pss_nil)
      (pss_one (ps_if (pt_cmpR op_notN (pv 8) pe_non (nomark _))
      (pss_cons (ps_asg (pv 8) (pg_tup (by rfl) (pgs_cons (pg_name (i := 11) sc_law.nd rfl (.inl rfl)) (pgs_cons (pg_name (i := 12) sc_law.nd rfl (.inl rfl)) pgs_nil))))
      (pss_one (ps_if (pt_cmpR op_eq (pe_dget (hu_of hr) (C8.pe_c cLed hr (Nat.le_refl _) (by rfl) (pa_cons (pv 1) (pa_cons (pv 6) pa_nil))) (pe_tup (pa_cons (pv 11) (pa_cons (pv 12) pa_nil))) (fun _ _ => rfl)) (pe_ix ix_str (pe_ix ix_tup (pv 1) (pv 11) (fun _ _ => rfl)) (pv 12) (fun _ _ => rfl)) (nomark _))
      (pss_one (ps_ret pe_bl)) pss_nil))) pss_nil))))))
      (pss_one (ps_ret pe_bl))))))))))), ?_⟩
    -- the carpet
    refine ⟨_, rfl, a, ns, rfl, hS, hl, fun N C hN hC => fun cq H1 e1 hcq => ?_⟩
    have hN0 : 0 < N := hN.1
    have hn : (0 : Int) < N := by omega
    have b5 : (0 : Int) ≤ N ∧ (N : Int) ≤ 100000 := ⟨by omega, by have := hN.2; omega⟩
    refine nm_eq [some (.ref a), some (.ref cq), none, none, none, none, none, none, none, none, none, none, none] rfl ?_
    refine ⟨_, rfl, cq, crp N C, rfl, .inr (.inl (.inl hcq)), ?_⟩
    refine nm_eq [some (.ref a), some (.ref cq), some (.int (N : Int)), none, none, none, none, none, none, none, none, none, none] (by rw [crp_len]; rfl) ?_
    -- leaving
    refine ⟨_, rfl, N, C, cq, rfl, hN, hC, .inl (.inl hcq), fun fp fqs H2 e2 hf0 hfp hfm => ?_⟩
    refine nm_eq [some (.ref a), some (.ref cq), some (.int (N : Int)), some (.ref fp), none, none, none, none, none, none, none, none, none] rfl ?_
    have hle : (lvs N C).length ≤ 200 := Nat.le_trans (lvs_len N C) (nn_le hN)
    -- few_of
    refine ⟨_, rfl, _, rfl, fp, _, rfl, .inl (.inl (.inl hfp)), fun l1 hl1 => ?_⟩
    refine ⟨N, l1, fqs, lvs N C, rfl, hN, .inl (.inl upd_same), mvs_ex (Ex.new hl1) hfm, hle, fun x hx => (mem_lvs.mp hx).1, fun F hsub hch hall => fun wp wqs H3 e3 hw0 hwp hwm => ?_⟩
    refine nm_eq [some (.ref a), some (.ref cq), some (.int (N : Int)), some (.ref fp), some (.ref wp), none, none, none, none, none, none, none, none] rfl ?_
    have hmd : md N F = lvs N C := few_all hN0 hsub hall
    have hF7 : F.length ≤ 7 := chain_len hN0 hN.2 hch
    have hmem0 : ∀ x, Rch N F x ↔ x ∈ lvs N C := fun x => by rw [← hmd]; exact (mem_md hN0).symm
    -- rows_to
    refine ⟨_, rfl, _, rfl, wp, _, rfl, .inl (.inl (.inl hwp)), fun l2 hl2 => ?_⟩
    refine ⟨N, l2, wqs, F, rfl, hN, .inl (.inl upd_same), mvs_ex (Ex.new hl2) hwm, by omega, fun rd xs ms H4 e4 hrd hrows hnd hms => ?_⟩
    refine nm_eq (sL a cq fp wp rd N none none none none none none none) rfl ?_
    have e34 := (Ex.new (o := .lst (wqs.map V.ref)) hl2).trans e4
    have e24 := ((Ex.new (o := .lst (fqs.map V.ref)) hl1).trans e3).trans e34
    have hcq4 := e24 cq _ (e2 cq _ hcq)
    have hfp4 := e24 fp _ hfp
    have hfm4 := mvs_ex e24 hfm
    have hwp4 := e34 wp _ hwp
    have hwm4 := mvs_ex e34 hwm
    have hmm : ∀ x, x ∈ ms ↔ x ∈ lvs N C := fun x => (hms x).trans (hmem0 x)
    have ks4 := mvs_ks hrows.mvs hrows.keys
    clear e1 e2 e3 e4 hl1 hl2 e34 hcq hfp hfm hwp hwm hw0 hf0
    -- the first test
    refine ⟨_, rfl, wp, _, rfl, .inl (.inl (.inl hwp4)), _, _, rfl, rfl, _, rfl, iteFB ?_ ?_⟩
    · rw [List.length_map, mvs_len hwm4]
      exact decide_eq_false (by omega)
    refine ⟨_, rfl, rd, xs, ms, rfl, hrd, hrows.mvs, hrows.keys, fun sp os ns2 hsp so => ?_⟩
    have pm := so_perm hrows.mvs so
    have ens : ns2 = lvs N C := by
      rw [← hmd]
      exact sort_md hN0 so.srt (pm.nodup_iff.mpr hnd) fun x => pm.mem_iff.trans (hms x)
    subst ens
    have e5 := Ex.new (o := .lst (os.map V.ref)) hsp
    refine ⟨_, rfl, .list ((lvs N C).map mvD), .list ((lvs N C).map mvD), .lst (.inl (.inl upd_same)) (mvs_dp (mvs_ex e5 so.mvs)), .lst (.inl (.inl (e5 fp _ hfp4))) (mvs_dp (mvs_ex e5 hfm4)), mvDs_ok _, mvDs_ok _, _, rfl, iteFB ?_ ?_⟩
    · rw [SeqAt.eqv_refl _ (SeqAt.canLay_of_shaped (mvDs_ok (lvs N C)))]
      rfl
    -- what each row makes
    have ndk : (xs.map (·.1)).Nodup := by
      rw [hrows.keys]
      exact nodup_map hnd fun x _ y _ e => mvK_inj e
    have hlen : xs.length = ms.length := by
      have := congrArg List.length hrows.keys
      rw [List.length_map, List.length_map] at this
      exact this
    show tSeq _ _ _ _ _
    refine Evl.q_forLn (K := K) (a := fp) (xs := fqs.map V.ref) (Evl.ev_var rfl) (.inl (.inl (e5 fp _ hfp4))) (fun i σ H' => ∃ y6 y7 y8, σ = sL a cq fp wp rd N y6 y7 y8 none none none none ∧ Ex H4 H')
      (fun H6 e6 => ⟨none, none, none, rfl, e5.trans e6⟩) (fun i σ H' _ hP => ?_) (fun i x σ H6 hx hP => ?_) (fun σ H6 hP => ?_)
    · obtain ⟨_, _, _, _, e⟩ := hP
      exact .inl (.inl (e fp _ hfp4))
    · obtain ⟨y6, y7, y8, rfl, e6⟩ := hP
      obtain ⟨q, hqi, rfl⟩ := refs_get hx
      obtain ⟨m, hmi, hqm⟩ := mvs_get hfm4 hqi
      have hmL : m ∈ lvs N C := List.mem_of_getElem? hmi
      obtain ⟨j, hj, ej⟩ := List.mem_iff_getElem.mp ((hmm m).mpr hmL)
      have hmj : ms[j]? = some m := by rw [List.getElem?_eq_getElem hj, ej]
      have hxj : xs[j]? = some (xs[j]'(by omega)) := List.getElem?_eq_getElem (by omega)
      generalize xs[j]'(by omega) = r0 at hxj
      obtain ⟨l, is, hv1, hv2, hv3⟩ := hrows.vals j r0 m hxj hmj
      have hkey : r0.1 = mvK m := by
        have q1 : (xs.map (·.1))[j]? = some r0.1 := by rw [List.getElem?_map, hxj]; rfl
        rw [hrows.keys, List.getElem?_map, hmj] at q1
        exact (Option.some.inj q1).symm
      have hval := kv_at ndk hxj
      rw [hkey, hv1] at hval
      refine st_eq (sL a cq fp wp rd N (some (.ref q)) y7 y8 none none none none) rfl ?_
      refine ⟨by show 3 ≤ sizeLine; decide, fun t0 ht0 => ?_⟩
      refine nm_eq (sL a cq fp wp rd N (some (.ref q)) (some (.ref t0)) y8 none none none none) rfl ?_
      have e7 := e6.trans (Ex.new (o := .tup (mvV e0)) ht0)
      refine ⟨_, rfl, _, rfl, rd, q, xs, mvK m, .ref l, rfl, rfl, e7 rd _ hrd, ks_ex e7 ks4, Evl.ex_t e7 hqm, hval, l, rfl, ⟨_, Evl.ex_l e7 hv2⟩, ?_⟩
      refine for_list (K := K) (a := l) (xs := is.map fun i => V.int ((i : Nat) : Int)) (fun j σ H' => ∃ y8 th0 hm, σ = sL a cq fp wp rd N (some (.ref q)) (some (.ref th0)) y8 none none none none ∧ Ex H4 H' ∧ SqT K H' th0 (mvV hm) ∧ walkF N F hm (is.drop j) = some m)
        ⟨y8, t0, e0, rfl, e7, .inl (.inl upd_same), hv3⟩ (fun j σ H' _ hP => ?_) (fun j x σ H8 hx hP => ?_) (fun σ H8 hP => ?_)
      · obtain ⟨_, _, _, _, e, _⟩ := hP
        exact Evl.ex_l e hv2
      · obtain ⟨y8, th0, hm, rfl, e8, ht8, hw8⟩ := hP
        rw [List.getElem?_map] at hx
        obtain ⟨i0, hi0, rfl⟩ := Option.map_eq_some_iff.mp hx
        obtain ⟨hj1, ej1⟩ := List.getElem?_eq_some_iff.mp hi0
        rw [List.drop_eq_getElem_cons hj1, ej1] at hw8
        unfold walkF at hw8
        cases hg : F[i0]? with
        | none => rw [hg] at hw8; cases hw8
        | some g =>
          rw [hg] at hw8
          obtain ⟨gq, hgq, hgm⟩ := mvs_getM hwm4 hg
          refine nm_eq (sL a cq fp wp rd N (some (.ref q)) (some (.ref th0)) (some (.int ((i0 : Nat) : Int))) none none none none) rfl ?_
          refine ⟨_, rfl, _, rfl, _, rfl, _, rfl, wp, _, i0, .ref gq, rfl, rfl, .inl (.inl (e8 wp _ hwp4)), atI_nat (by rw [List.getElem?_map, hgq]; rfl), ?_⟩
          refine ⟨N, th0, gq, hm, g, rfl, hn, ht8, Evl.ex_t e8 hgm, fun t9 H9 e9 ht9 => ?_⟩
          exact ⟨_, t9, th N hm g, rfl, e8.trans e9, .inl (.inl ht9), hw8⟩
      · obtain ⟨y8, th0, hm, rfl, e8, ht8, hw8⟩ := hP
        rw [List.length_map, List.drop_length] at hw8
        have em : hm = m := Option.some.inj hw8
        subst em
        refine ⟨_, rfl, _, rfl, mvD hm, mvD hm, mv_dp ht8, mv_dp (Evl.ex_t e8 hqm), mvD_ok hm, mvD_ok hm, _, rfl, iteFB ?_ ?_⟩
        · rw [mvD_eqv, decide_eq_true rfl]
          rfl
        · exact ⟨_, _, _, rfl, e8⟩
    obtain ⟨y6, y7, y8, rfl, e6⟩ := hP
    -- none of the few is made by those ahead of it
    refine Evl.q_forR1 (n := ((wqs.map V.ref).length : Int)) (Evl.ea_cons (Evl.ev_len (K := K) (Evl.ev_var rfl) (.inl (.inl (e6 wp _ hwp4)))) Evl.ea_nil) ⟨by omega, by rw [List.length_map, mvs_len hwm4]; omega⟩
      (fun i σ H' => ∃ y6 y7 y8 y9, σ = sL a cq fp wp rd N y6 y7 y8 y9 none none none ∧ Ex H4 H') (fun H7 e7 => ⟨_, _, _, none, rfl, e6.trans e7⟩) (fun i σ H7 hi hP => ?_) (fun σ H7 hP => ?_)
    · obtain ⟨y6, y7, y8, y9, rfl, e7⟩ := hP
      have hiF : i < F.length := by
        rw [List.length_map, mvs_len hwm4] at hi
        omega
      have hFi : F[i]? = some F[i] := List.getElem?_eq_getElem hiF
      generalize F[i] = x at hFi
      obtain ⟨q, hqi, hqx⟩ := mvs_getM hwm4 hFi
      have hrow : (wqs.map V.ref)[i]? = some (.ref q) := by rw [List.getElem?_map, hqi]; rfl
      refine st_eq (sL a cq fp wp rd N y6 y7 y8 (some (.int ((i : Nat) : Int))) none none none) rfl ?_
      refine ⟨_, rfl, _, rfl, wp, _, i, .ref q, rfl, rfl, .inl (.inl (e7 wp _ hwp4)), atI_nat hrow, _, rfl, ?_⟩
      refine ⟨mvD x, (lvs N C).map mvD, mv_dp (Evl.ex_t e7 hqx), .lst (.inl (.inl (e7 fp _ hfp4))) (mvs_dp (mvs_ex e7 hfm4)), mvD_ok x, mvDs_ok _, _, rfl, iteFB ?_ ?_⟩
      · rw [any_mv, decide_eq_true (hsub x (List.mem_of_getElem? hFi))]
        rfl
      refine ⟨_, rfl, _, rfl, wp, _, i, .ref q, rfl, rfl, .inl (.inl (e7 wp _ hwp4)), atI_nat hrow, ?_⟩
      refine ⟨_, rfl, _, rfl, _, rfl, (i : Int), rfl, wp, _, rfl, .inl (.inl (e7 wp _ hwp4)), fun cp hcp => ?_⟩
      have ecut : cutV (wqs.map V.ref) none (some (i : Int)) = (wqs.take i).map V.ref := by rw [cut_take, List.map_take]
      rw [ecut] at *
      have e8 := e7.trans (Ex.new (o := .lst ((wqs.take i).map V.ref)) hcp)
      refine ⟨N, cp, wqs.take i, F.take i, rfl, hN, .inl (.inl upd_same), mvs_take i (mvs_ex e8 hwm4), fun kp kqs H9 e9 hk0 hkl hkm => ?_⟩
      have e89 := e8.trans e9
      refine ⟨mvD x, (md N (F.take i)).map mvD, mv_dp (Evl.ex_t e89 hqx), .lst (.inl (.inl hkl)) (mvs_dp hkm), mvD_ok x, mvDs_ok _, _, rfl, iteFB ?_ ?_⟩
      · rw [any_mv]
        exact decide_eq_false fun z => (hch i x hFi).2 ((mem_md hN0).mp z)
      · exact ⟨_, _, _, _, rfl, e89⟩
    obtain ⟨y6, y7, y8, y9, rfl, e7⟩ := hP
    -- every movement of the side
    refine ⟨_, rfl, N, rfl, hN, fun ap aqs H8 e8 ha0 hal ham => ?_⟩
    refine ⟨ap, rfl, ⟨_, .inl (.inl hal)⟩, ?_⟩
    have e78 := e7.trans e8
    refine for_list (K := K) (a := ap) (xs := aqs.map V.ref) (fun i σ H' => ∃ y6 y7 y8 y9 y10 y11 y12, σ = sL a cq fp wp rd N y6 y7 y8 y9 y10 y11 y12 ∧ Ex H4 H' ∧ Ex H8 H')
      ⟨_, _, _, _, _, _, _, rfl, e78, Ex.refl _⟩ (fun i σ H' _ hP => ?_) (fun i x σ H9 hx hP => ?_) (fun σ H9 hP => ?_)
    · obtain ⟨_, _, _, _, _, _, _, _, _, e⟩ := hP
      exact .inl (.inl (e ap _ hal))
    · obtain ⟨y6, y7, y8, y9, y10, y11, y12, rfl, e9, e9'⟩ := hP
      obtain ⟨q, hqi, rfl⟩ := refs_get hx
      obtain ⟨m, hmi, hqm⟩ := mvs_get ham hqi
      have hok : Ok N m := mem_alls.mp (List.mem_of_getElem? hmi)
      have hq9 := Evl.ex_t e9' hqm
      have hc9 : SqT K H9 cq (crp N C) := .inl (.inl (e9 cq _ hcq4))
      refine nm_eq (sL a cq fp wp rd N (some (.ref q)) y7 y8 y9 y10 y11 y12) rfl ?_
      refine ⟨_, rfl, _, rfl, N, C, cq, q, m, rfl, hN, hC, hc9, hq9, fun b hb => fun H10 e10 => ?_⟩
      refine nm_eq (sL a cq fp wp rd N (some (.ref q)) y7 y8 y9 (some (.bl b)) y11 y12) rfl ?_
      have hin : (valV (kvs xs) (mvK m)).isSome = b := by
        rw [Bool.eq_iff_iff, hb]
        constructor
        · intro h
          have hmem : m ∈ ms := by
            by_cases z : m ∈ ms
            · exact z
            · rw [(kv_none hrows.keys).mpr z] at h; cases h
          exact (mem_lvs.mp ((hmm m).mp hmem)).2
        · intro h
          cases e : valV (kvs xs) (mvK m) with
          | none => exact absurd ((hmm m).mpr (mem_lvs.mpr ⟨hok, h⟩)) ((kv_none hrows.keys).mp e)
          | some v => rfl
      have e910 := e9.trans e10
      refine ⟨_, rfl, _, rfl, N, C, cq, q, m, rfl, hN, Evl.ex_t e10 hc9, Evl.ex_t e10 hq9, fun hLv => fun H11 e11 => ?_, fun r c inn hne => fun p H11 e11 hp => ?_⟩
      · have hbt : b = true := hb.mpr hLv
        subst hbt
        have e11' := e910.trans e11
        have hq11 := Evl.ex_t (e10.trans e11) hq9
        refine nm_eq (sL a cq fp wp rd N (some (.ref q)) y7 (some .non) y9 (some (.bl true)) y11 y12) rfl ?_
        refine ⟨_, rfl, _, rfl, _, rfl, rd, q, xs, mvK m, rfl, rfl, e11' rd _ hrd, ks_ex e11' ks4, hq11, rfl, _, rfl, iteFB ?_ ?_⟩
        · rw [hin]
          rfl
        refine ⟨_, rfl, _, rfl, rfl, rfl, _, rfl, iteFB rfl ?_⟩
        refine ⟨_, rfl, rfl, _, rfl, iteFB rfl ?_⟩
        exact ⟨_, _, _, _, _, _, _, rfl, e11', (e9'.trans e10).trans e11⟩
      · have hbf : b = false := by
          cases b with
          | false => rfl
          | true =>
            have q1 := (same_iff hn m C).mpr (hb.mp rfl)
            exact absurd (q1 r c inn) hne
        subst hbf
        have e11' := e910.trans e11
        have hq11 := Evl.ex_t (e10.trans e11) hq9
        have hc11 := Evl.ex_t (e10.trans e11) hc9
        refine nm_eq (sL a cq fp wp rd N (some (.ref q)) y7 (some (.ref p)) y9 (some (.bl false)) y11 y12) rfl ?_
        refine ⟨_, rfl, _, rfl, _, rfl, rd, q, xs, mvK m, rfl, rfl, e11' rd _ hrd, ks_ex e11' ks4, hq11, rfl, _, rfl, iteFB ?_ ?_⟩
        · rw [hin]
          rfl
        refine ⟨_, rfl, _, rfl, rfl, rfl, _, rfl, iteFB rfl ?_⟩
        refine ⟨_, rfl, rfl, _, rfl, ?_⟩
        refine iteT ?_
        refine ⟨_, rfl, p, _, rfl, .inl (.inl hp), rfl, _, _, rfl, _, _, rfl, rfl, ?_⟩
        dsimp only
        refine st_eq (sL a cq fp wp rd N (some (.ref q)) y7 (some (.ref p)) y9 (some (.bl false)) (some (.int r)) (some (.int c))) rfl ?_
        obtain ⟨i1, i2, i3, i4⟩ := inn
        refine ⟨_, rfl, _, rfl, N, C, cq, q, m, rfl, hN, hc11, hq11, fun d kv H12 e12 hd hplc => ?_⟩
        refine ⟨_, rfl, _, rfl, two_leF, fun tq htq => ?_⟩
        have eq12 := Ex.new (o := .tup [.int r, .int c]) htq
        obtain ⟨v, hv1, hv2⟩ := hplc r c ⟨i1, i2, i3, i4⟩
        refine ⟨d, v, rfl, .inr ⟨kv, [Sum.inl r, Sum.inl c], tq, .inl (eq12 d _ hd), rfl, upd_same, hv1.symm⟩, ?_⟩
        refine ⟨_, rfl, _, rfl, cq, _, r, _, rfl, rfl, Evl.ex_t (e12.trans eq12) hc11, crp_atI i1 i2, _, rfl, ?_⟩
        refine ⟨_, _, C r c, rfl, rfl, by rw [rowS_len]; exact five_le hN, rowS_atI i3 i4, ?_⟩
        rw [hv2]
        refine ⟨rfl, _, rfl, iteFB ?_ ?_⟩
        · refine decide_eq_false fun z => ?_
          have s1 := sign_ne (a := mvC N m C r c) (b := C r c)
          rw [decide_eq_true z, decide_eq_false hne] at s1
          cases s1
        · exact ⟨_, _, _, _, _, _, _, rfl, e11'.trans (e12.trans eq12), ((e9'.trans e10).trans e11).trans (e12.trans eq12)⟩
    · exact ret _
end
end Ck
namespace Ck
open PySem PySem.Spec PyProof.Rows L2
theorem sign_at {K : PySem.W.Frag} {w : World} {aS g : Addr} {eS : Array DictEntry} {nS n : Nat} {u : Option Addr} {sl : Array (Option Value)} {a b c d : Int} {ta tb tc td : Nat} {x : Str} (l : K.lookup aS = some ⟨.type "dict", none, .dict eS nS, #[]⟩) (e : PySem.W.KeysLit w.params eS.toList)
    (h : PySem.W.nsIn K aS x = some (some (.ref g))) (t : K.lookup g = some ⟨.type "tuple", u, .seq #[.int a ta, .int b tb, .int c tc, .int d td] n, sl⟩) : ∃ q, KDct K w aS x (.ref q) ∧ KTup K q [.int a, .int b, .int c, .int d] :=
  ⟨g, ⟨eS, nS, _, l, e, h, rfl⟩, _, _, _, t, rfl, rfl, by show 4 ≤ sizeLine; decide, .cons ⟨_, rfl⟩ (.cons ⟨_, rfl⟩ (.cons ⟨_, rfl⟩ (.cons ⟨_, rfl⟩ .nil)))⟩
theorem all_mk {l : PySem.W.OpenLaw} {w : World} {K : PySem.W.Frag} {h : Heap} {mg : Str → Option Value} {fa : Addr} (X : K.In h) (G : h.Ns mainGlobals mg) (hfa : mg "law" = some (.ref fa))
    {u1_tp u2_tp : Option Addr} {sl_tp : Array (Option Value)} {x1_tp x2_tp x3_tp x4_tp x5_tp x6_tp : Value} {f_tp : Addr}
    {u1_led u2_led : Option Addr} {sl_led : Array (Option Value)} {x1_led x2_led x3_led x4_led x5_led x6_led : Value} {f_led : Addr}
    {u1_mov u2_mov : Option Addr} {sl_mov : Array (Option Value)} {x1_mov x2_mov x3_mov x4_mov x5_mov x6_mov : Value} {f_mov : Addr}
    {u1_wof u2_wof : Option Addr} {sl_wof : Array (Option Value)} {x1_wof x2_wof x3_wof x4_wof x5_wof x6_wof : Value} {f_wof : Addr}
    {u1_then u2_then : Option Addr} {sl_then : Array (Option Value)} {x1_then x2_then x3_then x4_then x5_then x6_then : Value} {f_then : Addr}
    {u1_alm u2_alm : Option Addr} {sl_alm : Array (Option Value)} {x1_alm x2_alm x3_alm x4_alm x5_alm x6_alm : Value} {f_alm : Addr}
    {u1_lvs u2_lvs : Option Addr} {sl_lvs : Array (Option Value)} {x1_lvs x2_lvs x3_lvs x4_lvs x5_lvs x6_lvs : Value} {f_lvs : Addr}
    {u1_unl u2_unl : Option Addr} {sl_unl : Array (Option Value)} {x1_unl x2_unl x3_unl x4_unl x5_unl x6_unl : Value} {f_unl : Addr}
    {u1_lvg u2_lvg : Option Addr} {sl_lvg : Array (Option Value)} {x1_lvg x2_lvg x3_lvg x4_lvg x5_lvg x6_lvg : Value} {f_lvg : Addr}
    {u1_made u2_made : Option Addr} {sl_made : Array (Option Value)} {x1_made x2_made x3_made x4_made x5_made x6_made : Value} {f_made : Addr}
    {u1_few u2_few : Option Addr} {sl_few : Array (Option Value)} {x1_few x2_few x3_few x4_few x5_few x6_few : Value} {f_few : Addr}
    {u1_rows u2_rows : Option Addr} {sl_rows : Array (Option Value)} {x1_rows x2_rows x3_rows x4_rows x5_rows x6_rows : Value} {f_rows : Addr}
    {u1_cell u2_cell : Option Addr} {sl_cell : Array (Option Value)} {x1_cell x2_cell x3_cell x4_cell x5_cell x6_cell : Value} {f_cell : Addr}
    {u1_mix u2_mix : Option Addr} {sl_mix : Array (Option Value)} {x1_mix x2_mix x3_mix x4_mix x5_mix x6_mix : Value} {f_mix : Addr}
    {u1_pln u2_pln : Option Addr} {sl_pln : Array (Option Value)} {x1_pln x2_pln x3_pln x4_pln x5_pln x6_pln : Value} {f_pln : Addr}
    {u1_plc u2_plc : Option Addr} {sl_plc : Array (Option Value)} {x1_plc x2_plc x3_plc x4_plc x5_plc x6_plc : Value} {f_plc : Addr}
    {u1_lmv u2_lmv : Option Addr} {sl_lmv : Array (Option Value)} {x1_lmv x2_lmv x3_lmv x4_lmv x5_lmv x6_lmv : Value} {f_lmv : Addr}
    {u1_lal u2_lal : Option Addr} {sl_lal : Array (Option Value)} {x1_lal x2_lal x3_lal x4_lal x5_lal x6_lal : Value} {f_lal : Addr}
    {u1_roots u2_roots : Option Addr} {sl_roots : Array (Option Value)} {x1_roots x2_roots x3_roots x4_roots x5_roots x6_roots : Value} {f_roots : Addr}
    {u1_carp u2_carp : Option Addr} {sl_carp : Array (Option Value)} {x1_carp x2_carp x3_carp x4_carp x5_carp x6_carp : Value} {f_carp : Addr}
    {u1_ledto u2_ledto : Option Addr} {sl_ledto : Array (Option Value)} {x1_ledto x2_ledto x3_ledto x4_ledto x5_ledto x6_ledto : Value} {f_ledto : Addr}
    {u1_left u2_left : Option Addr} {sl_left : Array (Option Value)} {x1_left x2_left x3_left x4_left x5_left x6_left : Value} {f_left : Addr}
    {u1_beh u2_beh : Option Addr} {sl_beh : Array (Option Value)} {x1_beh x2_beh x3_beh x4_beh x5_beh x6_beh : Value} {f_beh : Addr}
    {u1_come u2_come : Option Addr} {sl_come : Array (Option Value)} {x1_come x2_come x3_come x4_come x5_come x6_come : Value} {f_come : Addr}
    {u1_law u2_law : Option Addr} {sl_law : Array (Option Value)} {x1_law x2_law x3_law x4_law x5_law x6_law : Value} {f_law : Addr}
    {aW aT aS : Addr} {uW uT : Option Addr} {slW slT : Array (Option Value)} {nW nT nS : Nat} {kT kU kV : Nat} {eS : Array DictEntry}
    {j0 j1 j2 j3 j4 j5 j6 j7 : Nat}
    {g0 : Addr} {ug0 : Option Addr} {sg0 : Array (Option Value)} {ng0 m00 m01 m02 m03 : Nat}
    {g1 : Addr} {ug1 : Option Addr} {sg1 : Array (Option Value)} {ng1 m10 m11 m12 m13 : Nat}
    {g2 : Addr} {ug2 : Option Addr} {sg2 : Array (Option Value)} {ng2 m20 m21 m22 m23 : Nat}
    {g3 : Addr} {ug3 : Option Addr} {sg3 : Array (Option Value)} {ng3 m30 m31 m32 m33 : Nat}
    {g4 : Addr} {ug4 : Option Addr} {sg4 : Array (Option Value)} {ng4 m40 m41 m42 m43 : Nat}
    {g5 : Addr} {ug5 : Option Addr} {sg5 : Array (Option Value)} {ng5 m50 m51 m52 m53 : Nat}
    {g6 : Addr} {ug6 : Option Addr} {sg6 : Array (Option Value)} {ng6 m60 m61 m62 m63 : Nat}
    {g7 : Addr} {ug7 : Option Addr} {sg7 : Array (Option Value)} {ng7 m70 m71 m72 m73 : Nat}
    (a_tp : PySem.W.nsIn K mainGlobals "turned_place" = some (some (.ref f_tp))) (l_tp : K.lookup f_tp = some ⟨x1_tp, u1_tp, .func (PySem.W.fnOf "turned_place" "turned_place" (defArgs t_tp) (defBody t_tp) (defScope t_tp) .none x2_tp x3_tp x4_tp u2_tp x5_tp x6_tp), sl_tp⟩) (c_tp : PySem.W.codeIn K x5_tp "turned_place" = true) (k_tp : PySem.W.keepIn K (.ref f_tp) = true)
    (a_led : PySem.W.nsIn K mainGlobals "led" = some (some (.ref f_led))) (l_led : K.lookup f_led = some ⟨x1_led, u1_led, .func (PySem.W.fnOf "led" "led" (defArgs t_led) (defBody t_led) (defScope t_led) .none x2_led x3_led x4_led u2_led x5_led x6_led), sl_led⟩) (c_led : PySem.W.codeIn K x5_led "led" = true) (k_led : PySem.W.keepIn K (.ref f_led) = true)
    (a_mov : PySem.W.nsIn K mainGlobals "moved" = some (some (.ref f_mov))) (l_mov : K.lookup f_mov = some ⟨x1_mov, u1_mov, .func (PySem.W.fnOf "moved" "moved" (defArgs t_mov) (defBody t_mov) (defScope t_mov) .none x2_mov x3_mov x4_mov u2_mov x5_mov x6_mov), sl_mov⟩) (c_mov : PySem.W.codeIn K x5_mov "moved" = true) (k_mov : PySem.W.keepIn K (.ref f_mov) = true)
    (a_wof : PySem.W.nsIn K mainGlobals "way_of" = some (some (.ref f_wof))) (l_wof : K.lookup f_wof = some ⟨x1_wof, u1_wof, .func (PySem.W.fnOf "way_of" "way_of" (defArgs t_wof) (defBody t_wof) (defScope t_wof) .none x2_wof x3_wof x4_wof u2_wof x5_wof x6_wof), sl_wof⟩) (c_wof : PySem.W.codeIn K x5_wof "way_of" = true) (k_wof : PySem.W.keepIn K (.ref f_wof) = true)
    (a_then : PySem.W.nsIn K mainGlobals "then" = some (some (.ref f_then))) (l_then : K.lookup f_then = some ⟨x1_then, u1_then, .func (PySem.W.fnOf "then" "then" (defArgs t_then) (defBody t_then) (defScope t_then) .none x2_then x3_then x4_then u2_then x5_then x6_then), sl_then⟩) (c_then : PySem.W.codeIn K x5_then "then" = true) (k_then : PySem.W.keepIn K (.ref f_then) = true)
    (a_alm : PySem.W.nsIn K mainGlobals "all_movements" = some (some (.ref f_alm))) (l_alm : K.lookup f_alm = some ⟨x1_alm, u1_alm, .func (PySem.W.fnOf "all_movements" "all_movements" (defArgs t_alm) (defBody t_alm) (defScope t_alm) .none x2_alm x3_alm x4_alm u2_alm x5_alm x6_alm), sl_alm⟩) (c_alm : PySem.W.codeIn K x5_alm "all_movements" = true) (k_alm : PySem.W.keepIn K (.ref f_alm) = true)
    (a_lvs : PySem.W.nsIn K mainGlobals "leaves" = some (some (.ref f_lvs))) (l_lvs : K.lookup f_lvs = some ⟨x1_lvs, u1_lvs, .func (PySem.W.fnOf "leaves" "leaves" (defArgs t_lvs) (defBody t_lvs) (defScope t_lvs) .none x2_lvs x3_lvs x4_lvs u2_lvs x5_lvs x6_lvs), sl_lvs⟩) (c_lvs : PySem.W.codeIn K x5_lvs "leaves" = true) (k_lvs : PySem.W.keepIn K (.ref f_lvs) = true)
    (a_unl : PySem.W.nsIn K mainGlobals "unlike_at" = some (some (.ref f_unl))) (l_unl : K.lookup f_unl = some ⟨x1_unl, u1_unl, .func (PySem.W.fnOf "unlike_at" "unlike_at" (defArgs t_unl) (defBody t_unl) (defScope t_unl) .none x2_unl x3_unl x4_unl u2_unl x5_unl x6_unl), sl_unl⟩) (c_unl : PySem.W.codeIn K x5_unl "unlike_at" = true) (k_unl : PySem.W.keepIn K (.ref f_unl) = true)
    (a_lvg : PySem.W.nsIn K mainGlobals "leaving" = some (some (.ref f_lvg))) (l_lvg : K.lookup f_lvg = some ⟨x1_lvg, u1_lvg, .func (PySem.W.fnOf "leaving" "leaving" (defArgs t_lvg) (defBody t_lvg) (defScope t_lvg) .none x2_lvg x3_lvg x4_lvg u2_lvg x5_lvg x6_lvg), sl_lvg⟩) (c_lvg : PySem.W.codeIn K x5_lvg "leaving" = true) (k_lvg : PySem.W.keepIn K (.ref f_lvg) = true)
    (a_made : PySem.W.nsIn K mainGlobals "made" = some (some (.ref f_made))) (l_made : K.lookup f_made = some ⟨x1_made, u1_made, .func (PySem.W.fnOf "made" "made" (defArgs t_made) (defBody t_made) (defScope t_made) .none x2_made x3_made x4_made u2_made x5_made x6_made), sl_made⟩) (c_made : PySem.W.codeIn K x5_made "made" = true) (k_made : PySem.W.keepIn K (.ref f_made) = true)
    (a_few : PySem.W.nsIn K mainGlobals "few_of" = some (some (.ref f_few))) (l_few : K.lookup f_few = some ⟨x1_few, u1_few, .func (PySem.W.fnOf "few_of" "few_of" (defArgs t_few) (defBody t_few) (defScope t_few) .none x2_few x3_few x4_few u2_few x5_few x6_few), sl_few⟩) (c_few : PySem.W.codeIn K x5_few "few_of" = true) (k_few : PySem.W.keepIn K (.ref f_few) = true)
    (a_rows : PySem.W.nsIn K mainGlobals "rows_to" = some (some (.ref f_rows))) (l_rows : K.lookup f_rows = some ⟨x1_rows, u1_rows, .func (PySem.W.fnOf "rows_to" "rows_to" (defArgs t_rows) (defBody t_rows) (defScope t_rows) .none x2_rows x3_rows x4_rows u2_rows x5_rows x6_rows), sl_rows⟩) (c_rows : PySem.W.codeIn K x5_rows "rows_to" = true) (k_rows : PySem.W.keepIn K (.ref f_rows) = true)
    (a_cell : PySem.W.nsIn K mainGlobals "_law_cell_at" = some (some (.ref f_cell))) (l_cell : K.lookup f_cell = some ⟨x1_cell, u1_cell, .func (PySem.W.fnOf "_law_cell_at" "_law_cell_at" (defArgs t_cell) (defBody t_cell) (defScope t_cell) .none x2_cell x3_cell x4_cell u2_cell x5_cell x6_cell), sl_cell⟩) (c_cell : PySem.W.codeIn K x5_cell "_law_cell_at" = true) (k_cell : PySem.W.keepIn K (.ref f_cell) = true)
    (a_mix : PySem.W.nsIn K mainGlobals "_law_mixed" = some (some (.ref f_mix))) (l_mix : K.lookup f_mix = some ⟨x1_mix, u1_mix, .func (PySem.W.fnOf "_law_mixed" "_law_mixed" (defArgs t_mix) (defBody t_mix) (defScope t_mix) .none x2_mix x3_mix x4_mix u2_mix x5_mix x6_mix), sl_mix⟩) (c_mix : PySem.W.codeIn K x5_mix "_law_mixed" = true) (k_mix : PySem.W.keepIn K (.ref f_mix) = true)
    (a_pln : PySem.W.nsIn K mainGlobals "_law_plain" = some (some (.ref f_pln))) (l_pln : K.lookup f_pln = some ⟨x1_pln, u1_pln, .func (PySem.W.fnOf "_law_plain" "_law_plain" (defArgs t_pln) (defBody t_pln) (defScope t_pln) .none x2_pln x3_pln x4_pln u2_pln x5_pln x6_pln), sl_pln⟩) (c_pln : PySem.W.codeIn K x5_pln "_law_plain" = true) (k_pln : PySem.W.keepIn K (.ref f_pln) = true)
    (a_plc : PySem.W.nsIn K mainGlobals "_law_place" = some (some (.ref f_plc))) (l_plc : K.lookup f_plc = some ⟨x1_plc, u1_plc, .func (PySem.W.fnOf "_law_place" "_law_place" (defArgs t_plc) (defBody t_plc) (defScope t_plc) .none x2_plc x3_plc x4_plc u2_plc x5_plc x6_plc), sl_plc⟩) (c_plc : PySem.W.codeIn K x5_plc "_law_place" = true) (k_plc : PySem.W.keepIn K (.ref f_plc) = true)
    (a_lmv : PySem.W.nsIn K mainGlobals "_law_movement" = some (some (.ref f_lmv))) (l_lmv : K.lookup f_lmv = some ⟨x1_lmv, u1_lmv, .func (PySem.W.fnOf "_law_movement" "_law_movement" (defArgs t_lmv) (defBody t_lmv) (defScope t_lmv) .none x2_lmv x3_lmv x4_lmv u2_lmv x5_lmv x6_lmv), sl_lmv⟩) (c_lmv : PySem.W.codeIn K x5_lmv "_law_movement" = true) (k_lmv : PySem.W.keepIn K (.ref f_lmv) = true)
    (a_lal : PySem.W.nsIn K mainGlobals "_law_all" = some (some (.ref f_lal))) (l_lal : K.lookup f_lal = some ⟨x1_lal, u1_lal, .func (PySem.W.fnOf "_law_all" "_law_all" (defArgs t_lal) (defBody t_lal) (defScope t_lal) .none x2_lal x3_lal x4_lal u2_lal x5_lal x6_lal), sl_lal⟩) (c_lal : PySem.W.codeIn K x5_lal "_law_all" = true) (k_lal : PySem.W.keepIn K (.ref f_lal) = true)
    (a_roots : PySem.W.nsIn K mainGlobals "_law_roots" = some (some (.ref f_roots))) (l_roots : K.lookup f_roots = some ⟨x1_roots, u1_roots, .func (PySem.W.fnOf "_law_roots" "_law_roots" (defArgs t_roots) (defBody t_roots) (defScope t_roots) .none x2_roots x3_roots x4_roots u2_roots x5_roots x6_roots), sl_roots⟩) (c_roots : PySem.W.codeIn K x5_roots "_law_roots" = true) (k_roots : PySem.W.keepIn K (.ref f_roots) = true)
    (a_carp : PySem.W.nsIn K mainGlobals "_law_carpet" = some (some (.ref f_carp))) (l_carp : K.lookup f_carp = some ⟨x1_carp, u1_carp, .func (PySem.W.fnOf "_law_carpet" "_law_carpet" (defArgs t_carp) (defBody t_carp) (defScope t_carp) .none x2_carp x3_carp x4_carp u2_carp x5_carp x6_carp), sl_carp⟩) (c_carp : PySem.W.codeIn K x5_carp "_law_carpet" = true) (k_carp : PySem.W.keepIn K (.ref f_carp) = true)
    (a_ledto : PySem.W.nsIn K mainGlobals "_law_led_to" = some (some (.ref f_ledto))) (l_ledto : K.lookup f_ledto = some ⟨x1_ledto, u1_ledto, .func (PySem.W.fnOf "_law_led_to" "_law_led_to" (defArgs t_ledto) (defBody t_ledto) (defScope t_ledto) .none x2_ledto x3_ledto x4_ledto u2_ledto x5_ledto x6_ledto), sl_ledto⟩) (c_ledto : PySem.W.codeIn K x5_ledto "_law_led_to" = true) (k_ledto : PySem.W.keepIn K (.ref f_ledto) = true)
    (a_left : PySem.W.nsIn K mainGlobals "_law_left" = some (some (.ref f_left))) (l_left : K.lookup f_left = some ⟨x1_left, u1_left, .func (PySem.W.fnOf "_law_left" "_law_left" (defArgs t_left) (defBody t_left) (defScope t_left) .none x2_left x3_left x4_left u2_left x5_left x6_left), sl_left⟩) (c_left : PySem.W.codeIn K x5_left "_law_left" = true) (k_left : PySem.W.keepIn K (.ref f_left) = true)
    (a_beh : PySem.W.nsIn K mainGlobals "_law_behind" = some (some (.ref f_beh))) (l_beh : K.lookup f_beh = some ⟨x1_beh, u1_beh, .func (PySem.W.fnOf "_law_behind" "_law_behind" (defArgs t_beh) (defBody t_beh) (defScope t_beh) .none x2_beh x3_beh x4_beh u2_beh x5_beh x6_beh), sl_beh⟩) (c_beh : PySem.W.codeIn K x5_beh "_law_behind" = true) (k_beh : PySem.W.keepIn K (.ref f_beh) = true)
    (a_come : PySem.W.nsIn K mainGlobals "_law_come" = some (some (.ref f_come))) (l_come : K.lookup f_come = some ⟨x1_come, u1_come, .func (PySem.W.fnOf "_law_come" "_law_come" (defArgs t_come) (defBody t_come) (defScope t_come) .none x2_come x3_come x4_come u2_come x5_come x6_come), sl_come⟩) (c_come : PySem.W.codeIn K x5_come "_law_come" = true) (k_come : PySem.W.keepIn K (.ref f_come) = true)
    (a_law : PySem.W.nsIn K mainGlobals "law" = some (some (.ref f_law))) (l_law : K.lookup f_law = some ⟨x1_law, u1_law, .func (PySem.W.fnOf "law" "law" (defArgs t_law) (defBody t_law) (defScope t_law) .none x2_law x3_law x4_law u2_law x5_law x6_law), sl_law⟩) (c_law : PySem.W.codeIn K x5_law "law" = true) (k_law : PySem.W.keepIn K (.ref f_law) = true)
    (z_len : PySem.W.nsIn K mainGlobals "len" = some none)
    (z_range : PySem.W.nsIn K mainGlobals "range" = some none)
    (z_tuple : PySem.W.nsIn K mainGlobals "tuple" = some none)
    (z_sorted : PySem.W.nsIn K mainGlobals "sorted" = some none)
    (z_list : PySem.W.nsIn K mainGlobals "list" = some none)
    (z_enumerate : PySem.W.nsIn K mainGlobals "enumerate" = some none)
    (a_W : PySem.W.nsIn K mainGlobals "WAYS" = some (some (.ref aW))) (l_W : K.lookup aW = some ⟨.type "tuple", uW, .seq #[.str "stay" j0, .str "turn" j1, .str "half" j2, .str "back" j3, .str "side" j4, .str "flip" j5, .str "cross" j6, .str "other" j7] nW, slW⟩)
    (a_T : PySem.W.nsIn K mainGlobals "STAY" = some (some (.ref aT))) (l_T : K.lookup aT = some ⟨.type "tuple", uT, .seq #[.str "stay" kT, .int 0 kU, .int 0 kV] nT, slT⟩)
    (a_S : PySem.W.nsIn K mainGlobals "SIGNS" = some (some (.ref aS))) (l_S : K.lookup aS = some ⟨.type "dict", none, .dict eS nS, #[]⟩) (e_S : PySem.W.KeysLit w.params eS.toList)
    (a_g0 : PySem.W.nsIn K aS "stay" = some (some (.ref g0))) (l_g0 : K.lookup g0 = some ⟨.type "tuple", ug0, .seq #[.int 1 m00, .int 0 m01, .int 0 m02, .int 1 m03] ng0, sg0⟩)
    (a_g1 : PySem.W.nsIn K aS "turn" = some (some (.ref g1))) (l_g1 : K.lookup g1 = some ⟨.type "tuple", ug1, .seq #[.int 0 m10, .int 1 m11, .int (-1) m12, .int 0 m13] ng1, sg1⟩)
    (a_g2 : PySem.W.nsIn K aS "half" = some (some (.ref g2))) (l_g2 : K.lookup g2 = some ⟨.type "tuple", ug2, .seq #[.int (-1) m20, .int 0 m21, .int 0 m22, .int (-1) m23] ng2, sg2⟩)
    (a_g3 : PySem.W.nsIn K aS "back" = some (some (.ref g3))) (l_g3 : K.lookup g3 = some ⟨.type "tuple", ug3, .seq #[.int 0 m30, .int (-1) m31, .int 1 m32, .int 0 m33] ng3, sg3⟩)
    (a_g4 : PySem.W.nsIn K aS "side" = some (some (.ref g4))) (l_g4 : K.lookup g4 = some ⟨.type "tuple", ug4, .seq #[.int 1 m40, .int 0 m41, .int 0 m42, .int (-1) m43] ng4, sg4⟩)
    (a_g5 : PySem.W.nsIn K aS "flip" = some (some (.ref g5))) (l_g5 : K.lookup g5 = some ⟨.type "tuple", ug5, .seq #[.int (-1) m50, .int 0 m51, .int 0 m52, .int 1 m53] ng5, sg5⟩)
    (a_g6 : PySem.W.nsIn K aS "cross" = some (some (.ref g6))) (l_g6 : K.lookup g6 = some ⟨.type "tuple", ug6, .seq #[.int 0 m60, .int 1 m61, .int 1 m62, .int 0 m63] ng6, sg6⟩)
    (a_g7 : PySem.W.nsIn K aS "other" = some (some (.ref g7))) (l_g7 : K.lookup g7 = some ⟨.type "tuple", ug7, .seq #[.int 0 m70, .int (-1) m71, .int (-1) m72, .int 0 m73] ng7, sg7⟩) :
    ∃ fd : FuncData, (∀ (s : Shared) (v : Value), BindsTo s fd ⟨[v], []⟩ [("_law_script", v)]) ∧ ∀ base : Heap, K.In base → base.Ns mainGlobals mg → FnOk l.prog w K mg base CX0 6 fa fd ["_law_script"] (sp_law K) := by
  have e := hfa.symm.trans (PySem.W.mg_of X G a_law)
  cases e
  have D_tp : Df K mg "turned_place" t_tp p_tp := ⟨f_tp, _, fun_mk l_tp c_tp k_tp, PySem.W.mg_of X G a_tp, (fun_mk l_tp c_tp k_tp).binds (ps := p_tp) fun _ _ _ _ _ _ us hl => match us, hl with | [_, _], _ => rfl⟩
  have D_led : Df K mg "led" t_led p_led := ⟨f_led, _, fun_mk l_led c_led k_led, PySem.W.mg_of X G a_led, (fun_mk l_led c_led k_led).binds (ps := p_led) fun _ _ _ _ _ _ us hl => match us, hl with | [_, _, _], _ => rfl⟩
  have D_mov : Df K mg "moved" t_mov p_mov := ⟨f_mov, _, fun_mk l_mov c_mov k_mov, PySem.W.mg_of X G a_mov, (fun_mk l_mov c_mov k_mov).binds (ps := p_mov) fun _ _ _ _ _ _ us hl => match us, hl with | [_, _], _ => rfl⟩
  have D_wof : Df K mg "way_of" t_wof p_wof := ⟨f_wof, _, fun_mk l_wof c_wof k_wof, PySem.W.mg_of X G a_wof, (fun_mk l_wof c_wof k_wof).binds (ps := p_wof) fun _ _ _ _ _ _ us hl => match us, hl with | [_], _ => rfl⟩
  have D_then : Df K mg "then" t_then p_then := ⟨f_then, _, fun_mk l_then c_then k_then, PySem.W.mg_of X G a_then, (fun_mk l_then c_then k_then).binds (ps := p_then) fun _ _ _ _ _ _ us hl => match us, hl with | [_, _, _], _ => rfl⟩
  have D_alm : Df K mg "all_movements" t_alm p_alm := ⟨f_alm, _, fun_mk l_alm c_alm k_alm, PySem.W.mg_of X G a_alm, (fun_mk l_alm c_alm k_alm).binds (ps := p_alm) fun _ _ _ _ _ _ us hl => match us, hl with | [_], _ => rfl⟩
  have D_lvs : Df K mg "leaves" t_lvs p_lvs := ⟨f_lvs, _, fun_mk l_lvs c_lvs k_lvs, PySem.W.mg_of X G a_lvs, (fun_mk l_lvs c_lvs k_lvs).binds (ps := p_lvs) fun _ _ _ _ _ _ us hl => match us, hl with | [_, _], _ => rfl⟩
  have D_unl : Df K mg "unlike_at" t_unl p_unl := ⟨f_unl, _, fun_mk l_unl c_unl k_unl, PySem.W.mg_of X G a_unl, (fun_mk l_unl c_unl k_unl).binds (ps := p_unl) fun _ _ _ _ _ _ us hl => match us, hl with | [_, _], _ => rfl⟩
  have D_lvg : Df K mg "leaving" t_lvg p_lvg := ⟨f_lvg, _, fun_mk l_lvg c_lvg k_lvg, PySem.W.mg_of X G a_lvg, (fun_mk l_lvg c_lvg k_lvg).binds (ps := p_lvg) fun _ _ _ _ _ _ us hl => match us, hl with | [_], _ => rfl⟩
  have D_made : Df K mg "made" t_made p_made := ⟨f_made, _, fun_mk l_made c_made k_made, PySem.W.mg_of X G a_made, (fun_mk l_made c_made k_made).binds (ps := p_made) fun _ _ _ _ _ _ us hl => match us, hl with | [_, _], _ => rfl⟩
  have D_few : Df K mg "few_of" t_few p_few := ⟨f_few, _, fun_mk l_few c_few k_few, PySem.W.mg_of X G a_few, (fun_mk l_few c_few k_few).binds (ps := p_few) fun _ _ _ _ _ _ us hl => match us, hl with | [_, _], _ => rfl⟩
  have D_rows : Df K mg "rows_to" t_rows p_rows := ⟨f_rows, _, fun_mk l_rows c_rows k_rows, PySem.W.mg_of X G a_rows, (fun_mk l_rows c_rows k_rows).binds (ps := p_rows) fun _ _ _ _ _ _ us hl => match us, hl with | [_, _], _ => rfl⟩
  have D_cell : Df K mg "_law_cell_at" t_cell p_cell := ⟨f_cell, _, fun_mk l_cell c_cell k_cell, PySem.W.mg_of X G a_cell, (fun_mk l_cell c_cell k_cell).binds (ps := p_cell) fun _ _ _ _ _ _ us hl => match us, hl with | [_, _], _ => rfl⟩
  have D_mix : Df K mg "_law_mixed" t_mix p_mix := ⟨f_mix, _, fun_mk l_mix c_mix k_mix, PySem.W.mg_of X G a_mix, (fun_mk l_mix c_mix k_mix).binds (ps := p_mix) fun _ _ _ _ _ _ us hl => match us, hl with | [_, _], _ => rfl⟩
  have D_pln : Df K mg "_law_plain" t_pln p_pln := ⟨f_pln, _, fun_mk l_pln c_pln k_pln, PySem.W.mg_of X G a_pln, (fun_mk l_pln c_pln k_pln).binds (ps := p_pln) fun _ _ _ _ _ _ us hl => match us, hl with | [_, _, _], _ => rfl⟩
  have D_plc : Df K mg "_law_place" t_plc p_plc := ⟨f_plc, _, fun_mk l_plc c_plc k_plc, PySem.W.mg_of X G a_plc, (fun_mk l_plc c_plc k_plc).binds (ps := p_plc) fun _ _ _ _ _ _ us hl => match us, hl with | [_, _, _], _ => rfl⟩
  have D_lmv : Df K mg "_law_movement" t_lmv p_lmv := ⟨f_lmv, _, fun_mk l_lmv c_lmv k_lmv, PySem.W.mg_of X G a_lmv, (fun_mk l_lmv c_lmv k_lmv).binds (ps := p_lmv) fun _ _ _ _ _ _ us hl => match us, hl with | [_, _], _ => rfl⟩
  have D_lal : Df K mg "_law_all" t_lal p_lal := ⟨f_lal, _, fun_mk l_lal c_lal k_lal, PySem.W.mg_of X G a_lal, (fun_mk l_lal c_lal k_lal).binds (ps := p_lal) fun _ _ _ _ _ _ us hl => match us, hl with | [_], _ => rfl⟩
  have D_roots : Df K mg "_law_roots" t_roots p_roots := ⟨f_roots, _, fun_mk l_roots c_roots k_roots, PySem.W.mg_of X G a_roots, (fun_mk l_roots c_roots k_roots).binds (ps := p_roots) fun _ _ _ _ _ _ us hl => match us, hl with | [_, _], _ => rfl⟩
  have D_carp : Df K mg "_law_carpet" t_carp p_carp := ⟨f_carp, _, fun_mk l_carp c_carp k_carp, PySem.W.mg_of X G a_carp, (fun_mk l_carp c_carp k_carp).binds (ps := p_carp) fun _ _ _ _ _ _ us hl => match us, hl with | [_, _], _ => rfl⟩
  have D_ledto : Df K mg "_law_led_to" t_ledto p_ledto := ⟨f_ledto, _, fun_mk l_ledto c_ledto k_ledto, PySem.W.mg_of X G a_ledto, (fun_mk l_ledto c_ledto k_ledto).binds (ps := p_ledto) fun _ _ _ _ _ _ us hl => match us, hl with | [_, _], _ => rfl⟩
  have D_left : Df K mg "_law_left" t_left p_left := ⟨f_left, _, fun_mk l_left c_left k_left, PySem.W.mg_of X G a_left, (fun_mk l_left c_left k_left).binds (ps := p_left) fun _ _ _ _ _ _ us hl => match us, hl with | [_, _], _ => rfl⟩
  have D_beh : Df K mg "_law_behind" t_beh p_beh := ⟨f_beh, _, fun_mk l_beh c_beh k_beh, PySem.W.mg_of X G a_beh, (fun_mk l_beh c_beh k_beh).binds (ps := p_beh) fun _ _ _ _ _ _ us hl => match us, hl with | [_, _, _], _ => rfl⟩
  have D_come : Df K mg "_law_come" t_come p_come := ⟨f_come, _, fun_mk l_come c_come k_come, PySem.W.mg_of X G a_come, (fun_mk l_come c_come k_come).binds (ps := p_come) fun _ _ _ _ _ _ us hl => match us, hl with | [_, _], _ => rfl⟩
  have F_law := fun_mk (st := t_law) l_law c_law k_law
  have S8 : ∀ w8, ∃ q, KDct K w aS (wn w8) (.ref q) ∧ KTup K q (sgV w8) := fun w8 => match w8 with
    | .stay => sign_at l_S e_S a_g0 l_g0
    | .turn => sign_at l_S e_S a_g1 l_g1
    | .half => sign_at l_S e_S a_g2 l_g2
    | .back => sign_at l_S e_S a_g3 l_g3
    | .side => sign_at l_S e_S a_g4 l_g4
    | .flip => sign_at l_S e_S a_g5 l_g5
    | .cross => sign_at l_S e_S a_g6 l_g6
    | .other => sign_at l_S e_S a_g7 l_g7
  have T : Tx K w mg := ⟨PySem.W.mg_none_of X G z_len, PySem.W.mg_none_of X G z_range, PySem.W.mg_none_of X G z_tuple, PySem.W.mg_none_of X G z_sorted, PySem.W.mg_none_of X G z_list, PySem.W.mg_none_of X G z_enumerate,
    ⟨aW, PySem.W.mg_of X G a_W, _, _, _, l_W, rfl, rfl, by show 8 ≤ sizeLine; decide, .cons ⟨_, rfl⟩ (.cons ⟨_, rfl⟩ (.cons ⟨_, rfl⟩ (.cons ⟨_, rfl⟩ (.cons ⟨_, rfl⟩ (.cons ⟨_, rfl⟩ (.cons ⟨_, rfl⟩ (.cons ⟨_, rfl⟩ (.nil))))))))⟩,
    ⟨aS, PySem.W.mg_of X G a_S, S8⟩, ⟨aT, PySem.W.mg_of X G a_T, _, _, _, l_T, rfl, rfl, by show 3 ≤ sizeLine; decide, .cons ⟨_, rfl⟩ (.cons ⟨_, rfl⟩ (.cons ⟨_, rfl⟩ .nil))⟩⟩
  exact ⟨PySem.W.fnOf "law" "law" (defArgs t_law) (defBody t_law) (defScope t_law) .none x2_law x3_law x4_law u2_law x5_law x6_law, fun s v => .of_eq rfl, fun base _ _ => by
    have r_tp : Cal l.prog w K mg base 1 "turned_place" (sp_tp K) [] := ok_tp (k := 0) T D_tp
    have r_led : Cal l.prog w K mg base 2 "led" (sp_led K) [] := ok_led (k := 1) D_led r_tp
    have r_wof : Cal l.prog w K mg base 1 "way_of" (sp_wof K) [] := ok_wof (k := 0) T D_wof
    have r_then : Cal l.prog w K mg base 3 "then" (sp_then K) [] := ok_then (k := 2) T D_then (r_wof.mono (by decide)) r_led
    have r_mov : Cal l.prog w K mg base 3 "moved" (sp_mov K) [] := ok_mov (k := 2) T D_mov r_led
    have r_alm : Cal l.prog w K mg base 1 "all_movements" (sp_alm K) [] := ok_alm (k := 0) T D_alm
    have r_lvs : Cal l.prog w K mg base 4 "leaves" (sp_lvs K) [] := ok_lvs (k := 3) D_lvs r_mov
    have r_unl : Cal l.prog w K mg base 4 "unlike_at" (sp_unl K) [] := ok_unl (k := 3) T D_unl r_mov
    have r_lvg : Cal l.prog w K mg base 5 "leaving" (sp_lvg K) [] := ok_lvg (k := 4) T D_lvg (r_alm.mono (by decide)) r_lvs
    have r_made : Cal l.prog w K mg base 4 "made" (sp_made K) [] := ok_made (k := 3) T D_made r_then
    have r_few : Cal l.prog w K mg base 5 "few_of" (sp_few K) [] := ok_few (k := 4) T D_few r_made
    have r_rows : Cal l.prog w K mg base 4 "rows_to" (sp_rows l.prog w K) [] := ok_rows (k := 3) T D_rows r_then
    have r_cell : Cal l.prog w K mg base 1 "_law_cell_at" (sp_cell K) [] := ok_cell (k := 0) T D_cell
    have r_mix : Cal l.prog w K mg base 1 "_law_mixed" (sp_mix) [] := ok_mix (k := 0) D_mix
    have r_pln : Cal l.prog w K mg base 1 "_law_plain" (sp_pln K) [] := ok_pln (k := 0) D_pln
    have r_plc : Cal l.prog w K mg base 2 "_law_place" (sp_plc K) [] := ok_plc (k := 1) D_plc r_pln
    have r_lmv : Cal l.prog w K mg base 1 "_law_movement" (sp_lmv K) [] := ok_lmv (k := 0) D_lmv
    have r_lal : Cal l.prog w K mg base 1 "_law_all" (sp_lal K) [] := ok_lal (k := 0) T D_lal
    have r_roots : Cal l.prog w K mg base 3 "_law_roots" (sp_roots K) [] := ok_roots (k := 2) T D_roots r_plc
    have r_carp : Cal l.prog w K mg base 4 "_law_carpet" (sp_carp K) [] := ok_carp (k := 3) T D_carp (r_cell.mono (by decide)) (r_mix.mono (by decide)) (r_lmv.mono (by decide)) r_roots
    have r_ledto : Cal l.prog w K mg base 3 "_law_led_to" (sp_ledto K) [] := ok_ledto (k := 2) T D_ledto r_plc
    have r_left : Cal l.prog w K mg base 3 "_law_left" (sp_left K) [] := ok_left (k := 2) T D_left r_plc
    have r_beh : Cal l.prog w K mg base 3 "_law_behind" (sp_beh K) [] := ok_beh (k := 2) D_beh (r_pln.mono (by decide)) r_plc
    have r_come : Cal l.prog w K mg base 4 "_law_come" (sp_come K) [] := ok_come (k := 3) T D_come r_beh
    exact ok_law (k := 5) T F_law (r_carp.mono (by decide)) r_lvg r_few (r_rows.mono (by decide)) (r_beh.mono (by decide)) (r_come.mono (by decide)) (r_lal.mono (by decide)) (r_left.mono (by decide)) (r_unl.mono (by decide)) (r_ledto.mono (by decide))⟩
end Ck
open PySem PySem.W PyProof.Rows
set_option maxHeartbeats 0 in
theorem PySem.Challenge.cw_carpetkin_k45_whole_all_by_few_holds : PySem.Challenge.rw_carpetkin_k45_whole_all_by_few.Holds := by
  w_on; o_law; k_head; (case hw => w_witness2)
  k_fill
  refine L2.walk_of (l := PySem.Challenge.rw_carpetkin_k45_whole_all_by_few) (n := 63) (k := 6) (x := "_law_script") (CX := fun _ => L2.CX0) (sp := fun w => Ck.sp_law _) rfl (by decide) rfl ⟨rfl, by decide, by decide⟩ (fun w h Y => PySem.W.kIn_of Y) ?F (fun _ _ a ns hl _ hS => ⟨a, ns, rfl, hS, hl, fun _ => rfl⟩) (fun _ _ _ _ _ h => h)
  case F =>
    intro w mg fa h KX G hmg
    refine' Ck.all_mk KX G hmg ?a_tp ?l_tp ?c_tp ?k_tp ?a_led ?l_led ?c_led ?k_led ?a_mov ?l_mov ?c_mov ?k_mov ?a_wof ?l_wof ?c_wof ?k_wof ?a_then ?l_then ?c_then ?k_then ?a_alm ?l_alm ?c_alm ?k_alm ?a_lvs ?l_lvs ?c_lvs ?k_lvs ?a_unl ?l_unl ?c_unl ?k_unl ?a_lvg ?l_lvg ?c_lvg ?k_lvg ?a_made ?l_made ?c_made ?k_made ?a_few ?l_few ?c_few ?k_few ?a_rows ?l_rows ?c_rows ?k_rows ?a_cell ?l_cell ?c_cell ?k_cell ?a_mix ?l_mix ?c_mix ?k_mix ?a_pln ?l_pln ?c_pln ?k_pln ?a_plc ?l_plc ?c_plc ?k_plc ?a_lmv ?l_lmv ?c_lmv ?k_lmv ?a_lal ?l_lal ?c_lal ?k_lal ?a_roots ?l_roots ?c_roots ?k_roots ?a_carp ?l_carp ?c_carp ?k_carp ?a_ledto ?l_ledto ?c_ledto ?k_ledto ?a_left ?l_left ?c_left ?k_left ?a_beh ?l_beh ?c_beh ?k_beh ?a_come ?l_come ?c_come ?k_come ?a_law ?l_law ?c_law ?k_law ?z_len ?z_range ?z_tuple ?z_sorted ?z_list ?z_enumerate ?a_W ?l_W ?a_T ?l_T ?a_S ?l_S ?e_S ?a_g0 ?l_g0 ?a_g1 ?l_g1 ?a_g2 ?l_g2 ?a_g3 ?l_g3 ?a_g4 ?l_g4 ?a_g5 ?l_g5 ?a_g6 ?l_g6 ?a_g7 ?l_g7
    (case a_tp => k_is); (case l_tp => k_is); (case c_tp => k_is); (case k_tp => k_is); (case a_led => k_is); (case l_led => k_is); (case c_led => k_is); (case k_led => k_is)
    (case a_mov => k_is); (case l_mov => k_is); (case c_mov => k_is); (case k_mov => k_is); (case a_wof => k_is); (case l_wof => k_is); (case c_wof => k_is); (case k_wof => k_is)
    (case a_then => k_is); (case l_then => k_is); (case c_then => k_is); (case k_then => k_is); (case a_alm => k_is); (case l_alm => k_is); (case c_alm => k_is); (case k_alm => k_is)
    (case a_lvs => k_is); (case l_lvs => k_is); (case c_lvs => k_is); (case k_lvs => k_is); (case a_unl => k_is); (case l_unl => k_is); (case c_unl => k_is); (case k_unl => k_is)
    (case a_lvg => k_is); (case l_lvg => k_is); (case c_lvg => k_is); (case k_lvg => k_is); (case a_made => k_is); (case l_made => k_is); (case c_made => k_is); (case k_made => k_is)
    (case a_few => k_is); (case l_few => k_is); (case c_few => k_is); (case k_few => k_is); (case a_rows => k_is); (case l_rows => k_is); (case c_rows => k_is); (case k_rows => k_is)
    (case a_cell => k_is); (case l_cell => k_is); (case c_cell => k_is); (case k_cell => k_is); (case a_mix => k_is); (case l_mix => k_is); (case c_mix => k_is); (case k_mix => k_is)
    (case a_pln => k_is); (case l_pln => k_is); (case c_pln => k_is); (case k_pln => k_is); (case a_plc => k_is); (case l_plc => k_is); (case c_plc => k_is); (case k_plc => k_is)
    (case a_lmv => k_is); (case l_lmv => k_is); (case c_lmv => k_is); (case k_lmv => k_is); (case a_lal => k_is); (case l_lal => k_is); (case c_lal => k_is); (case k_lal => k_is)
    (case a_roots => k_is); (case l_roots => k_is); (case c_roots => k_is); (case k_roots => k_is); (case a_carp => k_is); (case l_carp => k_is); (case c_carp => k_is); (case k_carp => k_is)
    (case a_ledto => k_is); (case l_ledto => k_is); (case c_ledto => k_is); (case k_ledto => k_is); (case a_left => k_is); (case l_left => k_is); (case c_left => k_is); (case k_left => k_is)
    (case a_beh => k_is); (case l_beh => k_is); (case c_beh => k_is); (case k_beh => k_is); (case a_come => k_is); (case l_come => k_is); (case c_come => k_is); (case k_come => k_is)
    (case a_law => k_is); (case l_law => k_is); (case c_law => k_is); (case k_law => k_is); (case z_len => k_is); (case z_range => k_is); (case z_tuple => k_is); (case z_sorted => k_is)
    (case z_list => k_is); (case z_enumerate => k_is); (case a_W => k_is); (case l_W => k_is); (case a_T => k_is); (case l_T => k_is); (case a_S => k_is); (case l_S => k_is)
    (case a_g0 => k_is); (case l_g0 => k_is); (case a_g1 => k_is); (case l_g1 => k_is); (case a_g2 => k_is); (case l_g2 => k_is); (case a_g3 => k_is); (case l_g3 => k_is)
    (case a_g4 => k_is); (case l_g4 => k_is); (case a_g5 => k_is); (case l_g5 => k_is); (case a_g6 => k_is); (case l_g6 => k_is); (case a_g7 => k_is); (case l_g7 => k_is)
    case e_S => exact ⟨⟨_, _, rfl, rfl⟩, ⟨_, _, rfl, rfl⟩, ⟨_, _, rfl, rfl⟩, ⟨_, _, rfl, rfl⟩, ⟨_, _, rfl, rfl⟩, ⟨_, _, rfl, rfl⟩, ⟨_, _, rfl, rfl⟩, ⟨_, _, rfl, rfl⟩, trivial⟩
