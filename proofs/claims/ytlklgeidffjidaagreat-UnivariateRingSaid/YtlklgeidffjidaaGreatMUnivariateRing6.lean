/- Walks of the reference: same, Same of rational numbers (eliminantref02). -/
import Derived.Test.YtlklgeidffjidaaGreatMUnivariateRing5
import Derived.Deep.DeepCutAuto
import Derived.Deep.CutBlock
import Derived.Laws.AppendOwn
namespace Go.Proofs.YtlklgeidffjidaaGreat
open Go.RowKit
set_option linter.unusedSimpArgs false

theorem int_eq_of {x y : Int} (hs : decide (x < 0) = decide (y < 0)) (hl : (words x.natAbs).length = (words y.natAbs).length) (h : ∀ j, j < (words x.natAbs).length → nth (words x.natAbs) j = nth (words y.natAbs) j) : x = y := by
  have hw : words x.natAbs = words y.natAbs := by
    apply List.ext_getElem hl
    intro i h1 h2
    have := h i h1
    unfold nth at this
    rwa [List.getD_eq_getElem?_getD, List.getD_eq_getElem?_getD, List.getElem?_eq_getElem h1, List.getElem?_eq_getElem h2] at this
  have hn := words_inj hw
  by_cases hx : x < 0
  · rw [decide_eq_true hx] at hs
    have := of_decide_eq_true hs.symm
    omega
  · rw [decide_eq_false hx] at hs
    have := of_decide_eq_false hs.symm
    omega

set_option maxRecDepth 100000 in
set_option maxHeartbeats 1000000 in
theorem q_same (u v : Value) (x y : Int) (w : World) (hu : IsInt w u x) (hv : IsInt w v y) :
    Calls Tryz.prog 87 #[u, v] w fun e w' => e = .returned (.bool (decide (x = y))) ∧ Below w.heap.size w w' := by
  obtain ⟨s, A, n, c, rfl, rfl, rfl, hx, hc⟩ := hu
  obtain ⟨s, B, m, d, rfl, rfl, rfl, hy, hd⟩ := hv
  have hl1 := hx.len
  have hl2 := hy.len
  by_cases hs : decide (x < 0) = decide (y < 0)
  · have Hs := Lib.hid hs
    rw [← hs]
    by_cases hl : (words x.natAbs).length = (words y.natAbs).length
    · have Hl := Lib.hid hl
      rw [← hl]
      have HE : Hid ((∀ j, j < (words x.natAbs).length → nth (words x.natAbs) j = nth (words y.natAbs) j) → decide (x = y) = true) := Lib.hid (fun h => decide_eq_true (int_eq_of Hs.out Hl.out h))
      have HN : Hid (∀ j, nth (words x.natAbs) j ≠ nth (words y.natAbs) j → decide (x = y) = false) := Lib.hid (fun j h => decide_eq_false (fun e => h (by rw [e])))
      obtain ⟨n, Hn⟩ : ∃ n, Hid (n = (words x.natAbs).length) := ⟨_, Lib.hid rfl⟩
      have Hl' : Hid (n = (words y.natAbs).length) := Lib.hid (Hn.out.trans Hl.out)
      rw [← Hn.out] at HE hl1 ⊢
      clear hl hs hl2 hc hd
      generalize decide (x < 0) = sx at *
      generalize decide (x = y) = R at *
      go_enter Tryz.func87, Tryz.ntmps87
      go_wp2_with fail
      generalize hW : World.alloc (World.alloc _ _) _ = W
      have hBW : Below w.heap.size w W := by
        rw [← hW]; exact ((Below.refl _ _).alloc (Nat.le_refl _) _).alloc (by simp) _
      have hc1 : W.cell? ⟨w.heap.size, 1, none⟩ = some (.slice A n c) := by rw [← hW]; simp [go_sem]
      have hc3 : W.cell? ⟨w.heap.size + 1, 1, none⟩ = some (.slice B n d) := by rw [← hW]; simp [go_sem]
      clear hW
      go_loopw [5] (fun i wr => ∃ (k nn : Nat), k ≤ n ∧ i = .int .i64 (k : Int) ∧ (∀ j, j < k → nth (words x.natAbs) j = nth (words y.natAbs) j) ∧ wr = W.drewN nn) (fun i _ => n - (intOf i).toNat)
      case atStart => exact ⟨0, 0, Nat.zero_le _, rfl, fun j h => by omega, rfl⟩
      case round =>
        obtain ⟨k, nn, hk, rfl, hsame, rfl⟩ := hrel
        have hB1 := below_drewN' hBW nn
        have k1 : (W.drewN nn).cell? ⟨w.heap.size, 1, none⟩ = _ := hc1
        have k3 : (W.drewN nn).cell? ⟨w.heap.size + 1, 1, none⟩ = _ := hc3
        obtain ⟨W1, HW1⟩ : ∃ W1, Hid (W1 = W.drewN nn) := ⟨_, Lib.hid rfl⟩
        rw [← HW1.out] at hB1 k1 k3 ⊢
        by_cases hlt : k < n
        · obtain ⟨b, off, hA, hbl, hxc⟩ := (hx.below hB1).2.2 (by have := Hn.out; omega)
          obtain ⟨b', off', hB, hbl', hyc⟩ := (hy.below hB1).2.2 (by have := Hl'.out; omega)
          have hxk := hxc k (by have := Hn.out; omega)
          have hyk := hyc k (by have := Hl'.out; omega)
          subst hA; subst hB
          clear hxc hyc hc1 hc3
          by_cases heq : nth (words x.natAbs) k = nth (words y.natAbs) k
          · have e : (((nth (words x.natAbs) k : Nat) : Int) != ((nth (words y.natAbs) k : Nat) : Int)) = false := by simp [heq]
            have Heq := Lib.hid heq
            clear heq
            go_wp2
            go_quiet (fail)
            go_wp2
            go_roundw
            case rel => exact ⟨k + 1, nn + nq, hlt, by go_num, fun j h => by
              by_cases e : j = k
              · rw [e]; exact Heq.out
              · exact hsame j (by omega), by rw [HW1.out, World.drewN_drewN]⟩
            case measure => simp [intOf]; omega
          · have e : (((nth (words x.natAbs) k : Nat) : Int) != ((nth (words y.natAbs) k : Nat) : Int)) = true := by simp; omega
            have HR := Lib.hid (HN.out k heq)
            clear heq
            go_wp2
            go_quiet (fail)
            go_wp2
            go_ret
            exact ⟨by rw [HR.out]; rfl, below_drewN' hB1 _⟩
        · obtain rfl : k = n := by omega
          have HR := Lib.hid (HE.out hsame)
          go_wp2
          go_ret
          exact ⟨by rw [HR.out]; rfl, hB1⟩
    · have e : decide (x = y) = false := decide_eq_false (fun e => hl (by rw [e]))
      have h1 : ((((words x.natAbs).length : Nat) : Int) != (((words y.natAbs).length : Nat) : Int)) = true := by simp; omega
      rw [e]
      generalize decide (x < 0) = sx at *
      generalize (words x.natAbs).length = n at *
      generalize (words y.natAbs).length = m at *
      clear e hs hl
      go_enter Tryz.func87, Tryz.ntmps87
      go_wp2
      go_ret
      exact ⟨rfl, ((Below.refl _ _).alloc (Nat.le_refl _) _).alloc (by simp) _⟩
  · have e : decide (x = y) = false := decide_eq_false (fun e => hs (by rw [e]))
    have h1 : (decide (x < 0) != decide (y < 0)) = true := by simpa using hs
    rw [e]
    generalize decide (x < 0) = sx at *
    generalize decide (y < 0) = sy at *
    clear e hs
    have key : (sx = true ∧ sy = false) ∨ (sx = false ∧ sy = true) := by revert h1; cases sx <;> cases sy <;> simp
    clear h1
    rcases key with ⟨rfl, rfl⟩ | ⟨rfl, rfl⟩
    all_goals
      go_enter Tryz.func87, Tryz.ntmps87
      go_wp2
      go_ret
      exact ⟨rfl, ((Below.refl _ _).alloc (Nat.le_refl _) _).alloc (by simp) _⟩

theorem rat_eq_iff {a b : Rat} : a = b ↔ a.num = b.num ∧ (a.den : Int) = (b.den : Int) :=
  ⟨fun e => by rw [e]; exact ⟨rfl, rfl⟩, fun ⟨h1, h2⟩ => Rat.ext h1 (by exact_mod_cast h2)⟩

set_option maxRecDepth 100000 in
set_option maxHeartbeats 1000000 in
theorem q_Same (u v : Value) (a b : Rat) (w : World) (hu : IsRat w u a) (hv : IsRat w v b) :
    Calls Tryz.prog 41 #[u, v] w fun e w' => e = .returned (.bool (decide (a = b))) ∧ Below w.heap.size w w' := by
  obtain ⟨s, A, n, c, s', A', n', c', rfl, ha1, ha2⟩ := hu
  obtain ⟨t, B, m, d, t', B', m', d', rfl, hb1, hb2⟩ := hv
  have hS1 := fun W (hW : Below w.heap.size w W) => q_same _ _ _ _ W (ha1.below hW).is (hb1.below hW).is
  have hS2 := fun W (hW : Below w.heap.size w W) => q_same _ _ _ _ W (ha2.below hW).is (hb2.below hW).is
  clear ha1 ha2 hb1 hb2
  by_cases h1 : a.num = b.num
  · have e : decide (a = b) = decide ((a.den : Int) = (b.den : Int)) := by rw [Bool.eq_iff_iff]; simp only [decide_eq_true_eq]; rw [rat_eq_iff]; simp [h1]
    rw [e]
    rw [decide_eq_true h1] at hS1
    clear e h1
    generalize decide ((a.den : Int) = (b.den : Int)) = R at *
    go_enter Tryz.func41, Tryz.ntmps41
    go_wp2_with fail
    generalize hW : World.alloc (World.alloc _ _) _ = W
    have hBW : Below w.heap.size w W := by
      rw [← hW]; exact ((Below.refl _ _).alloc (Nat.le_refl _) _).alloc (by simp) _
    have a2 : W.cell? ⟨w.heap.size, 2, none⟩ = some (.bool s') := by rw [← hW]; simp [go_sem]
    have a3 : W.cell? ⟨w.heap.size, 3, none⟩ = some (.slice A' n' c') := by rw [← hW]; simp [go_sem]
    have b2 : W.cell? ⟨w.heap.size + 1, 2, none⟩ = some (.bool t') := by rw [← hW]; simp [go_sem]
    have b3 : W.cell? ⟨w.heap.size + 1, 3, none⟩ = some (.slice B' m' d') := by rw [← hW]; simp [go_sem]
    clear hW
    refine (hS1 _ hBW).mono ?_
    rintro e w1 ⟨rfl, hb⟩
    have hBW1 := hBW.trans (hb.mono hBW.size)
    have a2 := cell_below a2 hb
    have a3 := cell_below a3 hb
    have b2 := cell_below b2 hb
    have b3 := cell_below b3 hb
    go_wp2_with fail
    refine (hS2 _ hBW1).mono ?_
    rintro e w2 ⟨rfl, hb⟩
    have hBW2 := hBW1.trans (hb.mono hBW1.size)
    go_wp2
    go_ret
    exact ⟨rfl, hBW2⟩
  · have e : decide (a = b) = false := decide_eq_false (fun e => h1 (by rw [e]))
    rw [e]
    rw [decide_eq_false h1] at hS1
    clear e h1 hS2
    go_enter Tryz.func41, Tryz.ntmps41
    go_wp2_with fail
    generalize hW : World.alloc (World.alloc _ _) _ = W
    have hBW : Below w.heap.size w W := by
      rw [← hW]; exact ((Below.refl _ _).alloc (Nat.le_refl _) _).alloc (by simp) _
    clear hW
    refine (hS1 _ hBW).mono ?_
    rintro e w1 ⟨rfl, hb⟩
    have hBW1 := hBW.trans (hb.mono hBW.size)
    go_wp2
    go_ret
    exact ⟨rfl, hBW1⟩

end Go.Proofs.YtlklgeidffjidaaGreat

/- The walk of Made (eliminantref02). -/
namespace Go.Proofs.YtlklgeidffjidaaGreat
open Go.RowKit
set_option linter.unusedSimpArgs false

/-- The numerator and the denominator that Made takes. -/
def mnum (n k : Int) : Int := if k % 8 = 7 then n * (4611686018427387904 + k) * (4611686018427387904 + k) + k else n
def mden (d k : Int) : Int := if k % 8 = 6 then (if d = 0 then 1 else d) * (4611686018427387904 + k) * (4611686018427387904 + k) else (if d = 0 then 1 else d)
def rmade (n d k : Int) : Rat := Rat.divInt (mnum n k) (mden d k)

/-- Two variables. -/
def MadeQ (W : World) (b3 b4 : Nat) (x y : Int) (wr : World) : Prop := IC wr b3 x ∧ IC wr b4 y ∧ Below W.heap.size W wr
def MadeT (W : World) (b3 b4 b5 : Nat) (x y z : Int) (wr : World) : Prop := IC wr b3 x ∧ IC wr b4 y ∧ IC wr b5 z ∧ Below W.heap.size W wr
theorem isz_small {z : Int} (h : z.natAbs < 18446744073709551616) : isz z ≤ 10 := by
  unfold isz sz
  have : (words z.natAbs).length ≤ 2 := words_length_le (by have : base ^ 2 = 18446744073709551616 := by decide
                                                            omega)
  omega
theorem mden_ne {d k : Int} (hk0 : 0 ≤ k) : mden d k ≠ 0 := by
  unfold mden
  have h1 : (if d = 0 then 1 else d) ≠ 0 := by split <;> omega
  generalize (if d = 0 then 1 else d) = dd at *
  split
  · exact Int.mul_ne_zero (Int.mul_ne_zero h1 (by omega)) (by omega)
  · exact h1
theorem isz_mnum {n k : Int} (hn0 : -128 ≤ n) (hn1 : n ≤ 127) (hk0 : 0 ≤ k) (hk1 : k ≤ 255) : isz (mnum n k) ≤ 100 := by
  unfold mnum
  have zb : isz (4611686018427387904 + k) ≤ 10 := isz_small (by omega)
  have zn : isz n ≤ 10 := isz_small (by omega)
  have zk : isz k ≤ 10 := isz_small (by omega)
  have z1 := isz_mul n (4611686018427387904 + k)
  have z2 := isz_mul (n * (4611686018427387904 + k)) (4611686018427387904 + k)
  have z5 := isz_add (n * (4611686018427387904 + k) * (4611686018427387904 + k)) k
  split <;> omega
theorem isz_mden {d k : Int} (hd0 : -128 ≤ d) (hd1 : d ≤ 127) (hk0 : 0 ≤ k) (hk1 : k ≤ 255) : isz (mden d k) ≤ 100 := by
  unfold mden
  have zb : isz (4611686018427387904 + k) ≤ 10 := isz_small (by omega)
  have zd : isz (if d = 0 then 1 else d) ≤ 10 := isz_small (by split <;> omega)
  generalize (if d = 0 then 1 else d) = dd at *
  have z1 := isz_mul dd (4611686018427387904 + k)
  have z2 := isz_mul (dd * (4611686018427387904 + k)) (4611686018427387904 + k)
  split <;> omega
theorem keepP3 {g : Nat} {w0 W : World} {u0 u1 : Value} {b0 o0 b1 o1 b2 o2 : Nat} {v0 v1 v2 : Value} (l0 : b0 ≠ g) (l1 : b1 ≠ g) (l2 : b2 ≠ g)
    (h : Below 0 w0 W ∧ W.cell? ⟨b0, o0, none⟩ = some v0 ∧ W.cell? ⟨b1, o1, none⟩ = some v1 ∧ W.cell? ⟨b2, o2, none⟩ = some v2) :
    Below 0 w0 ((W.setCell ⟨g, 0, none⟩ u0).setCell ⟨g, 1, none⟩ u1) ∧ ((W.setCell ⟨g, 0, none⟩ u0).setCell ⟨g, 1, none⟩ u1).cell? ⟨b0, o0, none⟩ = some v0 ∧ ((W.setCell ⟨g, 0, none⟩ u0).setCell ⟨g, 1, none⟩ u1).cell? ⟨b1, o1, none⟩ = some v1 ∧ ((W.setCell ⟨g, 0, none⟩ u0).setCell ⟨g, 1, none⟩ u1).cell? ⟨b2, o2, none⟩ = some v2 := by
  have ne : ∀ {b o o' : Nat}, b ≠ g → ((W.setCell ⟨g, 0, none⟩ u0).setCell ⟨g, 1, none⟩ u1).cell? ⟨b, o, none⟩ = W.cell? ⟨b, o, none⟩ := fun {b o _} hb => by
    rw [World.cell?_setCell_other _ _ _ _ (addr_ne (by omega)), World.cell?_setCell_other _ _ _ _ (addr_ne (by omega))]
  exact ⟨(h.1.setCell (Nat.zero_le _) _).setCell (Nat.zero_le _) _, (ne (o' := 0) l0).trans h.2.1, (ne (o' := 0) l1).trans h.2.2.1, (ne (o' := 0) l2).trans h.2.2.2⟩
theorem RC.fresh (w : World) (T : TypeId) : RC (w.alloc (.cells #[.bool false, .slice none 0 0] T)) w.heap.size := ⟨by simp [go_sem], by simp [go_sem], by simp [go_sem], by simp⟩
theorem RC.alloc {W : World} {X : Obj} {g : Nat} (h : RC W g) : RC (W.alloc X) g := h.below ((Below.refl _ _).alloc (Nat.le_refl _) _)
theorem RC.drewn {W : World} {g : Nat} (h : RC W g) : RC W.drew g := h.below (below_drew' _)
theorem RC.fresh2 (w : World) (X : Obj) (T : TypeId) : RC ((w.alloc X).alloc (.cells #[.bool false, .slice none 0 0] T)) (w.heap.size + 1) := by
  have := RC.fresh (w.alloc X) T
  rwa [show (w.alloc X).heap.size = w.heap.size + 1 by simp] at this
theorem RC.first2 (w : World) (Y : Obj) (T : TypeId) : RC ((w.alloc (.cells #[.bool false, .slice none 0 0] T)).alloc Y) w.heap.size :=
  (RC.fresh w T).below ((Below.refl _ _).alloc (Nat.le_refl _) _)
theorem Below.alloc' {B : Nat} {w0 w : World} {X : Obj} (hB : B ≤ w0.heap.size) (h : Below B w0 w) : Below B w0 (w.alloc X) := h.alloc (Nat.le_trans hB h.size) _
theorem Below.drew' {B : Nat} {w0 w : World} (h : Below B w0 w) : Below B w0 w.drew := h.trans (below_drew' _)
theorem Below.set' {B : Nat} {w0 w : World} {g o : Nat} {u : Value} (hB : B ≤ g) (h : Below B w0 w) : Below B w0 (w.setCell ⟨g, o, none⟩ u) := h.setCell hB _
theorem S_two {w0 W : World} {b0 o0 b1 o1 : Nat} {v0 v1 : Value} (h0 : w0.cell? ⟨b0, o0, none⟩ = some v0) (h1 : w0.cell? ⟨b1, o1, none⟩ = some v1) (h : Below w0.heap.size w0 W) : Below w0.heap.size w0 W ∧ W.cell? ⟨b0, o0, none⟩ = some v0 ∧ W.cell? ⟨b1, o1, none⟩ = some v1 :=
  ⟨h, cell_below h0 h, cell_below h1 h⟩

theorem IntP.set0 {w : World} {s A n c z} {g : Nat} {v : Value} (h : IntP w s A n c z) (hp : ∃ b, w.cell? ⟨g, 0, none⟩ = some (.bool b)) : IntP (w.setCell ⟨g, 0, none⟩ v) s A n c z := by
  obtain ⟨b, hp⟩ := hp; exact h.setCell v hp (by simp)
theorem IntP.set1 {w : World} {s A n c z} {g : Nat} {v : Value} (h : IntP w s A n c z) (hp : ∃ A n c, w.cell? ⟨g, 1, none⟩ = some (.slice A n c)) : IntP (w.setCell ⟨g, 1, none⟩ v) s A n c z := by
  obtain ⟨_, _, _, hp⟩ := hp; exact h.setCell v hp (by simp)
theorem IntP.alloc {W : World} {X : Obj} {s A n c z} (h : IntP W s A n c z) : IntP (W.alloc X) s A n c z := h.below ((Below.refl _ _).alloc (Nat.le_refl _) _)
theorem IntP.drewn {W : World} {s A n c z} (h : IntP W s A n c z) : IntP W.drew s A n c z := h.below (below_drew' _)
/-- Two variables behind the first statement. -/
def MadeR (W : World) (x y : Int) (s3 s4 : Value) (wr : World) : Prop := ∃ b3 b4, s3 = .pointer (some ⟨b3, 0, none⟩) ∧ s4 = .pointer (some ⟨b4, 0, none⟩) ∧ b3 ≠ b4 ∧ W.heap.size ≤ b3 ∧ W.heap.size ≤ b4 ∧ IC wr b3 x ∧ IC wr b4 y ∧ Below W.heap.size W wr

set_option maxRecDepth 100000 in
set_option maxHeartbeats 2000000 in
theorem q_made (n d k : Int) (w : World) (hn0 : -128 ≤ n) (hn1 : n ≤ 127) (hd0 : -128 ≤ d) (hd1 : d ≤ 127) (hk0 : 0 ≤ k) (hk1 : k ≤ 255) :
    Calls Tryz.prog 33 #[.agg #[.int .i8 n, .int .i8 d, .int .u8 k]] w fun e w' => (∃ v, e = .returned v ∧ IsRat w' v (rmade n d k)) ∧ Below w.heap.size w w' := by
  have hOn := fun W => ref_of n W (by omega) (by omega)
  have hOd := fun W => ref_of d W (by omega) (by omega)
  have hO1 := fun W => ref_of 1 W (by omega) (by omega)
  have hOk := fun W => ref_of k W (by omega) (by omega)
  have hOb := Lib.hid (fun W => ref_of (4611686018427387904 + k) W (by omega) (by omega))
  have en : IntKind.i64.wrap n = n := by simp [IntKind.wrap, IntKind.signed, IntKind.bits]; omega
  have ed : IntKind.i64.wrap d = d := by simp [IntKind.wrap, IntKind.signed, IntKind.bits]; omega
  go_enter Tryz.func33, Tryz.ntmps33
  go_wp2_with fail
  generalize hW : World.alloc _ _ = W
  have hBW : Below w.heap.size w W := by rw [← hW]; exact ((Below.refl _ _).alloc (Nat.le_refl _) _).alloc (by simp) _
  have a0 : W.cell? ⟨w.heap.size, 0, none⟩ = some (.int .i8 n) := by rw [← hW]; simp [go_sem]
  have a1 : W.cell? ⟨w.heap.size, 1, none⟩ = some (.int .i8 d) := by rw [← hW]; simp [go_sem]
  have a2 : W.cell? ⟨w.heap.size, 2, none⟩ = some (.int .u8 k) := by rw [← hW]; simp [go_sem]
  have hR : RC4 W (w.heap.size + 1) := by rw [← hW]; exact ⟨by simp [go_sem], by simp [go_sem], by simp [go_sem], by simp [go_sem], by simp [go_sem], by simp⟩
  have hz : W.heap.size ≤ W.heap.size := Nat.le_refl _
  have hz0 : w.heap.size + 1 < W.heap.size := by rw [← hW]; simp
  have hz1 : w.heap.size < W.heap.size := by omega
  clear hW
  go_upto_region 1 with (fail)
  go_cut [3, 4] (fun s3 s4 wr => MadeR W n d s3 s4 wr)
  case first =>
    go_region_held3 (fun w' => Below W.heap.size W w' ∧ w'.cell? ⟨w.heap.size, 0, none⟩ = some (.int .i8 n) ∧ w'.cell? ⟨w.heap.size, 1, none⟩ = some (.int .i8 d))
      (((try dsimp only); refine S_two a0 a1 ?_; repeat' (first | with_reducible assumption | with_reducible exact And.left (by assumption) | with_reducible exact below_drew' _ | with_reducible exact Below.refl _ _ | with_reducible refine Below.alloc' (Nat.le_refl _) ?_ | with_reducible refine Below.drew' ?_ | with_reducible refine Below.set' (by omega) ?_)))
      (first
        | (go_at_call_of 67 n
           refine (hOn _).mono ?_
           rintro e w1 ⟨⟨_, rfl, s1, A1, n1, c1, rfl, hI⟩, h1⟩
           have g1 : Below W.heap.size W _ := And.left (by assumption)
           have g1 := g1.trans (h1.mono g1.size)
           have q1 : W.heap.size ≤ w1.heap.size := g1.size
           try (have ra := RC.below (RC.drewn (RC.fresh W _)) h1; obtain ⟨ra1, ra2, ra3, ra4⟩ := id ra)
           try (have ra := RC.below (RC.drewn (RC.first2 W _ _)) h1; have rb := RC.below (RC.drewn (RC.fresh2 W _ _)) h1; obtain ⟨ra1, ra2, ra3, ra4⟩ := id ra; obtain ⟨rb1, rb2, rb3, rb4⟩ := id rb)
           have S1 : Below W.heap.size W w1 ∧ w1.cell? ⟨w.heap.size, 0, none⟩ = some (.int .i8 n) ∧ w1.cell? ⟨w.heap.size, 1, none⟩ = some (.int .i8 d) := ⟨g1, cell_below a0 g1, cell_below a1 g1⟩)
        | (go_at_call_of 67 d
           refine (hOd _).mono ?_
           rintro e w2 ⟨⟨_, rfl, s2, A2, n2, c2, rfl, hJ⟩, h2⟩
           have g2 : Below W.heap.size W _ := And.left (by assumption)
           have g2 := g2.trans (h2.mono g2.size)
           have q2 : W.heap.size ≤ w2.heap.size := g2.size
           try (have rc := RC.below (RC.fresh w1 _) h2; obtain ⟨rc1, rc2, rc3, rc4⟩ := rc)
           try (have rc := RC.below (RC.fresh2 w1 _ _) h2; obtain ⟨rd1, rd2, rd3, rd4⟩ := rc)
           try (have rc := RC.below (RC.first2 w1 _ _) h2; obtain ⟨re1, re2, re3, re4⟩ := rc)
           try (have re := RC.below ra h2; obtain ⟨rf1, rf2, rf3, rf4⟩ := re)
           try (have re := RC.below (RC.alloc ra) h2; obtain ⟨rg1, rg2, rg3, rg4⟩ := re)
           try (have re := RC.below rb h2; obtain ⟨ri1, ri2, ri3, ri4⟩ := re)
           have hI2 : IntP w2 s1 A1 n1 c1 n := IntP.below (by first | exact hI | exact hI.alloc | exact hI.alloc.alloc) h2
           have S2 : Below W.heap.size W w2 ∧ w2.cell? ⟨w.heap.size, 0, none⟩ = some (.int .i8 n) ∧ w2.cell? ⟨w.heap.size, 1, none⟩ = some (.int .i8 d) := ⟨g2, cell_below a0 g2, cell_below a1 g2⟩))
    all_goals
      clear en ed hOn hOd hO1 hOk hOb
      go_wp2
      go_meet
      refine ⟨_, _, rfl, rfl, by omega, by omega, by omega, ⟨s1, A1, n1, c1, ?_, ?_, ?_, ?_, ?_⟩, ⟨s2, A2, n2, c2, ?_, ?_, ?_, ?_, ?_⟩, ?_⟩
      all_goals first
        | (simp [go_sem, *]; done)
        | (intro o; simp [go_sem, *]; done)
        | (simp [World.setCell]; omega)
        | ((repeat' (first | with_reducible assumption | with_reducible refine IntP.alloc ?_ | with_reducible refine IntP.set1 ?_ ?_ | with_reducible refine IntP.set0 ?_ ?_)); all_goals (simp [go_sem, *]; done))
        | (repeat' (first | with_reducible assumption | with_reducible exact Below.refl _ _ | with_reducible refine Below.alloc' (Nat.le_refl _) ?_ | with_reducible refine Below.set' (by omega) ?_))
  case rest =>
    clear en ed hOn hOd
    obtain ⟨b3, b4, rfl, rfl, hne, hb3, hb4, hX, hY, hB⟩ := hcut
    have k1 := cell_below a1 hB
    obtain ⟨dd, Hdd⟩ : ∃ dd, Hid (dd = if d = 0 then 1 else d) := ⟨_, Lib.hid rfl⟩
    go_upto_if 16 with (fail)
    go_cut [] (fun wr => MadeQ W b3 b4 n dd wr)
    case first =>
      by_cases h0 : d = 0
      · have hd' : ((d : Int) == 0) = true := by simp [h0]
        have E := Lib.hid (show dd = 1 by rw [Hdd.out, if_pos h0])
        clear h0
        go_wp2_with fail
        refine (hO1 _).mono ?_
        rintro e w2 ⟨⟨_, rfl, s2, A2, n2, c2, rfl, hI⟩, hb⟩
        have hX := hX.below hb
        have hY := hY.below hb
        have hB := hB.trans (hb.mono hB.size)
        obtain ⟨s1, A1, n1, c1, y1, y2, y3, y4, y5⟩ := id hY
        go_wp2_with fail
        go_meet
        rw [E.out]
        exact ⟨hX.other hY hne.symm _ _ _ _, hY.put hI, (hB.setCell hb4 _).setCell hb4 _⟩
      · have hd' : ((d : Int) == 0) = false := by simp [h0]
        have E := Lib.hid (show dd = d by rw [Hdd.out, if_neg h0])
        clear h0
        go_wp2_with fail
        go_meet
        rw [E.out]
        exact ⟨hX, hY, hB⟩
    case rest =>
      clear hX hY hB k1
      obtain ⟨hX, hY, hB⟩ := hcut
      have k2 := cell_below a2 hB
      obtain ⟨big, Hbig⟩ : ∃ big : Int, Hid (big = 4611686018427387904 + k) := ⟨_, Lib.hid rfl⟩
      go_wp2_with fail
      refine (hOb.out _).mono ?_
      rw [← Hbig.out]
      rintro e w2 ⟨⟨_, rfl, s2, A2, n2, c2, rfl, hI⟩, hb⟩
      have hX := hX.below hb
      have hY := hY.below hb
      have hB := hB.trans (hb.mono hB.size)
      have k2 := cell_below k2 hb
      go_upto_region 5 with (fail)
      generalize hE : World.alloc _ _ = W5
      have hb5 : Below w2.heap.size w2 W5 := by rw [← hE]; exact (Below.refl _ _).alloc (Nat.le_refl _) _
      have hZ : IC W5 w2.heap.size big := ⟨s2, A2, n2, c2, by rw [← hE]; simp [go_sem], by rw [← hE]; simp [go_sem], fun o => by rw [← hE]; simp [go_sem], by rw [← hE]; simp, hI.below hb5⟩
      clear hE
      have hlt3 : b3 < w2.heap.size := by obtain ⟨_, _, _, _, _, _, _, h, _⟩ := hX; exact h
      have hlt4 : b4 < w2.heap.size := by obtain ⟨_, _, _, _, _, _, _, h, _⟩ := hY; exact h
      have hX := hX.below hb5
      have hY := hY.below hb5
      have hB := hB.trans (hb5.mono hB.size)
      have k2 := cell_below k2 hb5
      generalize w2.heap.size = b5 at *
      clear hb hb5 hI
      have zb : isz big ≤ 10 := isz_small (by have := Hbig.out; omega)
      have zn : isz n ≤ 10 := isz_small (by omega)
      have zd : isz dd ≤ 10 := isz_small (by have := Hdd.out; split at this <;> omega)
      have zk : isz k ≤ 10 := isz_small (by omega)
      have z1 := isz_mul n big
      have z2 := isz_mul (n * big) big
      have z3 := isz_mul dd big
      have z4 := isz_mul (dd * big) big
      have z5 := isz_add (n * big * big) k
      obtain ⟨nn, Hnn⟩ : ∃ nn, Hid (nn = mnum n k) := ⟨_, Lib.hid rfl⟩
      obtain ⟨de, Hde⟩ : ∃ de, Hid (de = mden d k) := ⟨_, Lib.hid rfl⟩
      have hne5 : w.heap.size < b5 := by omega
      go_upto_if 26 with (fail)
      go_cut [] (fun wr => MadeT W b3 b4 b5 nn dd big wr)
      case first =>
        by_cases h7 : k % 8 = 7
        · have h7' : ((k % 8 : Int) == 7) = true := by simp [h7]
          have E := Lib.hid (show nn = n * big * big + k by rw [Hnn.out, Hbig.out]; unfold mnum; rw [if_pos h7])
          clear h7
          obtain ⟨s1, A1, n1, c1, x1, x2, x3, x4, x5⟩ := id hX
          obtain ⟨s5, A5, n5, c5, y1, y2, y3, y4, y5⟩ := id hZ
          have xI := x5.is
          have zI := y5.is
          have hd0 : Below 0 W5 W5.drew := ⟨rfl, rfl, rfl, Nat.le_refl _, fun _ h => absurd h (Nat.not_lt_zero _)⟩
          have ek : IntKind.i64.wrap k = k := by simp [IntKind.wrap, IntKind.signed, IntKind.bits]; omega
          go_wp2_with fail
          go_region_held3 (fun w' => Below 0 W5 w' ∧ w'.cell? ⟨b5, 0, none⟩ = some (.bool s5) ∧ w'.cell? ⟨b5, 1, none⟩ = some (.slice A5 n5 c5) ∧ w'.cell? ⟨w.heap.size, 2, none⟩ = some (.int .u8 k))
            (((try dsimp only); first | with_reducible assumption | with_reducible exact keepD3 (Nat.zero_le _) (by assumption) | with_reducible exact keepC3 (Nat.zero_le _) (by assumption) (by assumption) | with_reducible exact keepP3 (by omega) (by omega) (by omega) (by assumption) | exact ⟨hd0, y1, y2, k2⟩))
            (first
              | (go_at_call_of 79 (Value.agg #[Value.bool s1, Value.slice A1 n1 c1])
                 refine (ref_mul _ _ n big _ (by (repeat' (first | assumption | with_reducible apply IsInt.alloc | with_reducible apply IsInt.drewn)); first | done | fail) (by (repeat' (first | assumption | with_reducible apply IsInt.alloc | with_reducible apply IsInt.drewn)); first | done | fail) (by omega) (by omega)).mono ?_
                 rintro e w6 ⟨⟨v6, rfl, p6⟩, h6⟩
                 have g6 : Below W5.heap.size W5 w6 := by first | exact h6 | exact (below_drew' _).trans h6
                 have zI6 := zI.below g6)
              | (go_at_call_of 79 v6
                 refine (ref_mul v6 _ (n * big) big _ (by (repeat' (first | assumption | with_reducible apply IsInt.alloc | with_reducible apply IsInt.drewn)); first | done | fail) (by (repeat' (first | assumption | with_reducible apply IsInt.alloc | with_reducible apply IsInt.drewn)); first | done | fail) (by omega) (by omega)).mono ?_
                 rintro e w7 ⟨⟨v7, rfl, p7⟩, h7⟩
                 have g7 : Below W5.heap.size W5 w7 := g6.trans (Below.mono (by first | exact h7 | exact (below_drew' _).trans h7) g6.size))
              | (go_at_call 67
                 refine (hOk _).mono ?_
                 rintro e w8 ⟨⟨v8, rfl, p8⟩, h8⟩
                 have p7 : IsInt w8 v7 (n * big * big) := IsInt.below (by (repeat' (first | assumption | with_reducible apply IsInt.alloc | with_reducible apply IsInt.drewn)); first | done | fail) h8
                 have g8 : Below W5.heap.size W5 w8 := g7.trans (Below.mono (by first | exact h8 | exact (below_drew' _).trans h8) g7.size))
              | (go_at_call 78
                 refine (ref_add v7 v8 (n * big * big) k _ (by (repeat' (first | assumption | with_reducible apply IsInt.alloc | with_reducible apply IsInt.drewn)); first | done | fail) (by (repeat' (first | assumption | with_reducible apply IsInt.alloc | with_reducible apply IsInt.drewn)); first | done | fail) (by omega) (by omega)).mono ?_
                 rintro e w9 ⟨⟨_, rfl, s9, A9, n9, c9, rfl, hI9⟩, h9⟩
                 have g9 : Below W5.heap.size W5 w9 := g8.trans (Below.mono (by first | exact h9 | exact (below_drew' _).trans h9) g8.size)
                 have hO9 := hX.below g9
                 obtain ⟨s8, A8, n8, c8, o1, o2, o3, o4, o5⟩ := id hO9))
          all_goals
            go_wp2
            go_meet
            rw [E.out]
            exact ⟨hO9.put hI9, (hY.below g9).other hO9 hne _ _ _ _, (hZ.below g9).other hO9 (by omega) _ _ _ _, ((hB.trans (g9.mono hB.size)).setCell hb3 _).setCell hb3 _⟩
        · have h7' : ((k % 8 : Int) == 7) = false := by simp [h7]
          have E := Lib.hid (show nn = n by rw [Hnn.out]; unfold mnum; rw [if_neg h7])
          clear h7
          go_wp2_with fail
          go_meet
          rw [E.out]
          exact ⟨hX, hY, hZ, hB⟩
      case rest =>
        clear hX hY hB k2 hZ
        obtain ⟨hX, hY, hZ, hB⟩ := hcut
        have k2 := cell_below a2 hB
        go_upto_if 40 with (fail)
        go_cut [] (fun wr => MadeT W b3 b4 b5 nn de big wr)
        case first =>
          by_cases h7 : k % 8 = 6
          · have h7' : ((k % 8 : Int) == 6) = true := by simp [h7]
            have E := Lib.hid (show de = dd * big * big by rw [Hde.out, Hbig.out, Hdd.out]; unfold mden; rw [if_pos h7])
            clear h7
            obtain ⟨s1, A1, n1, c1, x1, x2, x3, x4, x5⟩ := id hY
            obtain ⟨s5, A5, n5, c5, y1, y2, y3, y4, y5⟩ := id hZ
            have xI := x5.is
            have zI := y5.is
            have hd0 : Below 0 wc wc.drew := ⟨rfl, rfl, rfl, Nat.le_refl _, fun _ h => absurd h (Nat.not_lt_zero _)⟩
            go_wp2_with fail
            go_region_held3 (fun w' => Below 0 wc w' ∧ w'.cell? ⟨b5, 0, none⟩ = some (.bool s5) ∧ w'.cell? ⟨b5, 1, none⟩ = some (.slice A5 n5 c5) ∧ w'.cell? ⟨w.heap.size, 2, none⟩ = some (.int .u8 k))
              (((try dsimp only); first | with_reducible assumption | with_reducible exact keepD3 (Nat.zero_le _) (by assumption) | with_reducible exact keepC3 (Nat.zero_le _) (by assumption) (by assumption) | with_reducible exact keepP3 (by omega) (by omega) (by omega) (by assumption) | exact ⟨hd0, y1, y2, k2⟩))
              (first
                | (go_at_call_of 79 (Value.agg #[Value.bool s1, Value.slice A1 n1 c1])
                   refine (ref_mul _ _ dd big _ (by (repeat' (first | assumption | with_reducible apply IsInt.alloc | with_reducible apply IsInt.drewn)); first | done | fail) (by (repeat' (first | assumption | with_reducible apply IsInt.alloc | with_reducible apply IsInt.drewn)); first | done | fail) (by omega) (by omega)).mono ?_
                   rintro e w6 ⟨⟨v6, rfl, p6⟩, h6⟩
                   have g6 : Below wc.heap.size wc w6 := by first | exact h6 | exact (below_drew' _).trans h6
                   have zI6 := zI.below g6)
                | (go_at_call_of 79 v6
                   refine (ref_mul v6 _ (dd * big) big _ (by (repeat' (first | assumption | with_reducible apply IsInt.alloc | with_reducible apply IsInt.drewn)); first | done | fail) (by (repeat' (first | assumption | with_reducible apply IsInt.alloc | with_reducible apply IsInt.drewn)); first | done | fail) (by omega) (by omega)).mono ?_
                   rintro e w7 ⟨⟨_, rfl, s9, A9, n9, c9, rfl, hI9⟩, h7⟩
                   have g7 : Below wc.heap.size wc w7 := g6.trans (Below.mono (by first | exact h7 | exact (below_drew' _).trans h7) g6.size)
                   have hO9 := hY.below g7
                   obtain ⟨s8, A8, n8, c8, o1, o2, o3, o4, o5⟩ := id hO9))
            all_goals
              go_wp2
              go_meet
              rw [E.out]
              exact ⟨(hX.below g7).other hO9 hne.symm _ _ _ _, hO9.put hI9, (hZ.below g7).other hO9 (by omega) _ _ _ _, ((hB.trans (g7.mono hB.size)).setCell hb4 _).setCell hb4 _⟩
          · have h7' : ((k % 8 : Int) == 6) = false := by simp [h7]
            have E := Lib.hid (show de = dd by rw [Hde.out, Hdd.out]; unfold mden; rw [if_neg h7])
            clear h7
            go_wp2_with fail
            go_meet
            rw [E.out]
            exact ⟨hX, hY, hZ, hB⟩
        case rest =>
          clear hX hY hB k2 hZ
          obtain ⟨hX, hY, hZ, hB⟩ := hcut
          have hR := hR.below hB
          obtain ⟨s1, A1, n1, c1, x1, x2, x3, x4, x5⟩ := hX
          obtain ⟨s2, A2, n2, c2, y1, y2, y3, y4, y5⟩ := hY
          have hL := q_lowest _ _ nn de wc x5.is y5.is (by rw [Hnn.out]; have := isz_mnum hn0 hn1 hk0 hk1; omega) (by rw [Hde.out]; have := isz_mden hd0 hd1 hk0 hk1; omega) (by rw [Hde.out]; exact mden_ne hk0)
          have hBW := hBW.trans (hB.mono hBW.size)
          clear z1 z2 z3 z4 z5 zb zn zd zk
          go_wp2_with fail
          refine hL.mono ?_
          rintro e w9 ⟨⟨_, rfl, s3, A3, n3, m3, t3, B3, k3, l3, rfl, hq⟩, h9⟩
          have hBW := hBW.trans (h9.mono hBW.size)
          have hR := hR.below h9
          have hP := rat_put' hBW (by omega) hR hq
          obtain ⟨r0, r1, r2, r3, rf, rl⟩ := hR
          go_wp2
          exact bodyPost_ret (v := .agg #[.bool s3, .slice A3 n3 m3, .bool t3, .slice B3 k3 l3]) (by simp [results, Tryz.results33, go_sem, r0, r1, r2, r3]) rfl ⟨⟨_, rfl, RatP.is (by unfold rmade; rw [← Hnn.out, ← Hde.out]; exact hP.1)⟩, hP.2⟩

end Go.Proofs.YtlklgeidffjidaaGreat

/- A slice that the call builds by append, of elements of k cells that hold no word of a number: what an append leaves as it was. -/
namespace Go.Proofs.YtlklgeidffjidaaGreat
open Go.RowKit
set_option linter.unusedSimpArgs false

/-- No word of a number. -/
def Nw (v : Value) : Prop := ∀ z, v ≠ .int .u32 z
/-- The slice, and all that its block holds. -/
def KRow (k : Nat) (w : World) (B T : Nat) (v : Value) (n : Nat) (xs : List Value) : Prop := xs.length = n * k ∧ ((v = .slice none 0 0 ∧ n = 0) ∨ ∃ g cap cur, v = .slice (some ⟨g, 0, none⟩) n cap ∧ B ≤ g ∧ w.heap[g]? = some (.cells cur T (0, 0)) ∧ n ≤ cap ∧ cap ≤ maxLen ∧ cur.size = cap * k ∧ cur.toList.take (n * k) = xs ∧ ∀ c ∈ cur.toList, Nw c)
theorem KRow.nil (k : Nat) (w : World) (B T : Nat) : KRow k w B T (.slice none 0 0) 0 [] := ⟨by simp, Or.inl ⟨rfl, rfl⟩⟩
theorem KRow.below {k : Nat} {w w' : World} {B T : Nat} {v : Value} {n : Nat} {xs : List Value} (h : KRow k w B T v n xs) (hb : Below w.heap.size w w') : KRow k w' B T v n xs := by
  refine ⟨h.1, ?_⟩
  rcases h.2 with h | ⟨g, cap, cur, h1, h2, h3, h4⟩
  · exact Or.inl h
  · exact Or.inr ⟨g, cap, cur, h1, h2, (hb.block g (Array.getElem?_eq_some_iff.1 h3).1).trans h3, h4⟩
theorem KRow.cell {k : Nat} {w : World} {B T : Nat} {v : Value} {n : Nat} {xs : List Value} (h : KRow k w B T v n xs) {g o : Nat} {u : Value} (hg : v.ownBlock = some g) (hc : w.cell? ⟨g, o, none⟩ = some u) : Nw u := by
  rcases h.2 with ⟨rfl, _⟩ | ⟨g', cap, cur, rfl, h2, h3, h4, h5, h6, h7, h8⟩
  · simp [Value.ownBlock] at hg
  · have e : g' = g := by simpa [Value.ownBlock] using hg
    subst e
    simp only [World.cell?, h3] at hc
    have hc' : cur[o]? = some u := by simpa using hc
    exact h8 u (by rw [Array.mem_toList_iff]; exact Array.mem_of_getElem? hc')
theorem KRow.own {k : Nat} {w : World} {B T : Nat} {v : Value} {n : Nat} {xs : List Value} (h : KRow k w B T v n xs) : ∀ g, v.ownBlock = some g → B ≤ g := by
  intro g hg
  rcases h.2 with ⟨rfl, _⟩ | ⟨g', cap, cur, rfl, h2, _⟩
  · simp [Value.ownBlock] at hg
  · have : g' = g := by simpa [Value.ownBlock] using hg
    omega
theorem Ws.grownK {k : Nat} {w w' : World} {v : Value} {B T n : Nat} {ys : List Value} {A : Option Addr} {xs : List Nat} (h : Ws w A xs) (hr : KRow k w B T v n ys) (hg : w.grownBy w' v.ownBlock) : Ws w' A xs :=
  ⟨h.1, h.2.1, fun hn => by
    obtain ⟨b, off, e, hlt, hc⟩ := h.2.2 hn
    refine ⟨b, off, e, Nat.lt_of_lt_of_le hlt hg.size, fun j hj => ?_⟩
    have hc := hc j hj
    have hne : some b ≠ v.ownBlock := fun e => hr.cell e.symm hc _ rfl
    exact (World.cell?_of_block (hg.block b hlt hne)).trans hc⟩
theorem IntP.grownK {k : Nat} {w w' : World} {v : Value} {B T n : Nat} {ys : List Value} {s A m c z} (h : IntP w s A m c z) (hr : KRow k w B T v n ys) (hg : w.grownBy w' v.ownBlock) : IntP w' s A m c z := ⟨h.1, h.2.1, h.2.2.1.grownK hr hg, h.2.2.2⟩
theorem RatP.grownK {k : Nat} {w w' : World} {v : Value} {B T n : Nat} {ys : List Value} {s A m c t A' m' c' q} (h : RatP w s A m c t A' m' c' q) (hr : KRow k w B T v n ys) (hg : w.grownBy w' v.ownBlock) : RatP w' s A m c t A' m' c' q := ⟨h.1.grownK hr hg, h.2.grownK hr hg⟩
theorem KRow.belowB {k : Nat} {w w' : World} {v : Value} {B T n : Nat} {ys : List Value} (hr : KRow k w B T v n ys) (hg : w.grownBy w' v.ownBlock) (hB : B ≤ w.heap.size) : Below B w w' := (Below.refl B w).grown hg hB hr.own

/-- append of m elements. -/
theorem run_append_k {P : Program} (k : Nat) (w : World) (B : Nat) (t e : TypeId) (i : TypeInfo) (z : Value) (ht : P.underlying t = some (.slice e)) (hi : P.info? e = some i) (hz : i.zero = some z) (hsize : i.size = k) (hk0 : 0 < k) (hby : i.bytes ≤ 400) (hzs : z.cells.size = k) (hzc : ∀ c ∈ z.cells.toList, Nw c)
    (v : Value) (n : Nat) (xs : List Value) (hown : KRow k w B e v n xs) (hB : B ≤ w.heap.size) (a : Addr) (m c : Nat) (news : List Value) (hl : news.length = m * k) (hnews : ∀ j u, news[j]? = some u → w.cell? (a.add j) = some u) (h1 : ∀ u ∈ news, u.oneCell' = true) (hcl : ∀ u ∈ news, Nw u) (hn : (n + m) * i.bytes ≤ 140737488355328) (hn' : n + m ≤ 140737488355328) :
    ∃ v' w', (∀ ty, (Builtin.append_ #[t, t] ty #[v, .slice (some a) m c]).run P w = .ok v' w') ∧ KRow k w' B e v' (n + m) (xs ++ news) ∧ w.grownBy w' v.ownBlock := by
  have hzero : ∀ j, ∀ c ∈ (Builtin.zeroCells z.cells j).toList, Nw c := by
    intro j c hc
    simp only [Builtin.zeroCells, Array.toList_map, List.mem_map] at hc
    obtain ⟨j, hj, rfl⟩ := hc
    have hlt : j % z.cells.size < z.cells.size := Nat.mod_lt _ (by omega)
    rw [getElem!_pos z.cells _ hlt]
    exact hzc _ (by rw [Array.mem_toList_iff]; exact Array.getElem_mem hlt)
  have hlen : (xs ++ news).length = (n + m) * k := by rw [List.length_append, hown.1, hl, Nat.add_mul]
  have hmax : n + m ≤ maxLen := by simp only [maxLen]; omega
  have hclx : ∀ c ∈ xs, Nw c := by
    rcases hown.2 with ⟨_, h0⟩ | ⟨g, cap, cur, _, _, _, _, _, _, h7, h8⟩
    · have : xs = [] := List.eq_nil_of_length_eq_zero (by rw [hown.1, h0, Nat.zero_mul])
      rw [this]; intro c hc; cases hc
    · rw [← h7]; intro c hc; exact h8 c (List.mem_of_mem_take hc)
  have grown : ∀ (old : Nat), old < n + m → ∀ (row : Option Nat),
      KRow k (w.drew.alloc (.cells (xs.toArray ++ news.toArray ++ Builtin.zeroCells z.cells (grownCap w (n + m) old e - (n + m))) e)) B e (.slice (some ⟨w.heap.size, 0, none⟩) (n + m) (grownCap w (n + m) old e)) (n + m) (xs ++ news) ∧
      w.grownBy (w.drew.alloc (.cells (xs.toArray ++ news.toArray ++ Builtin.zeroCells z.cells (grownCap w (n + m) old e - (n + m))) e)) row := by
    intro old ho row
    have hge := grownCap_ge w (n + m) old e
    have hcm : grownCap w (n + m) old e ≤ maxLen := grownCap_le_maxLen w (n + m) old e hmax
    refine ⟨⟨hlen, .inr ⟨w.heap.size, _, _, rfl, hB, heap_alloc_new w.drew _, hge, hcm, ?_, ?_, ?_⟩⟩, ⟨rfl, rfl, rfl, by simp, fun k hk _ => Below.heap_alloc w.drew _ k hk⟩⟩
    · simp only [Array.size_append, List.size_toArray, size_zeroCells, hzs, hown.1, hl, ← Nat.add_mul]
      congr 1
      omega
    · simp only [Array.toList_append, List.append_assoc]
      rw [← List.append_assoc, ← hlen]
      exact List.take_left
    · intro c hc
      simp only [Array.toList_append, List.mem_append] at hc
      rcases hc with (hc | hc) | hc
      · exact hclx c (by simpa using hc)
      · exact hcl c (by simpa using hc)
      · exact hzero _ c hc
  subst hsize
  rcases hown.2 with ⟨rfl, rfl⟩ | ⟨g, cap, cur, rfl, hbg, hg, hnc, hcm, hcs, htake, hcc⟩
  · have hx : xs = [] := List.eq_nil_of_length_eq_zero (by simpa using hown.1)
    subst hx
    by_cases hm : m = 0
    · subst hm
      have hn : news = [] := List.eq_nil_of_length_eq_zero (by simpa using hl)
      subst hn
      refine ⟨.slice none 0 0, w, fun ty => ?_, KRow.nil _ w B e, ⟨rfl, rfl, rfl, Nat.le_refl _, fun _ _ _ => rfl⟩⟩
      simp [Builtin.append_, run_underlying ht, sizeOf, typeInfo, hi, Builtin.lenOf, Builtin.firstCells, loadCells, loadCellsFrom]
    · have hr := fun ty => run_append_nil (P := P) w t ty e i z ht hi hz a m c news hl hnews (by omega) (by omega) (by simp only [Nat.zero_add] at hn; omega)
      have hgr := grown 0 (by omega) (Value.ownBlock (.slice none 0 0))
      simp only [Nat.zero_add, List.nil_append, Array.empty_append] at hgr ⊢
      exact ⟨_, _, hr, hgr.1, hgr.2⟩
  · by_cases hroom : n + m ≤ cap
    · have hfit : n * i.size + news.length ≤ cur.size := by rw [hl, hcs, ← Nat.add_mul]; exact Nat.mul_le_mul_right _ hroom
      have hr := fun ty => run_append_room (P := P) w t ty e i ht hi g n cap cur hg a m c news hl hnews h1 hroom hfit
      refine ⟨_, _, hr, ⟨hlen, .inr ⟨g, cap, _, rfl, hbg, setRow_heap w g cur _ e _ hg, hroom, hcm, ?_, ?_, ?_⟩⟩, ⟨rfl, rfl, rfl, by simp, fun k _ hk => setRow_other w g k _ (fun e => hk (by simp [Value.ownBlock, e]))⟩⟩
      · simp only [List.size_toArray, List.length_append, List.length_take, List.length_drop, Array.length_toList]
        omega
      · rw [htake, ← hlen]
        exact List.take_left
      · intro c hc
        simp only [List.mem_append] at hc
        rcases hc with (hc | hc) | hc
        · exact hcc c (List.mem_of_mem_take hc)
        · exact hcl c hc
        · exact hcc c (List.mem_of_mem_drop hc)
    · have holds : ∀ j u, xs[j]? = some u → w.cell? ((⟨g, 0, none⟩ : Addr).add j) = some u := by
        intro j u hj
        rw [addr_add, Nat.zero_add]
        have hjl : j < n * i.size := by rw [← hown.1]; exact (List.getElem?_eq_some_iff.1 hj).1
        rw [← htake, List.getElem?_take_of_lt hjl, Array.getElem?_toList] at hj
        simp [World.cell?, hg, hj]
      have hr := fun ty => run_append_grow (P := P) w t ty e i z ht hi hz ⟨g, 0, none⟩ n cap xs hown.1 holds a m c news hl hnews (by omega) (by omega) (growslice_fits (by omega) hn)
      have hgr := grown cap (by omega) (Value.ownBlock (.slice (some ⟨g, 0, none⟩) n cap))
      exact ⟨_, _, hr, hgr.1, hgr.2⟩
/-- append of nothing out of a slice that has no block. -/
theorem run_append_none {P : Program} (w : World) (t e : TypeId) (i : TypeInfo) (ht : P.underlying t = some (.slice e)) (hi : P.info? e = some i) (g : Nat) (n cap d : Nat) (hn : n ≤ cap) :
    ∀ ty, (Builtin.append_ #[t, t] ty #[.slice (some ⟨g, 0, none⟩) n cap, .slice none 0 d]).run P w = .ok (.slice (some ⟨g, 0, none⟩) n cap) w := by
  intro ty
  simp [Builtin.append_, run_underlying ht, sizeOf, typeInfo, hi, Builtin.lenOf, Builtin.firstCells, loadCells, loadCellsFrom, hn, storeCells]

theorem wpList_append_runs {P : Program} {w : World} {ops : Array Oper} {rest : List Oper} {o : Oper} {a : Act} {Q : Exit → Act → World → Prop} (hgd : o.guard = none) (s x : Operand) (t : TypeId)
    (ho : o.op = .call { callee := .builtin .append, args := #[s, x], argTypes := #[t, t] }) (v u : Value) (hs : a.eval s = v) (hx : a.eval x = u) {v' : Value} {w' : World}
    (hr : ∀ ty, (Builtin.append_ #[t, t] ty #[v, u]).run P w = .ok v' w') (h : wpList P ops Q rest (a.put o.dst v') w') : wpList P ops Q (o :: rest) a w :=
  wpList_plain hgd fun _ hK => by
    unfold Oper.wp execOp
    simp only [ho, resolve, invoke, builtin, Sem.run_bind, Sem.run_pure, Result.andThen_ok, List.map_toArray, List.map_cons, List.map_nil, hs, hx, hr]
    exact hK _ _ h

/-- A polynomial that the call builds by append. -/
def IsRow (B : Nat) (w : World) (v : Value) (p : List Rat) : Prop := ∃ cs, CellsOf w cs p ∧ KRow 4 w B 31 v p.length cs
theorem CellsOf.below {w w' : World} {cs : List Value} {p : List Rat} (h : CellsOf w cs p) (hb : Below w.heap.size w w') : CellsOf w' cs p := by
  refine ⟨h.1, h.2.1, h.2.2.1, fun j hj => ?_⟩
  obtain ⟨s, A, n, c, t, B, m, d, h1, h2, h3, h4, h5⟩ := h.2.2.2 j hj
  exact ⟨s, A, n, c, t, B, m, d, h1, h2, h3, h4, h5.below hb⟩
theorem CellsOf.grownK {k : Nat} {w w' : World} {v : Value} {B T n : Nat} {ys cs : List Value} {p : List Rat} (h : CellsOf w cs p) (hr : KRow k w B T v n ys) (hg : w.grownBy w' v.ownBlock) : CellsOf w' cs p := by
  refine ⟨h.1, h.2.1, h.2.2.1, fun j hj => ?_⟩
  obtain ⟨s, A, n, c, t, B, m, d, h1, h2, h3, h4, h5⟩ := h.2.2.2 j hj
  exact ⟨s, A, n, c, t, B, m, d, h1, h2, h3, h4, h5.grownK hr hg⟩
theorem IsRow.below {B : Nat} {w w' : World} {v : Value} {p : List Rat} (h : IsRow B w v p) (hb : Below w.heap.size w w') : IsRow B w' v p := by
  obtain ⟨cs, h1, h2⟩ := h; exact ⟨cs, h1.below hb, h2.below hb⟩
theorem CellsOf.nil (w : World) : CellsOf w [] [] := ⟨rfl, by simp, by simp, by simp⟩
theorem IsRow.nil (B : Nat) (w : World) : IsRow B w (.slice none 0 0) [] := ⟨[], CellsOf.nil w, KRow.nil _ _ _ _⟩
theorem IsRow.empty {B : Nat} (w : World) (hB : B ≤ w.heap.size) : IsRow B (w.alloc (.cells #[] 31)) (.slice (some ⟨w.heap.size, 0, none⟩) 0 0) [] :=
  ⟨[], CellsOf.nil _, by simp, Or.inr ⟨w.heap.size, 0, #[], rfl, hB, heap_alloc_new w _, Nat.le_refl _, Nat.zero_le _, rfl, rfl, by simp⟩⟩
theorem CellsOf.one {w : World} {s A n c t B m d q} (h : RatP w s A n c t B m d q) : CellsOf w [.bool s, .slice A n c, .bool t, .slice B m d] [q] := by
  refine ⟨rfl, ?_, ?_, ?_⟩
  · intro v hv
    simp only [List.mem_cons, List.not_mem_nil, or_false] at hv
    rcases hv with rfl | rfl | rfl | rfl <;> rfl
  · intro v hv
    simp only [List.mem_cons, List.not_mem_nil, or_false] at hv
    rcases hv with rfl | rfl | rfl | rfl <;> intro k z <;> simp
  · intro j hj
    have : j = 0 := by simpa using hj
    subst this
    exact ⟨s, A, n, c, t, B, m, d, rfl, rfl, rfl, rfl, h⟩
theorem CellsOf.append {w : World} {cs ds : List Value} {p r : List Rat} (h : CellsOf w cs p) (k : CellsOf w ds r) : CellsOf w (cs ++ ds) (p ++ r) := by
  refine ⟨by rw [List.length_append, h.1, k.1, List.length_append, Nat.add_mul], ?_, ?_, fun j hj => ?_⟩
  · intro v hv
    rcases List.mem_append.1 hv with hv | hv
    · exact h.2.1 v hv
    · exact k.2.1 v hv
  · intro v hv
    rcases List.mem_append.1 hv with hv | hv
    · exact h.2.2.1 v hv
    · exact k.2.2.1 v hv
  · have hl := h.1
    rw [List.length_append] at hj
    by_cases hjl : j < p.length
    · obtain ⟨s, A, n, c, t, B, m, d, h1, h2, h3, h4, h5⟩ := h.2.2.2 j hjl
      refine ⟨s, A, n, c, t, B, m, d, ?_, ?_, ?_, ?_, ?_⟩
      · rw [List.getElem?_append_left (by omega)]; exact h1
      · rw [List.getElem?_append_left (by omega)]; exact h2
      · rw [List.getElem?_append_left (by omega)]; exact h3
      · rw [List.getElem?_append_left (by omega)]; exact h4
      · rw [List.getD_eq_getElem?_getD, List.getElem?_append_left hjl, ← List.getD_eq_getElem?_getD]; exact h5
    · obtain ⟨s, A, n, c, t, B, m, d, h1, h2, h3, h4, h5⟩ := k.2.2.2 (j - p.length) (by omega)
      have e : ∀ o, j * 4 + o - cs.length = (j - p.length) * 4 + o := fun o => by omega
      refine ⟨s, A, n, c, t, B, m, d, ?_, ?_, ?_, ?_, ?_⟩
      · rw [List.getElem?_append_right (by omega)]; have := e 0; simp only [Nat.add_zero] at this; rw [this]; exact h1
      · rw [List.getElem?_append_right (by omega), e]; exact h2
      · rw [List.getElem?_append_right (by omega), e]; exact h3
      · rw [List.getElem?_append_right (by omega), e]; exact h4
      · rw [List.getD_eq_getElem?_getD, List.getElem?_append_right (by omega), ← List.getD_eq_getElem?_getD]; exact h5
theorem CellsOf.nw {w : World} {cs : List Value} {p : List Rat} (h : CellsOf w cs p) : ∀ u ∈ cs, Nw u := fun u hu z => h.2.2.1 u hu _ _
/-- The row as a polynomial. -/
theorem IsRow.isnew {B : Nat} {w : World} {v : Value} {p : List Rat} (h : IsRow B w v p) : IsNew B w v p := by
  obtain ⟨cs, hc, hl, h⟩ := h
  rcases h with ⟨rfl, h0⟩ | ⟨g, cap, cur, rfl, h2, h3, h4, h5, h6, h7, h8⟩
  · have : p = [] := List.eq_nil_of_length_eq_zero h0
    subst this
    exact ⟨none, 0, rfl, PolyAt.nil _ _, Nat.le_refl _, fun a ha => by cases ha⟩
  · refine ⟨_, cap, rfl, fun j hj => ⟨g, 0, rfl, ?_⟩, h4, fun a ha _ => by cases ha; exact ⟨h2, rfl⟩⟩
    obtain ⟨s, A, n, c, t, B', m, d, k1, k2, k3, k4, k5⟩ := hc.2.2.2 j hj
    have hcl := hc.1
    have hcell : ∀ i u, cs[i]? = some u → w.cell? ⟨g, i, none⟩ = some u := by
      intro i u hi
      have hil : i < p.length * 4 := by rw [← hcl]; exact (List.getElem?_eq_some_iff.1 hi).1
      rw [← h7, List.getElem?_take_of_lt hil, Array.getElem?_toList] at hi
      simp [World.cell?, h3, hi]
    rw [Nat.zero_add]
    exact ⟨s, A, n, c, t, B', m, d, hcell _ _ k1, hcell _ _ k2, hcell _ _ k3, hcell _ _ k4, k5⟩
theorem IsRow.poly {B : Nat} {w : World} {v : Value} {p : List Rat} (h : IsRow B w v p) : IsPoly w v p := h.isnew.poly
/-- The row's form. -/
theorem IsRow.form {B : Nat} {w : World} {v : Value} {p : List Rat} (h : IsRow B w v p) : ∃ A c, v = .slice A p.length c ∧ p.length ≤ c := by
  obtain ⟨A, c, e, _, h, _⟩ := h.isnew; exact ⟨A, c, e, h⟩
/-- More coefficients. -/
theorem IsRow.appendK {B : Nat} {w : World} {v : Value} {p r : List Rat} (h : IsRow B w v p) (hB : B ≤ w.heap.size) {b off c : Nat} {ds : List Value} (hd : CellsOf w ds r) (hds : ∀ j u, ds[j]? = some u → w.cell? ⟨b, off + j, none⟩ = some u) (t : TypeId) (ht : Tryz.prog.underlying t = some (.slice 31)) (hl : p.length + r.length ≤ 1000000000) :
    ∃ v' w', (∀ ty, (Builtin.append_ #[t, t] ty #[v, .slice (some ⟨b, off, none⟩) r.length c]).run Tryz.prog w = .ok v' w') ∧ IsRow B w' v' (p ++ r) ∧ Below B w w' ∧ (∀ s A n c t A' n' c' q, RatP w s A n c t A' n' c' q → RatP w' s A n c t A' n' c' q) := by
  obtain ⟨cs, hcs, hrow⟩ := h
  obtain ⟨i, hi, hzz⟩ := Option.map_eq_some_iff.1 info_rat
  simp only [Prod.mk.injEq] at hzz
  obtain ⟨hz, hs, hby⟩ := hzz
  obtain ⟨v', w', hr, hrow', hg⟩ := run_append_k (P := Tryz.prog) 4 w B t _ i _ ht hi hz hs (by omega) (by omega) rfl (by
      intro u hu
      have hu : u ∈ [Value.bool false, .slice none 0 0, .bool false, .slice none 0 0] := hu
      simp only [List.mem_cons, List.not_mem_nil, or_false] at hu
      rcases hu with rfl | rfl | rfl | rfl <;> intro z <;> simp) v p.length cs hrow hB ⟨b, off, none⟩ r.length c ds hd.1 (fun j u hj => by rw [addr_add]; exact hds j u hj) hd.2.1 hd.nw (by rw [hby]; omega) (by omega)
  refine ⟨v', w', hr, ⟨cs ++ ds, (hcs.append hd).grownK hrow hg, by simpa using hrow'⟩, hrow.belowB hg hB, fun s A n c t A' n' c' q h => h.grownK hrow hg⟩
theorem IsRow.push {B : Nat} {w : World} {v : Value} {p : List Rat} (h : IsRow B w v p) (hB : B ≤ w.heap.size) {b off c : Nat} {s A n c' t A' n' d' q} (hq : RatP w s A n c' t A' n' d' q) (c0 : w.cell? ⟨b, off, none⟩ = some (.bool s)) (c1 : w.cell? ⟨b, off + 1, none⟩ = some (.slice A n c')) (c2 : w.cell? ⟨b, off + 2, none⟩ = some (.bool t)) (c3 : w.cell? ⟨b, off + 3, none⟩ = some (.slice A' n' d'))
    (T : TypeId) (ht : Tryz.prog.underlying T = some (.slice 31)) (hl : p.length + 1 ≤ 1000000000) :
    ∃ v' w', (∀ ty, (Builtin.append_ #[T, T] ty #[v, .slice (some ⟨b, off, none⟩) 1 c]).run Tryz.prog w = .ok v' w') ∧ IsRow B w' v' (p ++ [q]) ∧ Below B w w' := by
  obtain ⟨v', w', h1, h2, h3, _⟩ := h.appendK (r := [q]) (c := c) hB (CellsOf.one hq) (fun j u hj => by
    match j, hj with
    | 0, hj => simp at hj; subst hj; exact c0
    | 1, hj => simp at hj; subst hj; exact c1
    | 2, hj => simp at hj; subst hj; exact c2
    | 3, hj => simp at hj; subst hj; exact c3
    | j + 4, hj => simp at hj) T ht (by simpa using hl)
  exact ⟨v', w', h1, h2, h3⟩

end Go.Proofs.YtlklgeidffjidaaGreat

/- Walks of the reference: trim, at, Lead, Constant (eliminantref07). -/
namespace Go.Proofs.YtlklgeidffjidaaGreat
open Go.RowKit
set_option linter.unusedSimpArgs false

theorem q_sign' (u : Value) (a : Rat) (w : World) (hu : IsRat w u a) : Calls Tryz.prog 53 #[u] w fun e w' => e = .returned (.int .i64 (cmpI a.num 0)) ∧ Below w.heap.size w w' := q_sign u a w hu

set_option maxHeartbeats 2000000 in
theorem p_trim (A : Option Addr) (n c : Nat) (p : List Rat) (w : World) (hA : PolyAt w A p) (hn : n = p.length) (hc : n ≤ c) (hl : n ≤ 1099511627776) :
    Calls Tryz.prog 60 #[.slice A n c] w fun e w' => e = .returned (.slice A (ptrim p).length c) ∧ Below w.heap.size w w' := by
  have HT : ∀ m, m ≤ n → (∀ j, m ≤ j → j < n → p.getD j 0 = 0) → (∀ k, m = k + 1 → p.getD k 0 ≠ 0) → Hid ((ptrim p).length = m) := by
    intro m hm h1 h2
    refine Lib.hid ?_
    rw [← ptrim_take m (by omega) (fun k a b => h1 k a (by omega)) h2, List.length_take]; omega
  have Hn := Lib.hid hn
  have hb0 : Below w.heap.size w w := Below.refl _ _
  generalize hN : (ptrim p).length = N at *
  clear hn hN
  go_enter Tryz.func60, Tryz.ntmps60
  go_wp2_with fail
  go_loopg [3] n (fun k s3 wr => s3 = .int .i64 (k : Int) ∧ k ≤ n ∧ (∀ j, k ≤ j → j < n → p.getD j 0 = 0) ∧ Below w.heap.size w wr)
  case atStart => exact ⟨rfl, Nat.le_refl _, fun j a b => by omega, hb0⟩
  case round =>
    obtain ⟨rfl, hk, hz, hBW⟩ := hrel
    by_cases h0 : gk = 0
    · subst h0
      have hT := HT 0 (Nat.zero_le _) hz (fun k h => by omega)
      clear HT
      go_wp2_with fail
      go_ret
      exact ⟨by rw [hT.out]; rfl, hBW⟩
    · obtain ⟨b, off, rfl, h⟩ := (hA.below hBW) (gk - 1) (by rw [← Hn.out]; omega)
      have h0' : 0 < gk := Nat.pos_of_ne_zero h0
      have hkc : gk ≤ c := Nat.le_trans hk hc
      obtain ⟨k, rfl⟩ : ∃ k, gk = k + 1 := ⟨gk - 1, by omega⟩
      rw [Nat.add_sub_cancel] at h
      have hlt := h.lt
      obtain ⟨s, A, n', c', t, B, m, d, h1, h2, h3, h4, h5⟩ := h
      have hS := q_sign _ _ wr h5.is
      clear h5 h0 h0'
      go_wp2_with fail
      refine hS.mono ?_
      rintro e w1 ⟨rfl, hb⟩
      have hBW := hBW.trans (hb.mono hBW.size)
      by_cases hq : p.getD k 0 = 0
      · have hcc : ((cmpI (p.getD k 0).num 0) == 0) = true := by rw [beq_iff_eq]; exact cmpI_num.2 hq
        generalize cmpI (p.getD k 0).num 0 = cc at *
        have Hq := Lib.hid hq
        clear hq
        go_wp2_with fail
        go_roundg k
        case measure => omega
        case rel => exact ⟨by first | rfl | simp, by omega, fun j a b => by
          by_cases hj : j = k
          · rw [hj]; exact Hq.out
          · exact hz j (by omega) b, hBW⟩
      · have hcc : ((cmpI (p.getD k 0).num 0) == 0) = false := by
          rw [beq_eq_false_iff_ne]; exact fun h => hq (cmpI_num.1 h)
        have hT := HT (k + 1) hk hz (fun j h => by rw [show j = k by omega]; exact hq)
        generalize cmpI (p.getD k 0).num 0 = cc at *
        clear HT hq
        go_wp2_with fail
        go_ret
        exact ⟨by rw [hT.out]; rfl, hBW⟩

theorem p_trim_new (B : Nat) (v : Value) (p : List Rat) (w : World) (h : IsNew B w v p) (hl : p.length ≤ 1099511627776) :
    Calls Tryz.prog 60 #[v] w fun e w' => (∃ v, e = .returned v ∧ IsNew B w' v (ptrim p)) ∧ Below w.heap.size w w' := by
  obtain ⟨A, c, rfl, hA, hc, hB⟩ := h
  refine (p_trim A _ c p w hA rfl hc hl).mono ?_
  rintro e w1 ⟨rfl, hb⟩
  refine ⟨⟨_, rfl, A, c, rfl, ?_, Nat.le_trans (ptrim_length_le p) hc, fun a ha hp => hB a ha (fun e => hp (by rw [e]; rfl))⟩, hb⟩
  have := (hA.below hb).take (ptrim p).length
  have hk : p.take (ptrim p).length = ptrim p := ptrim_self p
  rwa [hk] at this

set_option maxHeartbeats 1000000 in
theorem p_lead (v : Value) (p : List Rat) (w : World) (hv : IsPoly w v p) (hp : p ≠ []) (hl : p.length ≤ 1099511627776) :
    Calls Tryz.prog 82 #[v] w fun e w' => (∃ v, e = .returned v ∧ IsRat w' v (plead p)) ∧ Below w.heap.size w w' := by
  obtain ⟨A, k, rfl, hA, hk⟩ := hv
  have h0 : 0 < p.length := List.length_pos_iff.2 hp
  obtain ⟨b, off, rfl, h⟩ := hA (p.length - 1) (by omega)
  have hlt := h.lt
  obtain ⟨s, A, n, c, t, B, m, d, h1, h2, h3, h4, h5⟩ := h
  have e : p.getD (p.length - 1) 0 = plead p := rfl
  rw [e] at h5
  generalize plead p = q at *
  clear hA hp e
  generalize p.length = N at *
  go_enter Tryz.func82, Tryz.ntmps82
  go_wp2
  exact bodyPost_ret (v := .agg #[.bool s, .slice A n c, .bool t, .slice B m d]) (by simp [results, Tryz.results82, go_sem]) rfl ⟨⟨_, rfl, RatP.is (h5.below (below_alloc _ _))⟩, below_alloc _ _⟩

set_option maxHeartbeats 1000000 in
theorem p_at (v : Value) (p : List Rat) (i : Nat) (z : Int) (w : World) (hv : IsPoly w v p) (hz : z = (i : Int)) (hi : i ≤ 1099511627776) (hl : p.length ≤ 1099511627776) :
    Calls Tryz.prog 86 #[v, .int .i64 z] w fun e w' => (∃ v, e = .returned v ∧ IsRat w' v (p.getD i 0)) ∧ Below w.heap.size w w' := by
  subst hz
  obtain ⟨A, k, rfl, hA, hk⟩ := hv
  by_cases h : i < p.length
  · obtain ⟨b, off, rfl, h'⟩ := hA i h
    have hlt := h'.lt
    obtain ⟨s, A, n, c, t, B, m, d, h1, h2, h3, h4, h5⟩ := h'
    generalize p.getD i 0 = q at *
    clear hA
    generalize p.length = N at *
    go_enter Tryz.func86, Tryz.ntmps86
    go_wp2
    exact bodyPost_ret (v := .agg #[.bool s, .slice A n c, .bool t, .slice B m d]) (by simp [results, Tryz.results86, go_sem]) rfl ⟨⟨_, rfl, RatP.is (h5.below (below_alloc _ _))⟩, below_alloc _ _⟩
  · have hq : p.getD i 0 = 0 := getD_past p (by omega)
    rw [hq]
    have hW := fun W => q_whole 0 W (by omega) (by omega)
    have e : ((0 : Int) : Rat) = 0 := rfl
    rw [e] at hW
    generalize (0 : Rat) = q at *
    clear hA hq e
    generalize p.length = N at *
    go_enter Tryz.func86, Tryz.ntmps86
    go_wp2_with fail
    generalize hE : World.alloc _ _ = W
    have hBW : Below w.heap.size w W := by rw [← hE]; exact below_alloc _ _
    have hR : RC4 W w.heap.size := by rw [← hE]; exact ⟨by simp [go_sem], by simp [go_sem], by simp [go_sem], by simp [go_sem], by simp [go_sem], by simp⟩
    clear hE
    refine (hW _).mono ?_
    rintro e w1 ⟨⟨_, rfl, s3, A3, n3, m3, t3, B3, k3, l3, rfl, hq⟩, hb⟩
    have hBW := hBW.trans (hb.mono hBW.size)
    have hR := hR.below hb
    have hP := rat_put' hBW (by omega) hR hq
    obtain ⟨r0, r1, r2, r3, rf, rl⟩ := hR
    go_wp2
    exact bodyPost_ret (v := .agg #[.bool s3, .slice A3 n3 m3, .bool t3, .slice B3 k3 l3]) (by simp [results, Tryz.results86, go_sem, r0, r1, r2, r3]) rfl ⟨⟨_, rfl, RatP.is hP.1⟩, hP.2⟩

set_option maxHeartbeats 1000000 in
theorem p_constant (u : Value) (x : Rat) (w : World) (hu : IsRat w u x) :
    Calls Tryz.prog 51 #[u] w fun e w' => (∃ v, e = .returned v ∧ IsNew w.heap.size w' v (pcon x)) ∧ Below w.heap.size w w' := by
  obtain ⟨s, A, n, c, t, B, m, d, rfl, hx⟩ := hu
  go_enter Tryz.func51, Tryz.ntmps51
  go_wp2_with fail
  generalize hE : World.alloc (World.alloc _ _) _ = W
  have hBW : Below w.heap.size w W := by rw [← hE]; exact (below_alloc _ _).alloc (by simp) _
  have hP : PolyAt W (some ⟨w.heap.size + 1, 0, none⟩) [x] := by
    have hx' := hx.below hBW
    refine polyAt_one ?_ ?_ ?_ ?_ hx'
    all_goals (rw [← hE]; simp [go_sem])
  clear hE
  refine (p_trim_new w.heap.size _ [x] W ⟨_, 1, rfl, hP, Nat.le_refl _, fun a ha _ => by cases ha; exact ⟨Nat.le_succ _, rfl⟩⟩ (by simp)).mono ?_
  rintro e w1 ⟨⟨v, rfl, hv⟩, hb⟩
  go_wp2
  go_ret
  exact ⟨⟨_, rfl, hv⟩, hBW.trans (hb.mono hBW.size)⟩

end Go.Proofs.YtlklgeidffjidaaGreat

/- Walks of the reference: shift, Add, Scale, Sub (eliminantref07). -/
namespace Go.Proofs.YtlklgeidffjidaaGreat
open Go.RowKit
set_option linter.unusedSimpArgs false

theorem ptrim_coef {l m : List Rat} (h : ∀ i, l.getD i 0 = m.getD i 0) : ptrim l = ptrim m :=
  (ptrim_PC l).ext_coef (ptrim_PC m) (fun i => by rw [ptrim_getD, ptrim_getD, h])
theorem getD_push (l : List Rat) (q : Rat) (i : Nat) : (l ++ [q]).getD i 0 = if i < l.length then l.getD i 0 else if i = l.length then q else 0 := by
  rw [List.getD_eq_getElem?_getD, List.getD_eq_getElem?_getD]
  split
  · rw [List.getElem?_append_left (by assumption)]
  · split
    · subst_vars; simp
    · rw [List.getElem?_eq_none (by simp; omega)]; rfl
/-- The first coefficients of a sum. -/
def sumk (p q : List Rat) (k : Nat) : List Rat := (List.range k).map (fun i => p.getD i 0 + q.getD i 0)
theorem sumk_succ (p q : List Rat) (k : Nat) : sumk p q (k + 1) = sumk p q k ++ [p.getD k 0 + q.getD k 0] := by simp [sumk, List.range_succ]
theorem sumk_length (p q : List Rat) (k : Nat) : (sumk p q k).length = k := by simp [sumk]
theorem sumk_getD (p q : List Rat) (k i : Nat) : (sumk p q k).getD i 0 = if i < k then p.getD i 0 + q.getD i 0 else 0 := by
  unfold sumk
  rw [List.getD_eq_getElem?_getD]
  split
  · rw [List.getElem?_eq_getElem (by simpa using ‹_›)]; simp
  · rw [List.getElem?_eq_none (by simp; omega)]; rfl
theorem sumk_all (p q : List Rat) : ptrim (sumk p q (max p.length q.length)) = padd p q := by
  unfold padd
  refine ptrim_coef (fun i => ?_)
  rw [sumk_getD, zadd_getD]
  split
  · rfl
  · rw [getD_past p (by omega), getD_past q (by omega), Rat.add_zero]

theorem IsRow.single {B : Nat} {w : World} {s A n c t A' m d q} (hB : B ≤ w.heap.size) (h : RatP w s A n c t A' m d q) : IsRow B (w.alloc (.cells #[.bool s, .slice A n c, .bool t, .slice A' m d] 31)) (.slice (some ⟨w.heap.size, 0, none⟩) 1 1) [q] := by
  refine ⟨_, CellsOf.one (h.below (below_alloc _ _)), rfl, Or.inr ⟨w.heap.size, 1, _, rfl, hB, heap_alloc_new w _, Nat.le_refl _, by simp [maxLen], rfl, rfl, ?_⟩⟩
  intro u hu
  simp only [List.mem_cons, List.not_mem_nil, or_false] at hu
  rcases hu with rfl | rfl | rfl | rfl <;> intro z <;> simp
/-- append of nothing. -/
theorem IsRow.appendNone {B : Nat} {w : World} {v : Value} {p : List Rat} (h : IsRow B w v p) (hB : B ≤ w.heap.size) (A : Option Addr) (c : Nat) (t : TypeId) (ht : Tryz.prog.underlying t = some (.slice 31)) (hl : p.length ≤ 1000000000) :
    ∃ v' w', (∀ ty, (Builtin.append_ #[t, t] ty #[v, .slice A 0 c]).run Tryz.prog w = .ok v' w') ∧ IsRow B w' v' p ∧ Below B w w' := by
  obtain ⟨i, hi, hzz⟩ := Option.map_eq_some_iff.1 info_rat
  simp only [Prod.mk.injEq] at hzz
  obtain ⟨hz, hs, hby⟩ := hzz
  cases A with
  | none =>
    refine ⟨v, w, fun ty => ?_, h, Below.refl _ _⟩
    obtain ⟨cs, hcs, hl2, hrow⟩ := h
    rcases hrow with ⟨rfl, h0⟩ | ⟨g, cap, cur, rfl, h2, h3, h4, _⟩
    · simp [Builtin.append_, run_underlying ht, sizeOf, typeInfo, hi, Builtin.lenOf, Builtin.firstCells, loadCells, loadCellsFrom]
    · exact run_append_none w t _ i ht hi g _ _ _ h4 ty
  | some a =>
    obtain ⟨cs, hcs, hrow⟩ := h
    obtain ⟨v', w', hr, hrow', hg⟩ := run_append_k (P := Tryz.prog) 4 w B t _ i _ ht hi hz hs (by omega) (by omega) rfl (by
        intro u hu
        have hu : u ∈ [Value.bool false, .slice none 0 0, .bool false, .slice none 0 0] := hu
        simp only [List.mem_cons, List.not_mem_nil, or_false] at hu
        rcases hu with rfl | rfl | rfl | rfl <;> intro z <;> simp) v p.length cs hrow hB a 0 c [] rfl (fun j u hj => by simp at hj) (by simp) (by simp) (by rw [hby]; omega) (by omega)
    exact ⟨v', w', hr, ⟨cs, hcs.grownK hrow hg, by simpa using hrow'⟩, hrow.belowB hg hB⟩
/-- append of a polynomial. -/
theorem IsRow.appendPoly {B : Nat} {w : World} {v u : Value} {p r : List Rat} (h : IsRow B w v p) (hB : B ≤ w.heap.size) (hu : IsPoly w u r) (t : TypeId) (ht : Tryz.prog.underlying t = some (.slice 31)) (hl : p.length + r.length ≤ 1000000000) :
    ∃ v' w', (∀ ty, (Builtin.append_ #[t, t] ty #[v, u]).run Tryz.prog w = .ok v' w') ∧ IsRow B w' v' (p ++ r) ∧ Below B w w' := by
  obtain ⟨A, c, rfl, hA, hc⟩ := hu
  by_cases h0 : r = []
  · subst h0
    rw [List.append_nil]
    exact h.appendNone hB A c t ht (by simpa using hl)
  · obtain ⟨b, off, rfl, _⟩ := hA 0 (List.length_pos_iff.2 h0)
    obtain ⟨ds, hd, hds⟩ := hA.cells
    obtain ⟨v', w', h1, h2, h3, _⟩ := h.appendK (r := r) (c := c) hB hd hds t ht hl
    exact ⟨v', w', h1, h2, h3⟩

/-- A polynomial times the variable. -/
def pshift (p : List Rat) : List Rat := ptrim (0 :: p)
theorem ev_pshift (p : List Rat) (x : Rat) : ev (pshift p) x = x * ev p x := by unfold pshift; rw [ev_ptrim, ev_cons, Rat.zero_add]
theorem pshift_PC (p : List Rat) : PC (pshift p) := ptrim_PC _

set_option maxHeartbeats 1000000 in
theorem p_shift (v : Value) (p : List Rat) (w : World) (hv : IsPoly w v p) (hl : p.length ≤ 1000000) :
    Calls Tryz.prog 77 #[v] w fun e w' => (∃ v, e = .returned v ∧ IsNew w.heap.size w' v (pshift p)) ∧ Below w.heap.size w w' := by
  have hW := fun W => q_whole 0 W (by omega) (by omega)
  have e : ((0 : Int) : Rat) = 0 := rfl
  rw [e] at hW
  unfold pshift
  obtain ⟨z, Hz⟩ : ∃ z : Rat, Hid (z = 0) := ⟨_, Lib.hid rfl⟩
  rw [← Hz.out] at hW ⊢
  clear e
  go_enter Tryz.func77, Tryz.ntmps77
  go_wp2_with fail
  refine (hW _).mono ?_
  rintro e w1 ⟨⟨_, rfl, s3, A3, n3, m3, t3, B3, k3, l3, rfl, hq⟩, hb⟩
  have hR := IsRow.single (B := w.heap.size) hb.size hq
  have hb2 : Below w.heap.size w (w1.alloc (.cells #[.bool s3, .slice A3 n3 m3, .bool t3, .slice B3 k3 l3] 31)) := hb.alloc hb.size _
  obtain ⟨v', w3, hr, hrow, hb3⟩ := hR.appendPoly hb2.size (hv.below hb2) 23 Tryz.underlying23 (by simp; omega)
  clear hR
  go_wp2_with (first
    | (at_builtin; refine wpList_append_runs rfl _ _ 23 rfl _ _ rfl rfl hr ?_))
  have hb4 := hb2.trans hb3
  refine (p_trim_new _ _ _ _ hrow.isnew (by simp; omega)).mono ?_
  rintro e w4 ⟨⟨u, rfl, hu⟩, hb5⟩
  go_wp2
  go_ret
  exact ⟨⟨_, rfl, hu⟩, hb4.trans (hb5.mono hb4.size)⟩

set_option maxHeartbeats 2000000 in
theorem p_add (u v : Value) (p q : List Rat) (w : World) (hu : IsPoly w u p) (hv : IsPoly w v q) (hlp : p.length ≤ 1000000) (hlq : q.length ≤ 1000000) (hsp : Sz p) (hsq : Sz q) :
    Calls Tryz.prog 36 #[u, v] w fun e w' => (∃ v, e = .returned v ∧ IsNew w.heap.size w' v (padd p q)) ∧ Below w.heap.size w w' := by
  have HE := Lib.hid (sumk_all p q)
  have hu' := hu
  have hv' := hv
  obtain ⟨A, c, rfl, hA, hc⟩ := hu
  obtain ⟨B, d, rfl, hB, hd⟩ := hv
  obtain ⟨N, HN⟩ : ∃ N, Hid (N = max p.length q.length) := ⟨_, Lib.hid rfl⟩
  have hmax : max (p.length : Int) (q.length : Int) = (N : Int) := by rw [HN.out]; omega
  have hNl : N ≤ 1000000 := by rw [HN.out]; omega
  rw [← HN.out] at HE
  clear hA hB hc hd
  go_enter Tryz.func36, Tryz.ntmps36
  go_wp2_with fail
  go_loopw [5, 6] (fun s5 s6 wr => ∃ (k : Nat), k ≤ N ∧ s6 = .int .i64 (k : Int) ∧ IsRow w.heap.size wr s5 (sumk p q k) ∧ Below w.heap.size w wr) (fun _ i _ => N - (intOf i).toNat)
  case atStart => exact ⟨0, Nat.zero_le _, rfl, IsRow.empty w (Nat.le_refl _), below_alloc _ _⟩
  case round =>
    obtain ⟨k, hk, rfl, hR, hBW⟩ := hrel
    by_cases hlt : k < N
    · have hP1 := fun W (hW : Below w.heap.size w W) => p_at _ p k _ W (hu'.below hW) rfl (by omega) (by omega)
      have hP2 := fun W (hW : Below w.heap.size w W) => p_at _ q k _ W (hv'.below hW) rfl (by omega) (by omega)
      go_wp2_with fail
      refine (hP1 _ hBW).mono ?_
      rintro e w1 ⟨⟨x, rfl, hx⟩, hb1⟩
      have hB1 := hBW.trans (hb1.mono hBW.size)
      have hR1 := hR.below hb1
      go_wp2_with fail
      refine (hP2 _ hB1).mono ?_
      rintro e w2 ⟨⟨y, rfl, hy⟩, hb2⟩
      have hB2 := hB1.trans (hb2.mono hB1.size)
      have hR2 := hR1.below hb2
      go_wp2_with fail
      refine (q_Add x y _ _ _ (hx.below hb2) hy (hsp k) (hsq k)).mono ?_
      rintro e w3 ⟨⟨_, rfl, s3, A3, n3, m3, t3, B3, k3, l3, rfl, hq⟩, hb3⟩
      have hB3 := hB2.trans (hb3.mono hB2.size)
      have hR3 := hR2.below hb3
      have hba := below_alloc w3 (.cells #[.bool s3, .slice A3 n3 m3, .bool t3, .slice B3 k3 l3] 31)
      have hB4 := hB3.trans (hba.mono hB3.size)
      obtain ⟨v', w5, hr, hrow, hb5⟩ := (hR3.below hba).push (b := w3.heap.size) (off := 0) (c := 1) hB4.size (hq.below hba) (by simp [go_sem]) (by simp [go_sem]) (by simp [go_sem]) (by simp [go_sem]) 23 Tryz.underlying23 (by rw [sumk_length]; omega)
      rw [← sumk_succ] at hrow
      clear hR hR1 hR2 hR3
      go_wp2_with (first
        | (at_builtin; refine wpList_append_runs rfl _ _ 23 rfl _ _ rfl rfl hr ?_))
      go_roundw
      case rel => exact ⟨k + 1, hlt, by go_num, hrow, hB4.trans hb5⟩
      case measure => simp [intOf]; omega
    · obtain rfl : k = N := by omega
      have hT := p_trim_new _ _ _ _ hR.isnew (by rw [sumk_length]; omega)
      rw [HE.out] at hT
      go_wp2_with fail
      refine hT.mono ?_
      rintro e w4 ⟨⟨u, rfl, hu⟩, hb5⟩
      go_wp2
      go_ret
      exact ⟨⟨_, rfl, hu⟩, hBW.trans (hb5.mono hBW.size)⟩

theorem S_4 {w0 W : World} {b0 o0 b1 o1 b2 o2 b3 o3 : Nat} {v0 v1 v2 v3 : Value} (h0 : w0.cell? ⟨b0, o0, none⟩ = some v0) (h1 : w0.cell? ⟨b1, o1, none⟩ = some v1) (h2 : w0.cell? ⟨b2, o2, none⟩ = some v2) (h3 : w0.cell? ⟨b3, o3, none⟩ = some v3) (h : Below w0.heap.size w0 W) : Below w0.heap.size w0 W ∧ W.cell? ⟨b0, o0, none⟩ = some v0 ∧ W.cell? ⟨b1, o1, none⟩ = some v1 ∧ W.cell? ⟨b2, o2, none⟩ = some v2 ∧ W.cell? ⟨b3, o3, none⟩ = some v3 :=
  ⟨h, cell_below h0 h, cell_below h1 h, cell_below h2 h, cell_below h3 h⟩
theorem S_8 {w0 W : World} {b0 o0 b1 o1 b2 o2 b3 o3 b4 o4 b5 o5 b6 o6 b7 o7 : Nat} {v0 v1 v2 v3 v4 v5 v6 v7 : Value} (h0 : w0.cell? ⟨b0, o0, none⟩ = some v0) (h1 : w0.cell? ⟨b1, o1, none⟩ = some v1) (h2 : w0.cell? ⟨b2, o2, none⟩ = some v2) (h3 : w0.cell? ⟨b3, o3, none⟩ = some v3) (h4 : w0.cell? ⟨b4, o4, none⟩ = some v4) (h5 : w0.cell? ⟨b5, o5, none⟩ = some v5) (h6 : w0.cell? ⟨b6, o6, none⟩ = some v6) (h7 : w0.cell? ⟨b7, o7, none⟩ = some v7) (h : Below w0.heap.size w0 W) : Below w0.heap.size w0 W ∧ W.cell? ⟨b0, o0, none⟩ = some v0 ∧ W.cell? ⟨b1, o1, none⟩ = some v1 ∧ W.cell? ⟨b2, o2, none⟩ = some v2 ∧ W.cell? ⟨b3, o3, none⟩ = some v3 ∧ W.cell? ⟨b4, o4, none⟩ = some v4 ∧ W.cell? ⟨b5, o5, none⟩ = some v5 ∧ W.cell? ⟨b6, o6, none⟩ = some v6 ∧ W.cell? ⟨b7, o7, none⟩ = some v7 :=
  ⟨h, cell_below h0 h, cell_below h1 h, cell_below h2 h, cell_below h3 h, cell_below h4 h, cell_below h5 h, cell_below h6 h, cell_below h7 h⟩
theorem IsRow.allocd {B : Nat} {w : World} {v : Value} {p : List Rat} {X : Obj} (h : IsRow B w v p) : IsRow B (w.alloc X) v p := h.below (below_alloc _ _)
theorem IsRow.drewn {B : Nat} {w : World} {v : Value} {p : List Rat} (h : IsRow B w v p) : IsRow B w.drew v p := h.below (below_drew' _)
theorem RatP.allocd {w : World} {s A n c t A' m d q} {X : Obj} (h : RatP w s A n c t A' m d q) : RatP (w.alloc X) s A n c t A' m d q := h.below (below_alloc _ _)
theorem RatP.drewn {w : World} {s A n c t A' m d q} (h : RatP w s A n c t A' m d q) : RatP w.drew s A n c t A' m d q := h.below (below_drew' _)
/-- The operation append of one coefficient, in a region that draws its order. -/
theorem wp_append_row {B : Nat} {w : World} {o : Oper} {a : Act} {K : Act → World → Prop} {Q : Exit → Act → World → Prop} (s x : Operand) (t : TypeId)
    (ho : o.op = .call { callee := .builtin .append, args := #[s, x], argTypes := #[t, t] }) (ht : Tryz.prog.underlying t = some (.slice 31)) {v : Value} {p : List Rat} {b off c : Nat} {s' A n c' t' A' n' d' q}
    (hs : a.eval s = v) (hx : a.eval x = .slice (some ⟨b, off, none⟩) 1 c) (h : IsRow B w v p) (hB : B ≤ w.heap.size) (hq : RatP w s' A n c' t' A' n' d' q) (c0 : w.cell? ⟨b, off, none⟩ = some (.bool s')) (c1 : w.cell? ⟨b, off + 1, none⟩ = some (.slice A n c')) (c2 : w.cell? ⟨b, off + 2, none⟩ = some (.bool t')) (c3 : w.cell? ⟨b, off + 3, none⟩ = some (.slice A' n' d'))
    (hl : p.length + 1 ≤ 1000000000) (hK : ∀ v' w', IsRow B w' v' (p ++ [q]) → Below B w w' → K (a.put o.dst v') w') : o.wp Tryz.prog a w K Q := by
  obtain ⟨v', w', hr, h2, h3⟩ := h.push (c := c) hB hq c0 c1 c2 c3 t ht hl
  unfold Oper.wp execOp
  simp only [ho, resolve, invoke, builtin, Sem.run_bind, Sem.run_pure, Result.andThen_ok, List.map_toArray, List.map_cons, List.map_nil, hs, hx, hr]
  exact hK v' w' h2 h3

/-- The first coefficients of a multiple. -/
def mulk (x : Rat) (q : List Rat) (k : Nat) : List Rat := (q.take k).map (x * ·)
theorem mulk_succ (x : Rat) (q : List Rat) (k : Nat) (h : k < q.length) : mulk x q (k + 1) = mulk x q k ++ [x * q.getD k 0] := by
  unfold mulk
  rw [List.take_succ_eq_append_getElem h, List.map_append]
  simp [List.getD_eq_getElem?_getD, List.getElem?_eq_getElem h]
theorem mulk_length (x : Rat) (q : List Rat) (k : Nat) (h : k ≤ q.length) : (mulk x q k).length = k := by simp [mulk]; omega
theorem mulk_all (x : Rat) (q : List Rat) : ptrim (mulk x q q.length) = pscale x q := by unfold mulk pscale; rw [List.take_length]

set_option maxRecDepth 100000 in
set_option maxHeartbeats 2000000 in
theorem p_scale (u v : Value) (x : Rat) (q : List Rat) (w : World) (hu : IsRat w u x) (hv : IsPoly w v q) (hlq : q.length ≤ 1000000) (hsx : rsz x ≤ 68719476736) (hsq : Sz q) :
    Calls Tryz.prog 38 #[u, v] w fun e w' => (∃ v, e = .returned v ∧ IsNew w.heap.size w' v (pscale x q)) ∧ Below w.heap.size w w' := by
  have HE := Lib.hid (mulk_all x q)
  have hv' := hv
  obtain ⟨s, A, n, c, t, B, m, d, rfl, hx⟩ := hu
  obtain ⟨C, f, rfl, hC, hf⟩ := hv
  obtain ⟨N, HN⟩ : ∃ N, Hid (N = q.length) := ⟨_, Lib.hid rfl⟩
  rw [← HN.out] at HE hlq hf ⊢
  go_enter Tryz.func38, Tryz.ntmps38
  go_upto_region 1 with (fail)
  generalize hE : World.alloc _ _ = W
  have hBW : Below w.heap.size w W := by rw [← hE]; exact below_alloc _ _
  have a0 : W.cell? ⟨w.heap.size, 0, none⟩ = some (.bool s) := by rw [← hE]; simp [go_sem]
  have a1 : W.cell? ⟨w.heap.size, 1, none⟩ = some (.slice A n c) := by rw [← hE]; simp [go_sem]
  have a2 : W.cell? ⟨w.heap.size, 2, none⟩ = some (.bool t) := by rw [← hE]; simp [go_sem]
  have a3 : W.cell? ⟨w.heap.size, 3, none⟩ = some (.slice B m d) := by rw [← hE]; simp [go_sem]
  have hlt0 : w.heap.size < W.heap.size := by rw [← hE]; simp
  clear hE
  go_wp2_with fail
  go_loopw [5, 6] (fun s5 s6 wr => ∃ (k : Nat), k ≤ N ∧ s6 = .int .i64 (k : Int) ∧ IsRow W.heap.size wr s5 (mulk x q k) ∧ Below W.heap.size W wr) (fun _ i _ => N - (intOf i).toNat)
  case atStart => exact ⟨0, Nat.zero_le _, rfl, IsRow.empty W (Nat.le_refl _), below_alloc _ _⟩
  case round =>
    obtain ⟨k, hk, rfl, hR, hBr⟩ := hrel
    by_cases hlt : k < N
    · have hkq : k < q.length := by rw [← HN.out]; exact hlt
      obtain ⟨b, off, rfl, h⟩ := (hC.below hBW) k hkq
      obtain ⟨s2, A2, n2, c2, t2, B2, m2, d2, h1, h2, h3, h4, h5⟩ := h
      have hM := fun W' (hW' : Below wr.heap.size wr W') => q_Mul _ _ x (q.getD k 0) W' ((hx.below (hBW.trans (hBr.mono hBW.size))).below hW').is ((h5.below hBr).below hW').is hsx (hsq k)
      have hz : W.heap.size ≤ wr.heap.size := hBr.size
      have HML := Lib.hid (mulk_length x q k (by rw [← HN.out]; exact hk))
      have HMS := Lib.hid (mulk_succ x q k hkq)
      go_upto_region 5 with (fail)
      go_region_held3 (fun w' => Below W.heap.size W w' ∧ w'.cell? ⟨w.heap.size, 0, none⟩ = some (.bool s) ∧ w'.cell? ⟨w.heap.size, 1, none⟩ = some (.slice A n c) ∧ w'.cell? ⟨w.heap.size, 2, none⟩ = some (.bool t) ∧ w'.cell? ⟨w.heap.size, 3, none⟩ = some (.slice B m d) ∧ w'.cell? ⟨b, off + k * 4, none⟩ = some (.bool s2) ∧ w'.cell? ⟨b, off + k * 4 + 1, none⟩ = some (.slice A2 n2 c2) ∧ w'.cell? ⟨b, off + k * 4 + 2, none⟩ = some (.bool t2) ∧ w'.cell? ⟨b, off + k * 4 + 3, none⟩ = some (.slice B2 m2 d2))
        (((try dsimp only); refine S_8 a0 a1 a2 a3 h1 h2 h3 h4 ?_; repeat' (first | with_reducible assumption | with_reducible exact And.left (by assumption) | with_reducible refine Below.alloc' (Nat.le_refl _) ?_ | with_reducible refine Below.drew' ?_)))
        (first
          | (go_at_call 50
             refine (hM _ (below_drew' _)).mono ?_
             rintro e w3 ⟨⟨_, rfl, s3, A3, n3, m3, t3, B3, k3, l3, rfl, hq⟩, hb3⟩
             have g3 : Below W.heap.size W w3 := hBr.trans (((below_drew' _).trans hb3).mono hz)
             have hR3 := (hR.drewn).below hb3)
          | ((refine wp_append_row _ _ 23 (by rfl) Tryz.underlying23 (by rfl) (by rfl) (by (repeat' (first | assumption | with_reducible apply IsRow.allocd | with_reducible apply IsRow.drewn)); first | done | fail) (Below.size (w := W) (B := W.heap.size) (by (repeat' (first | with_reducible assumption | with_reducible refine Below.alloc' (Nat.le_refl _) ?_ | with_reducible refine Below.drew' ?_)); first | done | fail)) (by (repeat' (first | assumption | with_reducible apply RatP.allocd | with_reducible apply RatP.drewn)); first | done | fail) (by simp [go_sem]) (by simp [go_sem]) (by simp [go_sem]) (by simp [go_sem]) (by rw [HML.out]; omega) ?_)
             intro v5 w5 hrow hb5
             have g5 : Below W.heap.size W w5 := Below.trans (by (repeat' (first | with_reducible assumption | with_reducible refine Below.alloc' (Nat.le_refl _) ?_ | with_reducible refine Below.drew' ?_)); first | done | fail) hb5))
      all_goals
        rw [← HMS.out] at hrow
        go_wp2
        go_roundw
        case rel => exact ⟨k + 1, hlt, by go_num, hrow, g5⟩
        case measure => simp [intOf]; omega
    · obtain rfl : k = N := by omega
      have hT := p_trim_new _ _ _ _ hR.isnew (by rw [mulk_length _ _ _ (by rw [← HN.out]; exact Nat.le_refl _)]; omega)
      rw [HE.out] at hT
      go_wp2_with fail
      refine hT.mono ?_
      rintro e w4 ⟨⟨u, rfl, hu⟩, hb5⟩
      go_wp2
      go_ret
      exact ⟨⟨_, rfl, hu.mono (Nat.le_of_lt hlt0)⟩, hBW.trans ((hBr.trans (hb5.mono hBr.size)).mono hBW.size)⟩

end Go.Proofs.YtlklgeidffjidaaGreat

/- Walks of the reference: Sub, Mul (eliminantref07). -/
namespace Go.Proofs.YtlklgeidffjidaaGreat
open Go.RowKit
set_option linter.unusedSimpArgs false

set_option maxHeartbeats 1000000 in
theorem p_sub (u v : Value) (p q : List Rat) (w : World) (hu : IsPoly w u p) (hv : IsPoly w v q) (hlp : p.length ≤ 1000000) (hlq : q.length ≤ 1000000) (hsp : Sz p) (hsq : SzB q 68719476735) :
    Calls Tryz.prog 37 #[u, v] w fun e w' => (∃ v, e = .returned v ∧ IsNew w.heap.size w' v (psub p q)) ∧ Below w.heap.size w w' := by
  have hW := fun W => q_whole (-1) W (by omega) (by omega)
  have e1 : (((-1 : Int)) : Rat) = -1 := rfl
  rw [e1] at hW
  have hS := fun W x (hx : IsRat W x (-1)) (hW : Below w.heap.size w W) => p_scale x v (-1) q W hx (hv.below hW) hlq (by rw [rsz_neg_one]; omega) (fun j => Nat.le_trans (hsq j) (by omega))
  have hA := fun W v' (hv' : IsPoly W v' (pscale (-1) q)) (hW : Below w.heap.size w W) => p_add u v' p (pscale (-1) q) W (hu.below hW) hv' hlp (Nat.le_trans (by unfold pscale; have := ptrim_length_le (q.map ((-1) * ·)); rw [List.length_map] at this; exact this) hlq) hsp (fun j => by
    have := (SzB.scale (c := -1) hsq (T := 1) (by rw [rsz_neg_one]; omega)) j; omega)
  rw [psub_scale] at hA
  generalize psub p q = P at *
  generalize pscale (-1) q = Q at *
  generalize (-1 : Rat) = o at *
  clear e1
  obtain ⟨A, c, rfl, _⟩ := hu
  obtain ⟨B, d, rfl, _⟩ := hv
  have hb0 := Below.refl w.heap.size w
  generalize p.length = n at *
  generalize q.length = m at *
  go_enter Tryz.func37, Tryz.ntmps37
  go_wp2_with fail
  refine (hW _).mono ?_
  rintro e w1 ⟨⟨v1, rfl, hv1⟩, hb1⟩
  go_wp2_with fail
  refine (hS _ _ hv1 hb1).mono ?_
  rintro e w2 ⟨⟨v2, rfl, hv2⟩, hb2⟩
  have hbb := hb1.trans (hb2.mono hb1.size)
  go_wp2_with fail
  refine (hA _ _ hv2.poly hbb).mono ?_
  rintro e w3 ⟨⟨v3, rfl, hv3⟩, hb3⟩
  have hbb2 := hbb.trans (hb3.mono hbb.size)
  go_wp2_with fail
  go_ret
  exact ⟨⟨_, rfl, hv3.mono hbb.size⟩, hbb2⟩

theorem zmul_length_le (p q : List Rat) : (zmul p q).length ≤ p.length + q.length := by
  by_cases hp : p = []
  · subst hp; show 0 ≤ _; omega
  · by_cases hq : q = []
    · subst hq
      clear hp
      induction p with
      | nil => exact Nat.le_refl _
      | cons a p ih => unfold Proofs.YtlklgeidffjidaaGreat.zmul; rw [zadd_length]; simp at ih ⊢; omega
    · rw [zmul_length p q hp hq]; omega
theorem pscale_length_le (x : Rat) (q : List Rat) : (pscale x q).length ≤ q.length := by
  unfold pscale; have := ptrim_length_le (q.map (x * ·)); rwa [List.length_map] at this
theorem pshift_length_le (q : List Rat) : (pshift q).length ≤ q.length + 1 := by
  unfold pshift; have := ptrim_length_le (0 :: q); simpa using this
theorem SzB.drop {p : List Rat} {S : Nat} (h : SzB p S) (k : Nat) : SzB (p.drop k) S := fun j => by
  have := h (k + j)
  rw [List.getD_eq_getElem?_getD] at this ⊢
  rwa [List.getElem?_drop]
theorem SzB.take {p : List Rat} {S : Nat} (h : SzB p S) (k : Nat) : SzB (p.take k) S := fun j => by
  rw [List.getD_eq_getElem?_getD, List.getElem?_take]
  split
  · have := h j; rwa [List.getD_eq_getElem?_getD] at this
  · have := h.pos; simp [rsz_zero]; omega
theorem SzB.pshift {p : List Rat} {S : Nat} (h : SzB p S) : SzB (pshift p) S := by
  refine SzB.ptrim (fun j => ?_)
  cases j with
  | zero => have := h.pos; simp [rsz_zero]; omega
  | succ j => simpa using h j
theorem pmul_drop {p q : List Rat} {k : Nat} (hk : k < p.length) : pmul (p.drop k) q = padd (pshift (pmul (p.drop (k + 1)) q)) (pscale (p.getD k 0) q) :=
  (pmul_PC _ _).ext (padd_PC _ _) (fun x => by rw [ev_padd, ev_pshift, ev_pscale, ev_pmul, ev_pmul, ev_drop_cons k x hk]; grind)

set_option maxRecDepth 100000 in
set_option maxHeartbeats 2000000 in
theorem p_mul (u v : Value) (p q : List Rat) (w : World) (hu : IsPoly w u p) (hv : IsPoly w v q) (hlp : p.length ≤ 400000) (hlq : q.length ≤ 400000) (S T : Nat) (hsp : SzB p S) (hsq : SzB q T) (hst : 1 + p.length * (S + T + 1) ≤ 68719476736) :
    Calls Tryz.prog 29 #[u, v] w fun e w' => (∃ v, e = .returned v ∧ IsNew w.heap.size w' v (pmul p q)) ∧ Below w.heap.size w w' := by
  have hv' := hv
  obtain ⟨A, c, rfl, hA, hc⟩ := hu
  obtain ⟨B, d, rfl, hB, hd⟩ := hv
  obtain ⟨N, HN⟩ : ∃ N, Hid (N = p.length) := ⟨_, Lib.hid rfl⟩
  have HE : Hid (pmul (p.drop 0) q = pmul p q) := Lib.hid (by rw [List.drop_zero])
  have hNp := HN.out
  have HS : ∀ k, Hid (Sz (pmul (p.drop k) q) ∧ (pmul (p.drop k) q).length ≤ 900000) := fun k => Lib.hid ⟨fun j => by
    have h1 := ((hsp.drop k).mul hsq) j
    have h2 : (p.drop k).length * (S + T + 1) ≤ p.length * (S + T + 1) := Nat.mul_le_mul_right _ (by simp)
    omega, by have := pmul_length_le (p.drop k) q; simp at this; omega⟩
  rw [← HN.out] at hlp hc ⊢
  clear hNp hB
  go_enter Tryz.func29, Tryz.ntmps29
  go_wp2_with fail
  go_loopw [5, 6] (fun s5 s6 wr => ∃ (k : Nat) (z : Int), k ≤ N ∧ s6 = .int .i64 z ∧ z = (k : Int) - 1 ∧ IsNew w.heap.size wr s5 (pmul (p.drop k) q) ∧ Below w.heap.size w wr) (fun _ i _ => (intOf i + 1).toNat)
  case atStart =>
    refine ⟨N, _, Nat.le_refl _, rfl, rfl, ?_, below_alloc _ _⟩
    have : pmul (p.drop N) q = [] := by rw [HN.out, List.drop_length, pmul_nil_left]
    rw [this]
    exact ⟨_, 0, rfl, PolyAt.nil _ _, Nat.le_refl _, fun a ha h0 => absurd rfl h0⟩
  case round =>
    obtain ⟨k, z, hk, rfl, hz, hR, hBr⟩ := hrel
    cases k with
    | succ k =>
      obtain rfl : z = (k : Int) := by omega
      clear hz
      have hkp : k < p.length := by rw [← HN.out]; omega
      have HP := Lib.hid (pmul_drop (q := q) hkp)
      obtain ⟨b, off, rfl, h⟩ := hA k hkp
      obtain ⟨s2, A2, n2, c2, t2, B2, m2, d2, h1, h2, h3, h4, h5⟩ := h
      have hxs := hsp k
      have hpow : S + T ≤ 68719476736 := by
        have h1 : 1 * (S + T + 1) ≤ p.length * (S + T + 1) := Nat.mul_le_mul_right _ (by omega)
        omega
      have hS1 := (HS (k + 1)).out
      have hM := fun W (hW : Below wr.heap.size wr W) => p_shift _ _ W (hR.poly.below hW) (by omega)
      have hC := fun W (hW : Below w.heap.size w W) => p_scale _ _ (p.getD k 0) q W (h5.below hW).is (hv'.below hW) (by omega) (by omega) (fun j => by have := hsq j; omega)
      have hAd := fun W x y (hx : IsPoly W x (pshift (pmul (p.drop (k + 1)) q))) (hy : IsPoly W y (pscale (p.getD k 0) q)) => p_add x y _ _ W hx hy (by have := pshift_length_le (pmul (p.drop (k + 1)) q); omega) (by have := pscale_length_le (p.getD k 0) q; omega)
        (SzB.pshift (S := 68719476736) hS1.1) (fun j => Nat.le_trans (((SzB.scale (T := S) hsq hxs)) j) (by omega))
      rw [← HP.out] at hAd
      clear hS1
      have hz : w.heap.size ≤ wr.heap.size := hBr.size
      go_wp2_with fail
      go_region_held3 (fun w' => Below w.heap.size w w' ∧ w'.cell? ⟨b, off + k * 4, none⟩ = some (.bool s2) ∧ w'.cell? ⟨b, off + k * 4 + 1, none⟩ = some (.slice A2 n2 c2) ∧ w'.cell? ⟨b, off + k * 4 + 2, none⟩ = some (.bool t2) ∧ w'.cell? ⟨b, off + k * 4 + 3, none⟩ = some (.slice B2 m2 d2))
        (((try dsimp only); refine S_4 h1 h2 h3 h4 ?_; repeat' (first | with_reducible assumption | with_reducible exact And.left (by assumption) | with_reducible refine Below.alloc' (Nat.le_refl _) ?_ | with_reducible refine Below.drew' ?_)))
        (first
          | (go_at_call 77
             refine (hM _ (below_drew' _)).mono ?_
             rintro e w3 ⟨⟨x3, rfl, hx3⟩, hb3⟩
             have g3 : Below w.heap.size w w3 := hBr.trans (((below_drew' _).trans hb3).mono hz))
          | (go_at_call 38
             refine (hC _ (And.left (by assumption))).mono ?_
             rintro e w4 ⟨⟨x4, rfl, hx4⟩, hb4⟩
             have hx3' := hx3.poly.below hb4
             have g4 : Below w.heap.size w w4 := g3.trans (hb4.mono g3.size))
          | (go_at_call 36
             refine (hAd _ _ _ hx3' hx4.poly).mono ?_
             rintro e w5 ⟨⟨x5, rfl, hx5⟩, hb5⟩
             have g5 : Below w.heap.size w w5 := g4.trans (hb5.mono g4.size)))
      all_goals
        go_wp2
        go_roundw
        case rel => exact ⟨k, _, by omega, by go_num, rfl, hx5.mono g4.size, g5⟩
        case measure => simp [intOf]
    | zero =>
      obtain rfl : z = -1 := by omega
      rw [HE.out] at hR
      clear hz
      go_wp2
      go_ret
      exact ⟨⟨_, rfl, hR⟩, hBr⟩

end Go.Proofs.YtlklgeidffjidaaGreat

/- Walks of the reference: DivMod, Quo, Mod (eliminantref07). -/
namespace Go.Proofs.YtlklgeidffjidaaGreat
open Go.RowKit
set_option linter.unusedSimpArgs false

theorem padd_shift_con (p : List Rat) (c : Rat) : padd (pshift p) (pcon c) = ptrim (c :: p) :=
  ((ptrim_eq (padd_PC _ _) (fun x => by rw [ev_cons, ev_padd, ev_pshift, ev_pcon]; grind))).symm
/-- What is asked of the sizes of a division, step by step. -/
def PdmOK (p q : List Rat) : Prop := p.length ≤ 400000 ∧ q.length ≤ 400000 ∧ ∃ M T, (∀ k, SzB (pdm q (p.drop k)).1 M ∧ SzB (pdm q (p.drop k)).2 M) ∧ SzB q T ∧ SzB p M ∧ M + 2 * T ≤ 68719476735
theorem pdm_drop {p q : List Rat} {k : Nat} (hk : k < p.length) : p.drop k = p.getD k 0 :: p.drop (k + 1) := by
  rw [List.drop_eq_getElem_cons hk]; simp [List.getD_eq_getElem?_getD, List.getElem?_eq_getElem hk]
theorem pdm_quo_length (q : List Rat) : ∀ p, (pdm q p).1.length ≤ p.length
  | [] => Nat.le_refl _
  | a :: p => by
    have ih := pdm_quo_length q p
    unfold pdm
    dsimp only
    split
    · have := ptrim_length_le ((plead (ptrim (a :: (pdm q p).2)) / plead q) :: (pdm q p).1); simp at this ⊢; omega
    · have := ptrim_length_le ((0 : Rat) :: (pdm q p).1); simp at this ⊢; omega

set_option maxHeartbeats 400000 in
theorem p_divmod_zero (u : Value) (B : Option Addr) (m d : Nat) (p : List Rat) (w : World) (hu : IsPoly w u p) (hm : m = 0) :
    Calls Tryz.prog 34 #[u, .slice B m d] w fun e w' => e = .returned (.tuple #[.slice none 0 0, .slice none 0 0, .int .i64 10]) ∧ Below w.heap.size w w' := by
  subst hm
  obtain ⟨A, c, rfl, _⟩ := hu
  have hb0 := Below.refl w.heap.size w
  go_enter Tryz.func34, Tryz.ntmps34
  go_wp2_with fail
  exact bodyPost_ret (v := .tuple #[.slice none 0 0, .slice none 0 0, .int .i64 10]) (by simp [results, Tryz.results34, go_sem]) rfl ⟨rfl, hb0⟩

set_option maxRecDepth 100000 in
set_option maxHeartbeats 4000000 in
theorem p_divmod (u v : Value) (p q : List Rat) (w : World) (hu : IsPoly w u p) (hv : IsPoly w v q) (hq : PC q) (hq0 : q ≠ []) (hok : PdmOK p q) :
    Calls Tryz.prog 34 #[u, v] w fun e w' => (∃ x y, e = .returned (.tuple #[x, y, .int .i64 0]) ∧ IsNew w.heap.size w' x (pquo p q) ∧ IsNew w.heap.size w' y (pmod p q)) ∧ Below w.heap.size w w' := by
  obtain ⟨hlp, hlq, M, T, hM, hT, hPM, hS⟩ := hok
  have hv' := hv
  obtain ⟨A, c, rfl, hA, hc⟩ := hu
  obtain ⟨B, d, rfl, hB, hd⟩ := hv
  have hql0 : 0 < q.length := List.length_pos_iff.2 hq0
  have hlead := hq.lead_ne hq0
  have HE : Hid ((pdm q (p.drop 0)).1 = pquo p q ∧ (pdm q (p.drop 0)).2 = pmod p q) := Lib.hid ⟨by rw [List.drop_zero]; rfl, by rw [List.drop_zero]; rfl⟩
  obtain ⟨N, HN⟩ : ∃ N, Hid (N = p.length) := ⟨_, Lib.hid rfl⟩
  obtain ⟨m, Hm⟩ : ∃ m, Hid (m = q.length) := ⟨_, Lib.hid rfl⟩
  have HSp : ∀ k, Hid (PC (pdm q (p.drop k)).1 ∧ PC (pdm q (p.drop k)).2 ∧ (pdm q (p.drop k)).2.length < m ∧ (pdm q (p.drop k)).1.length ≤ 400000) := fun k => Lib.hid (by
    have h := pdm_spec hq hq0 (p.drop k)
    refine ⟨h.1, h.2.1, by rw [Hm.out]; exact h.2.2.1, ?_⟩
    have := pdm_quo_length q (p.drop k)
    simp at this; omega)
  have Hld := Lib.hid hlead
  rw [← HN.out] at hlp hc ⊢
  rw [← Hm.out] at hlq hd hql0 hv' ⊢
  clear hB hq hq0 hlead
  have em : ((m : Int) == 0) = false := by rw [beq_eq_false_iff_ne]; omega
  go_enter Tryz.func34, Tryz.ntmps34
  go_wp2_with fail
  go_loopw [7, 8, 9] (fun s7 s8 s9 wr => ∃ (k : Nat) (z : Int), k ≤ N ∧ s9 = .int .i64 z ∧ z = (k : Int) - 1 ∧ IsNew w.heap.size wr s7 (pdm q (p.drop k)).1 ∧ IsNew w.heap.size wr s8 (pdm q (p.drop k)).2 ∧ Below w.heap.size w wr) (fun _ _ i _ => (intOf i + 1).toNat)
  case atStart =>
    have e : p.drop N = [] := by rw [HN.out, List.drop_length]
    refine ⟨N, _, Nat.le_refl _, rfl, rfl, ?_, ?_, (below_alloc _ _).alloc (by simp) _⟩
    · rw [e]; exact ⟨_, 0, rfl, PolyAt.nil _ _, Nat.le_refl _, fun a ha h0 => absurd rfl h0⟩
    · rw [e]; exact ⟨_, 0, rfl, PolyAt.nil _ _, Nat.le_refl _, fun a ha h0 => absurd rfl h0⟩
  case round =>
    obtain ⟨k, z, hk, rfl, hz, hQ, hR, hBr⟩ := hrel
    cases k with
    | succ k =>
      obtain rfl : z = (k : Int) := by omega
      clear hz
      have hkp : k < p.length := by rw [← HN.out]; omega
      obtain ⟨b, off, rfl, h⟩ := hA k hkp
      obtain ⟨s2, A2, n2, c2, t2, B2, m2, d2, h1, h2, h3, h4, h5⟩ := h
      have hdr := pdm_drop (q := q) hkp
      have hM1 := hM (k + 1)
      have hM0 := hM k
      have hS1 := (HSp (k + 1)).out
      have hS0 := (HSp k).out
      have hpk := hPM k
      rw [hdr] at hM0 hS0
      obtain ⟨Q1, hQ1⟩ : ∃ Q1, Q1 = (pdm q (p.drop (k + 1))).1 := ⟨_, rfl⟩
      obtain ⟨R1, hR1⟩ : ∃ R1, R1 = (pdm q (p.drop (k + 1))).2 := ⟨_, rfl⟩
      obtain ⟨a, ha⟩ : ∃ a, a = p.getD k 0 := ⟨_, rfl⟩
      have hun : pdm q (p.getD k 0 :: p.drop (k + 1)) = if (ptrim (a :: R1)).length = q.length then (ptrim ((plead (ptrim (a :: R1)) / plead q) :: Q1), psub (ptrim (a :: R1)) (pscale (plead (ptrim (a :: R1)) / plead q) q)) else (ptrim (0 :: Q1), ptrim (a :: R1)) := by
        rw [hQ1, hR1, ha]; rfl
      rw [← hQ1] at hQ
      rw [← hR1] at hR
      rw [← hQ1, ← hR1] at hM1 hS1
      rw [← ha] at hpk h5
      obtain ⟨s, hs⟩ : ∃ s, s = ptrim (a :: R1) := ⟨_, rfl⟩
      rw [← hs] at hun
      have hss : SzB s M := by
        rw [hs]; refine SzB.ptrim (fun j => ?_)
        cases j with
        | zero => simpa using hpk
        | succ j => simpa using hM1.2 j
      have hsl : s.length ≤ 400001 := by rw [hs]; have := ptrim_length_le (a :: R1); simp at this; omega
      have Hun := Lib.hid (hdr ▸ hun)
      have HM0 := Lib.hid hM0
      have HM1 := Lib.hid hM1
      have HS1 := Lib.hid hS1
      have Hs := Lib.hid hs
      have hz : w.heap.size ≤ wr.heap.size := hBr.size
      have hM_ := fun W (hW : Below wr.heap.size wr W) => p_shift _ _ W (hR.poly.below hW) (by have := HS1.out; omega)
      have hC_ := fun W (hW : Below w.heap.size w W) => p_constant _ a W (h5.below hW).is
      have hA_ := fun W x y (hx : IsPoly W x (pshift R1)) (hy : IsPoly W y (pcon a)) => p_add x y _ _ W hx hy (by have := pshift_length_le R1; have := HS1.out; omega) (by have := pcon_length_le a; omega) (fun j => Nat.le_trans ((SzB.pshift HM1.out.2) j) (by omega)) (fun j => Nat.le_trans ((SzB.con hpk) j) (by omega))
      rw [padd_shift_con, ← hs] at hA_
      clear hun hM0 hM1 hS1 hS0 hs hdr hQ1 hR1 ha
      go_upto_region 8 with (fail)
      go_region_held3 (fun w' => Below w.heap.size w w' ∧ w'.cell? ⟨b, off + k * 4, none⟩ = some (.bool s2) ∧ w'.cell? ⟨b, off + k * 4 + 1, none⟩ = some (.slice A2 n2 c2) ∧ w'.cell? ⟨b, off + k * 4 + 2, none⟩ = some (.bool t2) ∧ w'.cell? ⟨b, off + k * 4 + 3, none⟩ = some (.slice B2 m2 d2))
        (((try dsimp only); refine S_4 h1 h2 h3 h4 ?_; repeat' (first | with_reducible assumption | with_reducible exact And.left (by assumption) | with_reducible refine Below.alloc' (Nat.le_refl _) ?_ | with_reducible refine Below.drew' ?_)))
        (first
          | (go_at_call 77
             refine (hM_ _ (below_drew' _)).mono ?_
             rintro e w3 ⟨⟨x3, rfl, hx3⟩, hb3⟩
             have r3 : Below wr.heap.size wr w3 := (below_drew' _).trans hb3
             have g3 : Below w.heap.size w w3 := hBr.trans (r3.mono hz))
          | (go_at_call 51
             refine (hC_ _ (And.left (by assumption))).mono ?_
             rintro e w4 ⟨⟨x4, rfl, hx4⟩, hb4⟩
             have hx3' := hx3.poly.below hb4
             have r4 : Below wr.heap.size wr w4 := r3.trans (hb4.mono r3.size)
             have g4 : Below w.heap.size w w4 := g3.trans (hb4.mono g3.size))
          | (go_at_call 36
             refine (hA_ _ _ _ hx3' hx4.poly).mono ?_
             rintro e w5 ⟨⟨x5, rfl, hx5⟩, hb5⟩
             have r5 : Below wr.heap.size wr w5 := r4.trans (hb5.mono r4.size)
             have g5 : Below w.heap.size w w5 := g4.trans (hb5.mono g4.size)))
      all_goals
        have hx5 := hx5.mono g4.size
        have hQ5 := hQ.below r5
        have hN_ := fun W (hW : Below w5.heap.size w5 W) => p_shift _ _ W (hQ5.poly.below hW) (by have := HS1.out; omega)
        clear hM_ hC_ hA_ hR hQ hx3 hx3' hx4
        go_wp2_with fail
        refine (hN_ _ (Below.refl _ _)).mono ?_
        rintro e w6 ⟨⟨x6, rfl, hx6⟩, hb6⟩
        have g6 := g5.trans (hb6.mono g5.size)
        have hx5 := hx5.below hb6
        have hx6 := hx6.mono g5.size
        clear hN_ hQ5
        by_cases hl : s.length = q.length
        · have hs0 : s ≠ [] := by intro e; rw [e] at hl; have := Hm.out; simp at hl; omega
          have hun := Hun.out
          rw [if_pos hl] at hun
          obtain ⟨cc, Hcc⟩ : ∃ cc, Hid (cc = plead s / plead q) := ⟨_, Lib.hid rfl⟩
          rw [← Hcc.out] at hun
          have hcs : rsz cc ≤ M + T := by
            rw [Hcc.out]
            have h1 := rsz_div (plead s) Hld.out
            have h2 : rsz (plead s) ≤ M := hss _
            have h3 : rsz (plead q) ≤ T := hT _
            omega
          have eb : ((s.length : Int) == (m : Int)) = true := by rw [beq_iff_eq, Hm.out, hl]
          have hq0' : q ≠ [] := by intro e; have h := Hm.out; rw [e] at h; simp at h; omega
          have hL1 := fun W v (hv : IsPoly W v s) => p_lead v s W hv hs0 (by omega)
          have hL2 := fun W (hW : Below w.heap.size w W) => p_lead _ q W (hv'.below hW) hq0' (by have := Hm.out; omega)
          have hD_ := fun W x y (hx : IsRat W x (plead s)) (hy : IsRat W y (plead q)) => q_Div x y _ _ W hx hy (Nat.le_trans (hss _) (by omega)) (Nat.le_trans (hT _) (by omega)) Hld.out
          rw [← Hcc.out] at hD_
          have hSc := fun W x (hW : Below w.heap.size w W) (hx : IsRat W x cc) => p_scale x _ cc q W hx (hv'.below hW) (by have := Hm.out; omega) (by omega) (fun j => Nat.le_trans (hT j) (by omega))
          have hSb := fun W x y (hx : IsPoly W x s) (hy : IsPoly W y (pscale cc q)) => p_sub x y s _ W hx hy (by omega) (by have := pscale_length_le cc q; have := Hm.out; omega) (fun j => Nat.le_trans (hss j) (by omega)) (fun j => Nat.le_trans ((SzB.scale hT hcs) j) (by omega))
          have hCo := fun W x (hx : IsRat W x cc) => p_constant x cc W hx
          have hAd := fun W x y (hx : IsPoly W x (pshift Q1)) (hy : IsPoly W y (pcon cc)) => p_add x y _ _ W hx hy (by have := pshift_length_le Q1; have := HS1.out; omega) (by have := pcon_length_le cc; omega) (fun j => Nat.le_trans ((SzB.pshift HM1.out.1) j) (by omega)) (fun j => Nat.le_trans ((SzB.con hcs) j) (by omega))
          rw [padd_shift_con] at hAd
          have hQe : (pdm q (p.drop k)).1 = ptrim (cc :: Q1) := by rw [hun]
          have hRe : (pdm q (p.drop k)).2 = psub s (pscale cc q) := by rw [hun]
          have HQe := Lib.hid hQe
          have HRe := Lib.hid hRe
          have hx5p := hx5.poly
          obtain ⟨A5, e5, rfl, _⟩ := id hx5
          clear hun hQe hRe hl
          go_wp2_with fail
          refine (hL1 _ _ hx5p).mono ?_
          rintro e w7 ⟨⟨y7, rfl, hy7⟩, hb7⟩
          have g7 := g6.trans (hb7.mono g6.size)
          have hx5p := hx5p.below hb7
          have hx6 := hx6.below hb7
          go_wp2_with fail
          refine (hL2 _ g7).mono ?_
          rintro e w8 ⟨⟨y8, rfl, hy8⟩, hb8⟩
          have g8 := g7.trans (hb8.mono g7.size)
          have hx5p := hx5p.below hb8
          have hx6 := hx6.below hb8
          go_wp2_with fail
          refine (hD_ _ _ _ (hy7.below hb8) hy8).mono ?_
          rintro e w9 ⟨⟨_, rfl, s3, A3, n3, m3, t3, B3, k3, l3, rfl, hcq⟩, hb9⟩
          have g9 := g8.trans (hb9.mono g8.size)
          have hx5p := hx5p.below hb9
          have hx6 := hx6.below hb9
          clear hL1 hL2 hD_
          go_upto_region 12 with (fail)
          generalize hE : World.alloc _ _ = W9
          have hbE : Below w9.heap.size w9 W9 := by rw [← hE]; exact below_alloc _ _
          have c0 : W9.cell? ⟨w9.heap.size, 0, none⟩ = some (.bool s3) := by rw [← hE]; simp [go_sem]
          have c1 : W9.cell? ⟨w9.heap.size, 1, none⟩ = some (.slice A3 n3 m3) := by rw [← hE]; simp [go_sem]
          have c2' : W9.cell? ⟨w9.heap.size, 2, none⟩ = some (.bool t3) := by rw [← hE]; simp [go_sem]
          have c3 : W9.cell? ⟨w9.heap.size, 3, none⟩ = some (.slice B3 k3 l3) := by rw [← hE]; simp [go_sem]
          clear hE
          have gE := g9.trans (hbE.mono g9.size)
          have hx5p := hx5p.below hbE
          have hx6 := hx6.below hbE
          have hcq := hcq.below hbE
          go_wp2_with fail
          refine (hSc _ _ gE hcq.is).mono ?_
          rintro e w10 ⟨⟨y10, rfl, hy10⟩, hb10⟩
          have g10 := gE.trans (hb10.mono gE.size)
          have hx5p := hx5p.below hb10
          have hx6 := hx6.below hb10
          have hcq := hcq.below hb10
          have c0 := cell_below c0 hb10
          have c1 := cell_below c1 hb10
          have c2' := cell_below c2' hb10
          have c3 := cell_below c3 hb10
          go_wp2_with fail
          refine (hSb _ _ _ hx5p hy10.poly).mono ?_
          rintro e w11 ⟨⟨y11, rfl, hy11⟩, hb11⟩
          have g11 := g10.trans (hb11.mono g10.size)
          have hy11 := hy11.mono g10.size
          have hx6 := hx6.below hb11
          have hcq := hcq.below hb11
          have c0 := cell_below c0 hb11
          have c1 := cell_below c1 hb11
          have c2' := cell_below c2' hb11
          have c3 := cell_below c3 hb11
          clear hSc hSb
          go_wp2_with fail
          refine (hCo _ _ hcq.is).mono ?_
          rintro e w12 ⟨⟨y12, rfl, hy12⟩, hb12⟩
          have g12 := g11.trans (hb12.mono g11.size)
          have hy11 := hy11.below hb12
          have hx6 := hx6.below hb12
          go_wp2_with fail
          refine (hAd _ _ _ hx6.poly hy12.poly).mono ?_
          rintro e w13 ⟨⟨y13, rfl, hy13⟩, hb13⟩
          have g13 := g12.trans (hb13.mono g12.size)
          have hy11 := hy11.below hb13
          have hy13 := hy13.mono g12.size
          go_wp2_with fail
          go_roundw
          case rel => exact ⟨k, _, by omega, by go_num, rfl, by rw [HQe.out]; exact hy13, by rw [HRe.out]; exact hy11, g13⟩
          case measure => simp [intOf]
        · have hun := Hun.out
          rw [if_neg hl] at hun
          have eb : ((s.length : Int) == (m : Int)) = false := by rw [beq_eq_false_iff_ne, Hm.out]; omega
          have hQe : (pdm q (p.drop k)).1 = pshift Q1 := by rw [hun]; rfl
          have hRe : (pdm q (p.drop k)).2 = s := by rw [hun]
          have HQe := Lib.hid hQe
          have HRe := Lib.hid hRe
          have hx5' := hx5
          obtain ⟨A5, e5, rfl, _⟩ := hx5
          clear hun hQe hRe hl
          go_wp2_with fail
          go_roundw
          case rel => exact ⟨k, _, by omega, by go_num, rfl, by rw [HQe.out]; exact hx6, by rw [HRe.out]; exact hx5', g6⟩
          case measure => simp [intOf]
    | zero =>
      obtain rfl : z = -1 := by omega
      rw [HE.out.1] at hQ
      rw [HE.out.2] at hR
      clear hz
      go_wp2
      refine bodyPost_ret (results_tmp3 rfl _ _ _) rfl ?_
      exact ⟨⟨_, _, rfl, hQ, hR⟩, hBr⟩

set_option maxHeartbeats 400000 in
theorem p_quo (u v : Value) (p q : List Rat) (w : World) (hu : IsPoly w u p) (hv : IsPoly w v q) (hq : PC q) (hq0 : q ≠ []) (hok : PdmOK p q) :
    Calls Tryz.prog 85 #[u, v] w fun e w' => (∃ x, e = .returned x ∧ IsNew w.heap.size w' x (pquo p q)) ∧ Below w.heap.size w w' := by
  have hD := p_divmod u v p q w hu hv hq hq0 hok
  go_enter Tryz.func85, Tryz.ntmps85
  go_wp2_with fail
  refine hD.mono ?_
  rintro e w1 ⟨⟨x, y, rfl, hx, hy⟩, hb⟩
  go_wp2
  go_ret
  exact ⟨⟨_, rfl, hx⟩, hb⟩
set_option maxHeartbeats 400000 in
theorem p_mod (u v : Value) (p q : List Rat) (w : World) (hu : IsPoly w u p) (hv : IsPoly w v q) (hq : PC q) (hq0 : q ≠ []) (hok : PdmOK p q) :
    Calls Tryz.prog 84 #[u, v] w fun e w' => (∃ x, e = .returned x ∧ IsNew w.heap.size w' x (pmod p q)) ∧ Below w.heap.size w w' := by
  have hD := p_divmod u v p q w hu hv hq hq0 hok
  go_enter Tryz.func84, Tryz.ntmps84
  go_wp2_with fail
  refine hD.mono ?_
  rintro e w1 ⟨⟨x, y, rfl, hx, hy⟩, hb⟩
  go_wp2
  go_ret
  exact ⟨⟨_, rfl, hy⟩, hb⟩

end Go.Proofs.YtlklgeidffjidaaGreat

/- Walks of the reference: Monic, power, Derive (eliminantref07). -/
namespace Go.Proofs.YtlklgeidffjidaaGreat
open Go.RowKit
set_option linter.unusedSimpArgs false

set_option maxHeartbeats 400000 in
theorem p_monic_nil (A : Option Addr) (c n : Nat) (w : World) (hn : n = 0) :
    Calls Tryz.prog 39 #[.slice A n c] w fun e w' => e = .returned (.slice none 0 0) ∧ Below w.heap.size w w' := by
  subst hn
  have hb0 := Below.refl w.heap.size w
  go_enter Tryz.func39, Tryz.ntmps39
  go_wp2_with fail
  go_ret
  exact ⟨rfl, hb0⟩

set_option maxRecDepth 100000 in
set_option maxHeartbeats 2000000 in
theorem p_monic (v : Value) (p : List Rat) (w : World) (hv : IsPoly w v p) (hp : PC p) (hl : p.length ≤ 400000) (hs : Sz p) :
    Calls Tryz.prog 39 #[v] w fun e w' => (∃ v, e = .returned v ∧ IsNew w.heap.size w' v (pmonic p)) ∧ Below w.heap.size w w' := by
  by_cases h0 : p = []
  · subst h0
    obtain ⟨A, c, rfl, _⟩ := hv
    refine (p_monic_nil A c 0 w rfl).mono ?_
    rintro e w1 ⟨rfl, hb⟩
    exact ⟨⟨_, rfl, IsNew.nil _ _ _⟩, hb⟩
  · have hlead := hp.lead_ne h0
    have hL := p_lead v p w hv h0 (by omega)
    have hI := fun W u (hu : IsRat W u (plead p)) => q_Inv u (plead p) W hu (hs _) hlead
    have hSc := fun W x (hW : Below w.heap.size w W) (hx : IsRat W x (plead p)⁻¹) => p_scale x v (plead p)⁻¹ p W hx (hv.below hW) (by omega) (Nat.le_trans (rsz_inv hlead) (hs _)) hs
    have he : pscale (plead p)⁻¹ p = pmonic p := by unfold pmonic; rw [if_neg h0]
    rw [he] at hSc
    clear he
    obtain ⟨A, c, rfl, _⟩ := hv
    have hp0 : 0 < p.length := List.length_pos_iff.2 h0
    generalize (plead p)⁻¹ = y at *
    generalize plead p = x at *
    generalize pmonic p = M at *
    generalize p.length = n at *
    have en : ((n : Int) == 0) = false := by rw [beq_eq_false_iff_ne]; omega
    go_enter Tryz.func39, Tryz.ntmps39
    go_wp2_with fail
    refine hL.mono ?_
    rintro e w1 ⟨⟨y1, rfl, hy1⟩, hb1⟩
    go_wp2_with fail
    refine (hI _ _ hy1).mono ?_
    rintro e w2 ⟨⟨_, rfl, s3, A3, n3, m3, t3, B3, k3, l3, rfl, hq⟩, hb2⟩
    have g2 := hb1.trans (hb2.mono hb1.size)
    go_wp2_with fail
    have hbE := below_alloc w2 (.cells #[.bool s3, .slice A3 n3 m3, .bool t3, .slice B3 k3 l3] 31)
    have g3 := g2.trans (hbE.mono g2.size)
    refine (hSc _ _ g3 (hq.below hbE).is).mono ?_
    rintro e w3 ⟨⟨y3, rfl, hy3⟩, hb3⟩
    go_wp2_with fail
    go_ret
    exact ⟨⟨_, rfl, hy3.mono g3.size⟩, g3.trans (hb3.mono g3.size)⟩

set_option maxRecDepth 100000 in
set_option maxHeartbeats 4000000 in
theorem p_power (u : Value) (x : Rat) (n : Nat) (z : Int) (w : World) (hu : IsRat w u x) (X : Nat) (hX : rsz x ≤ X) (hz : z = (n : Int)) (hn : n ≤ 400000) (hs : 1 + n * X + X ≤ 68719476736) :
    Calls Tryz.prog 92 #[u, .int .i64 z] w fun e w' => (∃ v, e = .returned v ∧ IsRat w' v (x ^ n)) ∧ Below w.heap.size w w' := by
  subst hz
  have hW := fun W => q_whole 1 W (by omega) (by omega)
  have e1 : ((1 : Int) : Rat) = x ^ 0 := by rw [Rat.pow_zero]; rfl
  rw [e1] at hW
  clear e1
  have HP : ∀ k, k ≤ n → Hid (rsz (x ^ k) ≤ 68719476736) := fun k hk => Lib.hid (by
    have := rsz_pow hX k
    have : k * X ≤ n * X := Nat.mul_le_mul_right _ hk
    omega)
  have hXX : rsz x ≤ 68719476736 := by omega
  clear hs hX
  obtain ⟨s0, A0, n0, c0, t0, B0, m0, d0, rfl, hx⟩ := hu
  go_enter Tryz.func92, Tryz.ntmps92
  go_wp2_with fail
  generalize hE : World.alloc _ _ = W
  have hBW : Below w.heap.size w W := by rw [← hE]; exact (below_alloc _ _).trans ((below_alloc _ _).mono (by simp))
  have rX : RatAt W w.heap.size 0 x := ⟨s0, A0, n0, c0, t0, B0, m0, d0, by rw [← hE]; simp [go_sem], by rw [← hE]; simp [go_sem], by rw [← hE]; simp [go_sem], by rw [← hE]; simp [go_sem], hx.below hBW⟩
  have rR : RC4 W (w.heap.size + 1) := by rw [← hE]; exact ⟨by simp [go_sem], by simp [go_sem], by simp [go_sem], by simp [go_sem], by simp [go_sem], by simp⟩
  clear hE
  refine (hW _).mono ?_
  rintro e w1 ⟨⟨_, rfl, s, A1, n1, c1, t, B1, m1, d1, rfl, hq⟩, hb1⟩
  have hBW := hBW.trans (hb1.mono hBW.size)
  have rX := rX.below hb1
  have rR := rR.below hb1
  clear hb1
  go_wp2_with fail
  generalize hE : World.alloc _ _ = W2
  have hb2 : Below w1.heap.size w1 W2 := by rw [← hE]; exact below_alloc _ _
  have rS : RatAt W2 w1.heap.size 0 (x ^ 0) := ⟨s, A1, n1, c1, t, B1, m1, d1, by rw [← hE]; simp [go_sem], by rw [← hE]; simp [go_sem], by rw [← hE]; simp [go_sem], by rw [← hE]; simp [go_sem], hq.below hb2⟩
  have fS : ∀ o, W2.frozen? ⟨w1.heap.size, o, none⟩ = false := by rw [← hE]; simp [go_sem]
  clear hE
  have hBW := hBW.trans (hb2.mono hBW.size)
  have hgx : w.heap.size + 1 < w1.heap.size := rR.2.2.2.2.2
  have rX := rX.below hb2
  have rR := rR.below hb2
  clear hb2 hq hx
  generalize w1.heap.size = g at *
  go_loopg [6] n (fun k s8 wr => ∃ i : Nat, s8 = .int .i64 (i : Int) ∧ Hid (i + k = n) ∧ RatAt wr w.heap.size 0 x ∧ RC4 wr (w.heap.size + 1) ∧ RatAt wr g 0 (x ^ i) ∧ (∀ o, wr.frozen? ⟨g, o, none⟩ = false) ∧ Below w.heap.size w wr)
  case atStart => exact ⟨0, rfl, Lib.hid (by omega), rX, rR, rS, fS, hBW⟩
  case round =>
    clear rX rR rS fS hBW
    obtain ⟨i, rfl, hik, rX, rR, rS, fS, hBW⟩ := hrel
    by_cases h0 : i < n
    · obtain ⟨s2, A2, n2, c2, t2, B2, m2, d2, x1, x2, x3, x4, x5⟩ := id rX
      obtain ⟨s3, A3, n3, c3, t3, B3, m3, d3, k1, k2, k3, k4, k5⟩ := id rS
      simp only [Nat.zero_add] at x1 x2 x3 x4 k1 k2 k3 k4
      have hgl := rS.lt
      have hmul := q_Mul _ _ (x ^ i) x wr (RatP.is k5) (RatP.is x5) (HP i (by omega)).out hXX
      rw [← Rat.pow_succ] at hmul
      clear x5 k5
      go_wp2_with fail
      refine hmul.mono ?_
      rintro e w2 ⟨⟨_, rfl, s6, A6, n6, c6, t6, B6, m6, d6, rfl, hq⟩, hb⟩
      have k1 := cell_below k1 hb
      have k2 := cell_below k2 hb
      have k3 := cell_below k3 hb
      have k4 := cell_below k4 hb
      have fS : ∀ o, w2.frozen? ⟨g, o, none⟩ = false := fun o => ((kept_cells hb).2 _ _ hgl).trans (fS o)
      have hF := (rS.below hb).four
      have e3 : RatAt (st4 w2 g 0 s6 A6 n6 c6 t6 B6 m6 d6) g 0 (x ^ (i + 1)) := RatAt.put hF hq
      have e4 : RatAt (st4 w2 g 0 s6 A6 n6 c6 t6 B6 m6 d6) w.heap.size 0 x := (rX.below hb).other hF (Or.inl (by omega))
      have e5 : RC4 (st4 w2 g 0 s6 A6 n6 c6 t6 B6 m6 d6) (w.heap.size + 1) := (rR.below hb).belowB (below_st4 (Nat.le_refl g) 0) hgx
      have e6 := (hb.mono hBW.size).trans (below_st4 (w := w2) (g := g) (B0 := w.heap.size) (by omega) 0 (s := s6) (A := A6) (n := n6) (c := c6) (t := t6) (B := B6) (m := m6) (d := d6))
      have e7 := hBW.trans e6
      go_wp2_with fail
      go_roundg (gk - 1)
      case measure => have := hik.out; omega
      case rel => exact ⟨i + 1, by simp, Lib.hid (by have := hik.out; omega), e4, e5, e3, fun o => st4_frozen.trans (fS o), e7⟩
    · have hin : i = n := by have := hik.out; omega
      subst hin
      obtain ⟨s3, A3, n3, c3, t3, B3, m3, d3, k1, k2, k3, k4, k5⟩ := id rS
      simp only [Nat.zero_add] at k1 k2 k3 k4
      have hP := rat_put' hBW (g := w.heap.size + 1) (by omega) rR k5
      obtain ⟨r1, r2, r3, r4, rf, rl⟩ := rR
      clear k5
      go_wp2_with fail
      exact bodyPost_ret (v := .agg #[.bool s3, .slice A3 n3 c3, .bool t3, .slice B3 m3 d3]) (by simp [results, Tryz.results92, go_sem, r1, r2, r3, r4]) rfl ⟨⟨_, rfl, RatP.is hP.1⟩, hP.2⟩

/-- The first coefficients of a derivative. -/
def derk (p : List Rat) (k : Nat) : List Rat := (List.range k).map (fun i => ((((i + 1 : Nat) : Int)) : Rat) * p.getD (i + 1) 0)
theorem derk_succ (p : List Rat) (k : Nat) : derk p (k + 1) = derk p k ++ [((((k + 1 : Nat) : Int)) : Rat) * p.getD (k + 1) 0] := by simp [derk, List.range_succ]
theorem derk_length (p : List Rat) (k : Nat) : (derk p k).length = k := by simp [derk]
theorem derk_all (p : List Rat) : derk p (p.length - 1) = pder p := by
  unfold derk pder
  refine List.map_congr_left (fun i _ => ?_)
  rw [Rat.mul_comm]; rfl

set_option maxRecDepth 100000 in
set_option maxHeartbeats 2000000 in
theorem p_derive (v : Value) (p : List Rat) (w : World) (hv : IsPoly w v p) (hl : p.length ≤ 400000) (hT : Sz p) :
    Calls Tryz.prog 40 #[v] w fun e w' => (∃ v, e = .returned v ∧ IsNew w.heap.size w' v (pder p)) ∧ Below w.heap.size w w' := by
  have HE := Lib.hid (derk_all p)
  obtain ⟨A, c, rfl, hA, hc⟩ := hv
  obtain ⟨N, HN⟩ : ∃ N, Hid (N = p.length) := ⟨_, Lib.hid rfl⟩
  rw [← HN.out] at hl hc HE ⊢
  go_enter Tryz.func40, Tryz.ntmps40
  go_wp2_with fail
  go_loopw [3, 4] (fun s3 s4 wr => ∃ (k : Nat), k ≤ N - 1 ∧ s4 = .int .i64 ((k + 1 : Nat) : Int) ∧ IsRow w.heap.size wr s3 (derk p k) ∧ Below w.heap.size w wr) (fun _ i _ => N - (intOf i).toNat)
  case atStart => exact ⟨0, Nat.zero_le _, rfl, IsRow.empty w (Nat.le_refl _), below_alloc _ _⟩
  case round =>
    obtain ⟨k, hk, rfl, hR, hBr⟩ := hrel
    by_cases hlt : k + 1 < N
    · have hkq : k + 1 < p.length := by rw [← HN.out]; exact hlt
      obtain ⟨b, off, rfl, h⟩ := hA (k + 1) hkq
      obtain ⟨s2, A2, n2, c2, t2, B2, m2, d2, h1, h2, h3, h4, h5⟩ := h
      have hW := fun W => q_whole ((k + 1 : Nat) : Int) W (by omega) (by omega)
      have hM := fun W x (hx : IsRat W x ((((k + 1 : Nat) : Int)) : Rat)) (hW : Below w.heap.size w W) => q_Mul x _ _ _ W hx (h5.below hW).is (Nat.le_trans (rsz_nat (k := k + 1) (by unfold base; omega)) (by omega)) (hT (k + 1))
      have HMS := Lib.hid (derk_succ p k)
      have HML := Lib.hid (derk_length p k)
      generalize hqq : ((((k + 1 : Nat) : Int)) : Rat) = qk at *
      have Hqq := Lib.hid hqq
      clear hqq
      have hz : w.heap.size ≤ wr.heap.size := hBr.size
      have hlt' : ((k : Int) + 1) < (N : Int) := by omega
      go_upto_region 5 with (fail)
      go_region_held3 (fun w' => Below w.heap.size w w' ∧ w'.cell? ⟨b, off + (k + 1) * 4, none⟩ = some (.bool s2) ∧ w'.cell? ⟨b, off + (k + 1) * 4 + 1, none⟩ = some (.slice A2 n2 c2) ∧ w'.cell? ⟨b, off + (k + 1) * 4 + 2, none⟩ = some (.bool t2) ∧ w'.cell? ⟨b, off + (k + 1) * 4 + 3, none⟩ = some (.slice B2 m2 d2))
        (((try dsimp only); refine S_4 h1 h2 h3 h4 ?_; repeat' (first | with_reducible assumption | with_reducible exact And.left (by assumption) | with_reducible refine Below.alloc' (Nat.le_refl _) ?_ | with_reducible refine Below.drew' ?_)))
        (first
          | (go_at_call 22
             refine (hW _).mono ?_
             rintro e w3 ⟨⟨x3, rfl, hx3⟩, hb3⟩
             have g3 : Below w.heap.size w w3 := hBr.trans (((below_drew' _).trans hb3).mono hz)
             have hR3 := (hR.drewn).below hb3)
          | (go_at_call 50
             refine (hM _ _ hx3 g3).mono ?_
             rintro e w4 ⟨⟨_, rfl, s5, A5, n5, m5, t5, B5, k5, l5, rfl, hq⟩, hb4⟩
             have g4 : Below w.heap.size w w4 := g3.trans (hb4.mono g3.size)
             have hR4 := hR3.below hb4)
          | ((refine wp_append_row _ _ 23 (by rfl) Tryz.underlying23 (by rfl) (by rfl) (by (repeat' (first | assumption | with_reducible apply IsRow.allocd | with_reducible apply IsRow.drewn)); first | done | fail) (Below.size (w := w) (B := w.heap.size) (by (repeat' (first | with_reducible assumption | with_reducible refine Below.alloc' (Nat.le_refl _) ?_ | with_reducible refine Below.drew' ?_)); first | done | fail)) (by (repeat' (first | assumption | with_reducible apply RatP.allocd | with_reducible apply RatP.drewn)); first | done | fail) (by simp [go_sem]) (by simp [go_sem]) (by simp [go_sem]) (by simp [go_sem]) (by rw [HML.out]; omega) ?_)
             intro v5 w5 hrow hb5
             have g5 : Below w.heap.size w w5 := Below.trans (by (repeat' (first | with_reducible assumption | with_reducible refine Below.alloc' (Nat.le_refl _) ?_ | with_reducible refine Below.drew' ?_)); first | done | fail) hb5))
      all_goals
        rw [← HMS.out] at hrow
        go_wp2
        go_roundw
        case rel => exact ⟨k + 1, by omega, by go_num, hrow, g5⟩
        case measure => simp [intOf]; omega
    · have hkN : k = N - 1 := by omega
      rw [hkN, HE.out] at hR
      have Hk := Lib.hid hkN
      clear hkN
      have hlt' : ¬ ((k : Int) + 1) < (N : Int) := by omega
      go_wp2_with fail
      go_ret
      exact ⟨⟨_, rfl, hR.isnew⟩, hBr⟩

end Go.Proofs.YtlklgeidffjidaaGreat

/- Walks of the reference: Eval, Compose (eliminantref07). -/
namespace Go.Proofs.YtlklgeidffjidaaGreat
open Go.RowKit
set_option linter.unusedSimpArgs false

theorem IsRat.drewn {W : World} {v : Value} {q : Rat} (h : IsRat W v q) : IsRat W.drew v q := h.below (below_drew' _)
theorem ev_drop_step {p : List Rat} {k : Nat} (hk : k < p.length) (x : Rat) : ev (p.drop (k + 1)) x * x + p.getD k 0 = ev (p.drop k) x := by
  rw [ev_drop_cons k x hk, Rat.mul_comm, Rat.add_comm]

set_option maxRecDepth 100000 in
set_option maxHeartbeats 4000000 in
theorem p_eval (u v : Value) (p : List Rat) (x : Rat) (w : World) (hu : IsPoly w u p) (hv : IsRat w v x) (hl : p.length ≤ 400000) (hX : rsz x ≤ 68719476736) (hT : Sz p) (hS : ∀ k, rsz (ev (p.drop k) x) ≤ 68719476736 ∧ rsz (ev (p.drop k) x * x) ≤ 68719476736) :
    Calls Tryz.prog 43 #[u, v] w fun e w' => (∃ v, e = .returned v ∧ IsRat w' v (ev p x)) ∧ Below w.heap.size w w' := by
  obtain ⟨A, c, rfl, hA, hc⟩ := hu
  obtain ⟨s0, A0, n0, c0, t0, B0, m0, d0, rfl, hx⟩ := hv
  have hW := fun W => q_whole 0 W (by omega) (by omega)
  obtain ⟨N, HN⟩ : ∃ N, Hid (N = p.length) := ⟨_, Lib.hid rfl⟩
  have e1 : ((0 : Int) : Rat) = ev (p.drop N) x := by rw [HN.out, List.drop_length]; rfl
  rw [e1] at hW
  have HE : Hid (ev (p.drop 0) x = ev p x) := Lib.hid (by rw [List.drop_zero])
  rw [← HN.out] at hl hc ⊢
  clear e1
  go_enter Tryz.func43, Tryz.ntmps43
  go_wp2_with fail
  generalize hE : World.alloc _ _ = W
  have hBW : Below w.heap.size w W := by rw [← hE]; exact (below_alloc _ _).trans ((below_alloc _ _).mono (by simp))
  have a0 : W.cell? ⟨w.heap.size, 0, none⟩ = some (.bool s0) := by rw [← hE]; simp [go_sem]
  have a1 : W.cell? ⟨w.heap.size, 1, none⟩ = some (.slice A0 n0 c0) := by rw [← hE]; simp [go_sem]
  have a2 : W.cell? ⟨w.heap.size, 2, none⟩ = some (.bool t0) := by rw [← hE]; simp [go_sem]
  have a3 : W.cell? ⟨w.heap.size, 3, none⟩ = some (.slice B0 m0 d0) := by rw [← hE]; simp [go_sem]
  have rR : RC4 W (w.heap.size + 1) := by rw [← hE]; exact ⟨by simp [go_sem], by simp [go_sem], by simp [go_sem], by simp [go_sem], by simp [go_sem], by simp⟩
  clear hE
  have hxW := hx.below hBW
  have hAW := hA.below hBW
  refine (hW _).mono ?_
  rintro e w1 ⟨⟨_, rfl, s, A1, n1, c1, t, B1, m1, d1, rfl, hq⟩, hb1⟩
  go_upto_region 2 with (fail)
  generalize hE : World.alloc _ _ = W2
  have hb2 : Below w1.heap.size w1 W2 := by rw [← hE]; exact below_alloc _ _
  have rS : RatAt W2 w1.heap.size 0 (ev (p.drop N) x) := ⟨s, A1, n1, c1, t, B1, m1, d1, by rw [← hE]; simp [go_sem], by rw [← hE]; simp [go_sem], by rw [← hE]; simp [go_sem], by rw [← hE]; simp [go_sem], hq.below hb2⟩
  have fS : ∀ o, W2.frozen? ⟨w1.heap.size, o, none⟩ = false := by rw [← hE]; simp [go_sem]
  clear hE
  have hB2 := hb1.trans (hb2.mono hb1.size)
  have hge : W.heap.size ≤ w1.heap.size := hb1.size
  clear hb2 hq hb1
  generalize w1.heap.size = g at *
  go_wp2_with fail
  go_loopw [6] (fun s6 wr => ∃ (k : Nat) (z : Int), k ≤ N ∧ s6 = .int .i64 z ∧ z = (k : Int) - 1 ∧ RatAt wr g 0 (ev (p.drop k) x) ∧ (∀ o, wr.frozen? ⟨g, o, none⟩ = false) ∧ Below W.heap.size W wr) (fun i _ => (intOf i + 1).toNat)
  case atStart => exact ⟨N, _, Nat.le_refl _, rfl, rfl, rS, fS, hB2⟩
  case round =>
    clear rS fS hB2
    obtain ⟨k, z, hk, rfl, hz, rS, fS, hBr⟩ := hrel
    cases k with
    | succ k =>
      obtain rfl : z = (k : Int) := by omega
      clear hz
      have hkp : k < p.length := by rw [← HN.out]; omega
      obtain ⟨b, off, rfl, h⟩ := hAW k hkp
      obtain ⟨s2, A2, n2, c2, t2, B2, m2, d2, h1, h2, h3, h4, h5⟩ := h
      obtain ⟨s3, A3, n3, c3, t3, B3, m3, d3, k1, k2, k3, k4, k5⟩ := id rS
      simp only [Nat.zero_add] at k1 k2 k3 k4
      have hgl := rS.lt
      have HV := Lib.hid (ev_drop_step hkp x)
      have hM := fun W' (hW' : Below wr.heap.size wr W') => q_Mul _ _ (ev (p.drop (k + 1)) x) x W' (k5.below hW').is ((hxW.below hBr).below hW').is (hS (k + 1)).1 hX
      have hA_ := fun W' y (hy : IsRat W' y (ev (p.drop (k + 1)) x * x)) (hW' : Below W.heap.size W W') => q_Add y _ _ (p.getD k 0) W' hy (h5.below hW').is (hS (k + 1)).2 (hT k)
      rw [HV.out] at hA_
      have hz : W.heap.size ≤ wr.heap.size := hBr.size
      go_upto_region 5 with (fail)
      go_region_held3 (fun w' => Below W.heap.size W w' ∧ w'.cell? ⟨w.heap.size, 0, none⟩ = some (.bool s0) ∧ w'.cell? ⟨w.heap.size, 1, none⟩ = some (.slice A0 n0 c0) ∧ w'.cell? ⟨w.heap.size, 2, none⟩ = some (.bool t0) ∧ w'.cell? ⟨w.heap.size, 3, none⟩ = some (.slice B0 m0 d0) ∧ w'.cell? ⟨b, off + k * 4, none⟩ = some (.bool s2) ∧ w'.cell? ⟨b, off + k * 4 + 1, none⟩ = some (.slice A2 n2 c2) ∧ w'.cell? ⟨b, off + k * 4 + 2, none⟩ = some (.bool t2) ∧ w'.cell? ⟨b, off + k * 4 + 3, none⟩ = some (.slice B2 m2 d2))
        (((try dsimp only); refine S_8 a0 a1 a2 a3 h1 h2 h3 h4 ?_; repeat' (first | with_reducible assumption | with_reducible exact And.left (by assumption) | with_reducible refine Below.alloc' (Nat.le_refl _) ?_ | with_reducible refine Below.drew' ?_ | with_reducible refine Below.set' (by omega) ?_)))
        (first
          | (go_at_call 50
             refine (hM _ (below_drew' _)).mono ?_
             rintro e w3 ⟨⟨x3, rfl, hx3⟩, hb3⟩
             have r3 : Below wr.heap.size wr w3 := (below_drew' _).trans hb3
             have g3 : Below W.heap.size W w3 := hBr.trans (r3.mono hz))
          | (go_at_call 49
             refine (hA_ _ _ (by (repeat' (first | assumption | with_reducible apply IsRat.drewn)); first | done | fail) (And.left (by assumption))).mono ?_
             rintro e w4 ⟨⟨_, rfl, s5, A5, n5, m5, t5, B5, k5', l5, rfl, hq⟩, hb4⟩
             have r4 : Below wr.heap.size wr w4 := r3.trans (Below.mono (by first | exact hb4 | exact (below_drew' _).trans hb4) r3.size)
             have g4 : Below W.heap.size W w4 := hBr.trans (r4.mono hz)
             have hF := (rS.below r4).four
             have q1 := cell_below k1 r4
             have q2 := cell_below k2 r4
             have q3 := cell_below k3 r4
             have q4 := cell_below k4 r4
             have fS4 : ∀ o, w4.frozen? ⟨g, o, none⟩ = false := fun o => ((kept_cells r4).2 _ _ hgl).trans (fS o)))
      all_goals
        have e3 : RatAt (st4 w4 g 0 s5 A5 n5 m5 t5 B5 k5' l5) g 0 (ev (p.drop k) x) := RatAt.put hF hq
        have e6 := g4.trans (below_st4 (w := w4) (g := g) (B0 := W.heap.size) (by omega) 0 (s := s5) (A := A5) (n := n5) (c := m5) (t := t5) (B := B5) (m := k5') (d := l5))
        go_wp2
        go_roundw
        case rel => exact ⟨k, _, by omega, by go_num, rfl, e3, fun o => st4_frozen.trans (fS4 o), e6⟩
        case measure => simp [intOf]
    | zero =>
      obtain rfl : z = -1 := by omega
      rw [HE.out] at rS
      obtain ⟨s3, A3, n3, c3, t3, B3, m3, d3, k1, k2, k3, k4, k5⟩ := id rS
      simp only [Nat.zero_add] at k1 k2 k3 k4
      have rR := rR.below hBr
      have hBw := hBW.trans (hBr.mono hBW.size)
      have hP := rat_put' hBw (g := w.heap.size + 1) (by omega) rR k5
      obtain ⟨r1, r2, r3, r4, rf, rl⟩ := rR
      clear k5 hz
      go_wp2_with fail
      exact bodyPost_ret (v := .agg #[.bool s3, .slice A3 n3 c3, .bool t3, .slice B3 m3 d3]) (by simp [results, Tryz.results43, go_sem, r1, r2, r3, r4]) rfl ⟨⟨_, rfl, RatP.is hP.1⟩, hP.2⟩

theorem pcomp_drop {p q : List Rat} {k : Nat} (hk : k < p.length) : padd (pmul (pcomp (p.drop (k + 1)) q) q) (pcon (p.getD k 0)) = pcomp (p.drop k) q := by
  rw [pdm_drop (q := q) hk]; rfl
/-- What is asked of the sizes of a composition, step by step. -/
def CompOK (p q : List Rat) : Prop := p.length ≤ 400000 ∧ q.length ≤ 400000 ∧ Sz p ∧ ∀ k, (pcomp (p.drop k) q).length ≤ 400000 ∧ ∃ S T, SzB (pcomp (p.drop k) q) S ∧ SzB q T ∧ 1 + (pcomp (p.drop k) q).length * (S + T + 1) ≤ 68719476736

set_option maxRecDepth 100000 in
set_option maxHeartbeats 4000000 in
theorem p_compose (u v : Value) (p q : List Rat) (w : World) (hu : IsPoly w u p) (hv : IsPoly w v q) (hok : CompOK p q) :
    Calls Tryz.prog 45 #[u, v] w fun e w' => (∃ v, e = .returned v ∧ IsNew w.heap.size w' v (pcomp p q)) ∧ Below w.heap.size w w' := by
  obtain ⟨hlp, hlq, hsp, hok⟩ := hok
  have hv' := hv
  obtain ⟨A, c, rfl, hA, hc⟩ := hu
  obtain ⟨B, d, rfl, hB, hd⟩ := hv
  obtain ⟨N, HN⟩ : ∃ N, Hid (N = p.length) := ⟨_, Lib.hid rfl⟩
  have HE : Hid (pcomp (p.drop 0) q = pcomp p q) := Lib.hid (by rw [List.drop_zero])
  rw [← HN.out] at hlp hc ⊢
  clear hB
  go_enter Tryz.func45, Tryz.ntmps45
  go_wp2_with fail
  go_loopw [5, 6] (fun s5 s6 wr => ∃ (k : Nat) (z : Int), k ≤ N ∧ s6 = .int .i64 z ∧ z = (k : Int) - 1 ∧ IsNew w.heap.size wr s5 (pcomp (p.drop k) q) ∧ Below w.heap.size w wr) (fun _ i _ => (intOf i + 1).toNat)
  case atStart =>
    refine ⟨N, _, Nat.le_refl _, rfl, rfl, ?_, below_alloc _ _⟩
    have : pcomp (p.drop N) q = [] := by rw [HN.out, List.drop_length]; rfl
    rw [this]
    exact ⟨_, 0, rfl, PolyAt.nil _ _, Nat.le_refl _, fun a ha h0 => absurd rfl h0⟩
  case round =>
    obtain ⟨k, z, hk, rfl, hz, hR, hBr⟩ := hrel
    cases k with
    | succ k =>
      obtain rfl : z = (k : Int) := by omega
      clear hz
      have hkp : k < p.length := by rw [← HN.out]; omega
      have HP := Lib.hid (pcomp_drop (q := q) hkp)
      obtain ⟨b, off, rfl, h⟩ := hA k hkp
      obtain ⟨s2, A2, n2, c2, t2, B2, m2, d2, h1, h2, h3, h4, h5⟩ := h
      obtain ⟨hcl, S, T, hcS, hcT, hcs⟩ := hok (k + 1)
      have hM := fun W (hW : Below wr.heap.size wr W) (hW2 : Below w.heap.size w W) => p_mul _ _ _ q W (hR.poly.below hW) (hv'.below hW2) hcl hlq S T hcS hcT hcs
      have hC := fun W (hW : Below w.heap.size w W) => p_constant _ (p.getD k 0) W (h5.below hW).is
      have hAd := fun W x y (hx : IsPoly W x (pmul (pcomp (p.drop (k + 1)) q) q)) (hy : IsPoly W y (pcon (p.getD k 0))) => p_add x y _ _ W hx hy (by have := pmul_length_le (pcomp (p.drop (k + 1)) q) q; omega) (by have := pcon_length_le (p.getD k 0); omega)
        (fun j => Nat.le_trans ((hcS.mul hcT) j) (by omega)) (SzB.con (hsp k))
      rw [HP.out] at hAd
      have hz : w.heap.size ≤ wr.heap.size := hBr.size
      go_upto_region 5 with (fail)
      go_region_held3 (fun w' => Below w.heap.size w w' ∧ w'.cell? ⟨b, off + k * 4, none⟩ = some (.bool s2) ∧ w'.cell? ⟨b, off + k * 4 + 1, none⟩ = some (.slice A2 n2 c2) ∧ w'.cell? ⟨b, off + k * 4 + 2, none⟩ = some (.bool t2) ∧ w'.cell? ⟨b, off + k * 4 + 3, none⟩ = some (.slice B2 m2 d2))
        (((try dsimp only); refine S_4 h1 h2 h3 h4 ?_; repeat' (first | with_reducible assumption | with_reducible exact And.left (by assumption) | with_reducible refine Below.alloc' (Nat.le_refl _) ?_ | with_reducible refine Below.drew' ?_ | with_reducible refine Below.set' (by omega) ?_)))
        (first
          | (go_at_call 29
             refine (hM _ (below_drew' _) (And.left (by assumption))).mono ?_
             rintro e w3 ⟨⟨x3, rfl, hx3⟩, hb3⟩
             have g3 : Below w.heap.size w w3 := hBr.trans (((below_drew' _).trans hb3).mono hz))
          | (go_at_call 51
             refine (hC _ (And.left (by assumption))).mono ?_
             rintro e w4 ⟨⟨x4, rfl, hx4⟩, hb4⟩
             have hx3' := hx3.poly.below hb4
             have g4 : Below w.heap.size w w4 := g3.trans (hb4.mono g3.size))
          | (go_at_call 36
             refine (hAd _ _ _ hx3' hx4.poly).mono ?_
             rintro e w5 ⟨⟨x5, rfl, hx5⟩, hb5⟩
             have g5 : Below w.heap.size w w5 := g4.trans (hb5.mono g4.size)))
      all_goals
        go_wp2
        go_roundw
        case rel => exact ⟨k, _, by omega, by go_num, rfl, hx5.mono g4.size, g5⟩
        case measure => simp [intOf]
    | zero =>
      obtain rfl : z = -1 := by omega
      rw [HE.out] at hR
      clear hz
      go_wp2
      go_ret
      exact ⟨⟨_, rfl, hR⟩, hBr⟩

end Go.Proofs.YtlklgeidffjidaaGreat

/- The walk of the reference: Resultant (eliminantref07). -/
namespace Go.Proofs.YtlklgeidffjidaaGreat
open Go.RowKit
set_option linter.unusedSimpArgs false

/-- The sign of an exchange. -/
def rs (M N : Nat) : Rat := if M % 2 = 1 ∧ N % 2 = 1 then -1 else 1
/-- The resultant by remainders. -/
def rresF : Nat → List Rat → List Rat → Rat
  | 0, _, _ => 0
  | f + 1, a, b => if a = [] ∨ b = [] then 0 else if b.length = 1 then b.getD 0 0 ^ (a.length - 1) else
      if a.length < b.length then rs (a.length - 1) (b.length - 1) * rresF f b a
      else if pmod a b = [] then 0 else rs (a.length - 1) (b.length - 1) * plead b ^ (a.length - (pmod a b).length) * rresF f b (pmod a b)
/-- What is asked of the sizes. -/
def RresOK : Nat → List Rat → List Rat → Prop
  | 0, _, _ => True
  | f + 1, a, b => a.length ≤ 400000 ∧ b.length ≤ 400000 ∧ (a ≠ [] → b ≠ [] → if b.length = 1 then PowOK (b.getD 0 0) 1 (a.length - 1) else
      if a.length < b.length then rsz (rresF f b a) ≤ 68719476736 ∧ RresOK f b a
      else PdmOK a b ∧ (pmod a b ≠ [] → PowOK (plead b) 1 (a.length - (pmod a b).length) ∧ rsz (rs (a.length - 1) (b.length - 1) * plead b ^ (a.length - (pmod a b).length)) ≤ 68719476736 ∧ rsz (rresF f b (pmod a b)) ≤ 68719476736 ∧ RresOK f b (pmod a b)))
theorem rsz_rs (M N : Nat) : rsz (rs M N) ≤ 68719476736 := by
  unfold rs; split
  · rw [rsz_neg_one]; omega
  · rw [rsz_one]; omega
theorem IsPoly.drewn {W : World} {v : Value} {q : List Rat} (h : IsPoly W v q) : IsPoly W.drew v q := h.below (below_drew' _)
def SignR (w : World) (g : Nat) (x : Rat) (wr : World) : Prop := RatAt wr g 0 x ∧ RC4 wr w.heap.size ∧ Below w.heap.size w wr

set_option maxRecDepth 100000 in
set_option maxHeartbeats 1000000 in
theorem p_res_nil (A B : Option Addr) (n m c d : Nat) (w : World) (h : n = 0 ∨ (0 < n ∧ m = 0)) :
    Calls Tryz.prog 47 #[.slice A n c, .slice B m d] w fun e w' => (∃ v, e = .returned v ∧ IsRat w' v 0) ∧ Below w.heap.size w w' := by
  have hW := fun W => q_whole 0 W (by omega) (by omega)
  have e : ((0 : Int) : Rat) = 0 := rfl
  rw [e] at hW
  generalize (0 : Rat) = q at *
  clear e
  have key : ((n : Int) == 0) = true ∨ (((n : Int) == 0) = false ∧ ((m : Int) == 0) = true) := by
    rcases h with h | ⟨h, h'⟩
    · exact Or.inl (by rw [beq_iff_eq]; omega)
    · exact Or.inr ⟨by rw [beq_eq_false_iff_ne]; omega, by rw [beq_iff_eq]; omega⟩
  clear h
  rcases key with en | ⟨en, em⟩
  all_goals
    go_enter Tryz.func47, Tryz.ntmps47
    go_wp2_with fail
    generalize hE : World.alloc _ _ = W
    have hBW : Below w.heap.size w W := by rw [← hE]; exact below_alloc _ _
    have hR : RC4 W w.heap.size := by rw [← hE]; exact ⟨by simp [go_sem], by simp [go_sem], by simp [go_sem], by simp [go_sem], by simp [go_sem], by simp⟩
    clear hE
    refine (hW _).mono ?_
    rintro e w1 ⟨⟨_, rfl, s3, A3, n3, m3, t3, B3, k3, l3, rfl, hq⟩, hb⟩
    have hBW := hBW.trans (hb.mono hBW.size)
    have hR := hR.below hb
    have hP := rat_put' hBW (by omega) hR hq
    obtain ⟨r0, r1, r2, r3, rf, rl⟩ := hR
    go_wp2
    exact bodyPost_ret (v := .agg #[.bool s3, .slice A3 n3 m3, .bool t3, .slice B3 k3 l3]) (by simp [results, Tryz.results47, go_sem, r0, r1, r2, r3]) rfl ⟨⟨_, rfl, RatP.is hP.1⟩, hP.2⟩

set_option maxRecDepth 100000 in
set_option maxHeartbeats 1000000 in
theorem p_res_const (u v : Value) (p q : List Rat) (w : World) (hu : IsPoly w u p) (hv : IsPoly w v q) (hp : p ≠ []) (hq : q.length = 1) (hok : PowOK (q.getD 0 0) 1 (p.length - 1)) :
    Calls Tryz.prog 47 #[u, v] w fun e w' => (∃ v, e = .returned v ∧ IsRat w' v (q.getD 0 0 ^ (p.length - 1))) ∧ Below w.heap.size w w' := by
  have hp0 : 0 < p.length := List.length_pos_iff.2 hp
  obtain ⟨M, HM⟩ : ∃ M, Hid (p.length = M + 1) := ⟨p.length - 1, Lib.hid (by omega)⟩
  obtain ⟨A, c, rfl, hA, hc⟩ := hu
  obtain ⟨B, d, rfl, hB, hd⟩ := hv
  obtain ⟨b, off, rfl, h⟩ := hB 0 (by omega)
  have hlt := h.lt
  obtain ⟨s2, A2, n2, c2, t2, B2, m2, d2, k1, k2, k3, k4, k5⟩ := h
  simp only [Nat.zero_mul, Nat.add_zero] at k1 k2 k3 k4
  rw [HM.out] at hok ⊢
  rw [hq]
  rw [Nat.add_sub_cancel] at hok ⊢
  obtain ⟨h1, _, X, h2, h3⟩ := hok
  have hPw := fun W (hW : Below w.heap.size w W) => p_power _ (q.getD 0 0) M (M : Int) W (k5.below hW).is X h2 rfl h1 h3
  generalize q.getD 0 0 ^ M = y at *
  clear hA hB hq hp hp0 h2 h3
  have en : ((M : Int) + 1 == 0) = false := by rw [beq_eq_false_iff_ne]; omega
  go_enter Tryz.func47, Tryz.ntmps47
  go_wp2_with fail
  generalize hE : World.alloc _ _ = W
  have hBW : Below w.heap.size w W := by rw [← hE]; exact below_alloc _ _
  have hR : RC4 W w.heap.size := by rw [← hE]; exact ⟨by simp [go_sem], by simp [go_sem], by simp [go_sem], by simp [go_sem], by simp [go_sem], by simp⟩
  clear hE
  refine (hPw _ hBW).mono ?_
  rintro e w1 ⟨⟨_, rfl, s3, A3, n3, m3, t3, B3, k3, l3, rfl, hq⟩, hb⟩
  have hBW := hBW.trans (hb.mono hBW.size)
  have hR := hR.below hb
  have hP := rat_put' hBW (by omega) hR hq
  obtain ⟨r0, r1, r2, r3, rf, rl⟩ := hR
  go_wp2
  exact bodyPost_ret (v := .agg #[.bool s3, .slice A3 n3 m3, .bool t3, .slice B3 k3 l3]) (by simp [results, Tryz.results47, go_sem, r0, r1, r2, r3]) rfl ⟨⟨_, rfl, RatP.is hP.1⟩, hP.2⟩

set_option maxRecDepth 100000 in
set_option maxHeartbeats 4000000 in
theorem p_res_step (u v : Value) (p q : List Rat) (w : World) (y : Rat) (hu : IsPoly w u p) (hv : IsPoly w v q) (hq : PC q) (hp0 : p ≠ []) (hq1 : 2 ≤ q.length) (hlp : p.length ≤ 400000) (hlq : q.length ≤ 400000)
    (hless : p.length < q.length → (∃ z, rsz z ≤ 68719476736 ∧ (∀ W, Below w.heap.size w W → Calls Tryz.prog 47 #[v, u] W fun e w' => (∃ v, e = .returned v ∧ IsRat w' v z) ∧ Below W.heap.size W w') ∧ y = rs (p.length - 1) (q.length - 1) * z))
    (hgreat : ¬ p.length < q.length → PdmOK p q ∧ (pmod p q = [] → y = 0) ∧ (pmod p q ≠ [] → PowOK (plead q) 1 (p.length - (pmod p q).length) ∧ rsz (rs (p.length - 1) (q.length - 1) * plead q ^ (p.length - (pmod p q).length)) ≤ 68719476736 ∧
      ∃ z, rsz z ≤ 68719476736 ∧ (∀ W x, Below w.heap.size w W → IsPoly W x (pmod p q) → Calls Tryz.prog 47 #[v, x] W fun e w' => (∃ v, e = .returned v ∧ IsRat w' v z) ∧ Below W.heap.size W w') ∧ y = rs (p.length - 1) (q.length - 1) * plead q ^ (p.length - (pmod p q).length) * z)) :
    Calls Tryz.prog 47 #[u, v] w fun e w' => (∃ v, e = .returned v ∧ IsRat w' v y) ∧ Below w.heap.size w w' := by
  have hW1 := fun W => q_whole 1 W (by omega) (by omega)
  have hWm := fun W => q_whole (-1) W (by omega) (by omega)
  have hW0 := fun W => q_whole 0 W (by omega) (by omega)
  have e1 : ((1 : Int) : Rat) = 1 := rfl
  have em1 : ((-1 : Int) : Rat) = -1 := rfl
  have e0 : ((0 : Int) : Rat) = 0 := rfl
  rw [e1] at hW1
  rw [em1] at hWm
  rw [e0] at hW0
  clear e1 em1 e0
  have hu' := hu
  have hv' := hv
  have hp1 : 0 < p.length := List.length_pos_iff.2 hp0
  have hq0 : q ≠ [] := by intro e; rw [e] at hq1; simp at hq1
  obtain ⟨A, c, rfl, hA, hc⟩ := hu
  obtain ⟨B, d, rfl, hB, hd⟩ := hv
  obtain ⟨M, HM⟩ : ∃ M, Hid (p.length = M + 1) := ⟨p.length - 1, Lib.hid (by omega)⟩
  obtain ⟨N, HN⟩ : ∃ N, Hid (q.length = N + 1) := ⟨q.length - 1, Lib.hid (by omega)⟩
  have hN0 : 0 < N := by have := HN.out; omega
  rw [HM.out] at hless hgreat hlp hu' ⊢
  rw [HN.out] at hless hgreat hlq hv' ⊢
  simp only [Nat.add_sub_cancel] at hless hgreat
  have Hless := Lib.hid hless
  have Hgreat := Lib.hid hgreat
  clear hless hgreat hA hB hc hd hq1 hp1
  have en : ((M : Int) + 1 == 0) = false := by rw [beq_eq_false_iff_ne]; omega
  have em : ((N : Int) + 1 == 0) = false := by rw [beq_eq_false_iff_ne]; omega
  have en0 : ((N : Int) == 0) = false := by rw [beq_eq_false_iff_ne]; omega
  obtain ⟨sg, Hsg⟩ : ∃ sg, Hid (sg = rs M N) := ⟨_, Lib.hid rfl⟩
  have hsg : rsz sg ≤ 68719476736 := by rw [Hsg.out]; exact rsz_rs M N
  go_enter Tryz.func47, Tryz.ntmps47
  go_wp2_with fail
  generalize hE : World.alloc _ _ = W
  have hBW : Below w.heap.size w W := by rw [← hE]; exact below_alloc _ _
  have hR : RC4 W w.heap.size := by rw [← hE]; exact ⟨by simp [go_sem], by simp [go_sem], by simp [go_sem], by simp [go_sem], by simp [go_sem], by simp⟩
  clear hE
  refine (hW1 _).mono ?_
  rintro e w1 ⟨⟨_, rfl, s, A1, n1, c1, t, B1, m1, d1, rfl, hx⟩, hb1⟩
  go_upto_region 8 with (fail)
  generalize hE : World.alloc _ _ = W2
  have hb2 : Below w1.heap.size w1 W2 := by rw [← hE]; exact below_alloc _ _
  have rS : RatAt W2 w1.heap.size 0 1 := ⟨s, A1, n1, c1, t, B1, m1, d1, by rw [← hE]; simp [go_sem], by rw [← hE]; simp [go_sem], by rw [← hE]; simp [go_sem], by rw [← hE]; simp [go_sem], hx.below hb2⟩
  have fS : ∀ o, W2.frozen? ⟨w1.heap.size, o, none⟩ = false := by rw [← hE]; simp [go_sem]
  clear hE
  have hRl := hR.2.2.2.2.2
  have hR := (hR.below hb1).below hb2
  have hB1 := hBW.trans ((hb1.trans (hb2.mono hb1.size)).mono hBW.size)
  have hge : w.heap.size < w1.heap.size := Nat.lt_of_lt_of_le hRl hb1.size
  generalize w1.heap.size = g at *
  clear hb1 hb2 hx hBW
  obtain ⟨odd, Hodd⟩ : ∃ odd : Bool, Hid (odd = decide (M % 2 = 1 ∧ N % 2 = 1)) := ⟨_, Lib.hid rfl⟩
  go_cut [39] (fun s39 wr => s39 = .bool odd ∧ W2 = wr)
  case first =>
    by_cases h1 : M % 2 = 1
    · have b1 : ((M : Int) % 2 == 1) = true := by rw [beq_iff_eq]; omega
      by_cases h2 : N % 2 = 1
      · have b2 : ((N : Int) % 2 == 1) = true := by rw [beq_iff_eq]; omega
        have E := Lib.hid (show odd = true by rw [Hodd.out]; simp [h1, h2])
        clear h1 h2
        go_wp2
        go_meet
        exact ⟨by rw [E.out], rfl⟩
      · have b2 : ((N : Int) % 2 == 1) = false := by rw [beq_eq_false_iff_ne]; omega
        have E := Lib.hid (show odd = false by rw [Hodd.out]; simp [h2])
        clear h1 h2
        go_wp2
        go_meet
        exact ⟨by rw [E.out], rfl⟩
    · have b1 : ((M : Int) % 2 == 1) = false := by rw [beq_eq_false_iff_ne]; omega
      have E := Lib.hid (show odd = false by rw [Hodd.out]; simp [h1])
      clear h1
      go_wp2
      go_meet
      exact ⟨by rw [E.out], rfl⟩
  case rest =>
    obtain ⟨rfl, rfl⟩ := hcut
    have hgl := rS.lt
    go_upto_if 39 with (fail)
    go_cut [] (fun wr => SignR w g sg wr)
    case first =>
      cases odd with
      | true =>
        have hmo : M % 2 = 1 ∧ N % 2 = 1 := of_decide_eq_true Hodd.out.symm
        have E := Lib.hid (show sg = -1 by rw [Hsg.out]; unfold rs; rw [if_pos hmo])
        clear hmo
        go_wp2_with fail
        refine (hWm _).mono ?_
        rintro e w3 ⟨⟨_, rfl, s3, A3, n3, m3, t3, B3, k3, l3, rfl, hq3⟩, hb3⟩
        have hF := (rS.below hb3).four
        have hF' := hF
        obtain ⟨u0, u1, u2, u3, q1, q2, q3, q4, _⟩ := hF'
        simp only [Nat.zero_add] at q1 q2 q3 q4
        have fS3 : ∀ o, w3.frozen? ⟨g, o, none⟩ = false := fun o => ((kept_cells hb3).2 _ _ hgl).trans (fS o)
        have e3 : RatAt (st4 w3 g 0 s3 A3 n3 m3 t3 B3 k3 l3) g 0 (-1) := RatAt.put hF hq3
        have e5 : RC4 (st4 w3 g 0 s3 A3 n3 m3 t3 B3 k3 l3) w.heap.size := (hR.below hb3).belowB (below_st4 (Nat.le_refl g) 0) hge
        have e7 := (hB1.trans (hb3.mono hB1.size)).trans (below_st4 (w := w3) (g := g) (B0 := w.heap.size) (by omega) 0 (s := s3) (A := A3) (n := n3) (c := m3) (t := t3) (B := B3) (m := k3) (d := l3))
        go_wp2_with fail
        go_meet
        rw [E.out]
        exact ⟨e3, e5, e7⟩
      | false =>
        have hmo : ¬ (M % 2 = 1 ∧ N % 2 = 1) := of_decide_eq_false Hodd.out.symm
        have E := Lib.hid (show sg = 1 by rw [Hsg.out]; unfold rs; rw [if_neg hmo])
        clear hmo
        go_wp2_with fail
        go_meet
        rw [E.out]
        exact ⟨rS, hR, hB1⟩
    case rest =>
      clear rS hR hB1 fS hgl
      obtain ⟨rS, hR, hB0⟩ := hcut
      have hgl := rS.lt
      obtain ⟨s, A1, n1, c1, t, B1, m1, d1, k1, k2, k3, k4, k5⟩ := id rS
      simp only [Nat.zero_add] at k1 k2 k3 k4
      have hzz : w.heap.size ≤ w.heap.size := Nat.le_refl _
      have hne : g ≠ w.heap.size := by omega
      by_cases hlt : M < N
      · have blt : decide ((M : Int) < (N : Int)) = true := by simp; omega
        obtain ⟨z, hzs, hzc, hy⟩ := Hless.out (by omega)
        rw [← Hsg.out] at hy
        have HY := Lib.hid hy
        clear hy
        go_upto_region 11 with (fail)
        go_region_held3 (fun w' => Below w.heap.size w w' ∧ w'.cell? ⟨g, 0, none⟩ = some (.bool s) ∧ w'.cell? ⟨g, 1, none⟩ = some (.slice A1 n1 c1) ∧ w'.cell? ⟨g, 2, none⟩ = some (.bool t) ∧ w'.cell? ⟨g, 3, none⟩ = some (.slice B1 m1 d1))
          (((try dsimp only); first | with_reducible assumption | with_reducible exact keepD4 hzz (by assumption) | with_reducible exact keepC4 hzz (by assumption) (by assumption) | with_reducible exact keepO4 (Nat.le_refl _) hne hne hne hne (by assumption) | exact ⟨hB0.trans (below_drew' _), k1, k2, k3, k4⟩))
          (first
            | (go_at_call 47
               refine (hzc _ (And.left (by assumption))).mono ?_
               rintro e w3 ⟨⟨x3, rfl, hx3⟩, hb3⟩
               have r3 : Below wc.heap.size wc w3 := (below_drew' _).trans hb3)
            | (go_at_call 50
               refine (q_Mul _ _ sg z _ (k5.below (by first | exact r3 | exact r3.trans (below_drew' _))).is (by (repeat' (first | assumption | with_reducible apply IsRat.drewn)); first | done | fail) hsg hzs).mono ?_
               rintro e w4 ⟨⟨_, rfl, s5, A5, n5, m5, t5, B5, k5', l5, rfl, hq4⟩, hb4⟩
               have r4 : Below wc.heap.size wc w4 := r3.trans (Below.mono (by first | exact hb4 | exact (below_drew' _).trans hb4) r3.size)
               have g4 : Below w.heap.size w w4 := hB0.trans (r4.mono hB0.size)
               have hR4 := hR.below r4
               obtain ⟨d0, dd1, d2, d3, df, dl⟩ := id hR4))
        all_goals
          have hP := rat_put' g4 (by omega) hR4 hq4
          go_wp2
          exact bodyPost_ret (v := .agg #[.bool s5, .slice A5 n5 m5, .bool t5, .slice B5 k5' l5]) (by simp [results, Tryz.results47, go_sem, d0, dd1, d2, d3]) rfl ⟨⟨_, rfl, by rw [HY.out]; exact RatP.is hP.1⟩, hP.2⟩
      · have blt : decide ((M : Int) < (N : Int)) = false := by simp; omega
        obtain ⟨hdm, hyz, hyp⟩ := Hgreat.out (by omega)
        have Hyz := Lib.hid hyz
        have Hyp := Lib.hid hyp
        have hrl := pmod_lt hq hq0 p
        have hrl : (pmod p q).length ≤ N := by have := HN.out; omega
        have hMd := p_mod _ _ p q wc (hu'.below hB0) (hv'.below hB0) hq hq0 hdm
        obtain ⟨R, HR⟩ : ∃ R, Hid (R = pmod p q) := ⟨_, Lib.hid rfl⟩
        rw [← HR.out] at hMd hrl
        clear hyz hyp hdm
        go_wp2_with fail
        refine hMd.mono ?_
        rintro e w5 ⟨⟨x5, rfl, hx5⟩, hb5⟩
        have hx5' := hx5.poly
        obtain ⟨AR, cR, rfl, hAR, hcR, _⟩ := hx5
        have k1 := cell_below k1 hb5
        have k2 := cell_below k2 hb5
        have k3 := cell_below k3 hb5
        have k4 := cell_below k4 hb5
        have k5 := k5.below hb5
        have hB0 := hB0.trans (hb5.mono hB0.size)
        have hR := hR.below hb5
        have hgl : g < w5.heap.size := Nat.lt_of_lt_of_le hgl hb5.size
        by_cases h0 : R = []
        · have HY := Lib.hid (Hyz.out (by rw [← HR.out]; exact h0))
          have l0 : R.length = 0 := by rw [h0]; rfl
          clear hx5' hAR h0
          generalize R.length = rl at *
          subst l0
          go_wp2_with fail
          refine (hW0 _).mono ?_
          rintro e w6 ⟨⟨_, rfl, s3, A3, n3, m3, t3, B3, k3', l3, rfl, hq6⟩, hb6⟩
          have hBW := hB0.trans (hb6.mono hB0.size)
          have hR := hR.below hb6
          have hP := rat_put' hBW (by omega) hR hq6
          obtain ⟨r0, r1, r2, r3, rf, rl⟩ := hR
          go_wp2
          exact bodyPost_ret (v := .agg #[.bool s3, .slice A3 n3 m3, .bool t3, .slice B3 k3' l3]) (by simp [results, Tryz.results47, go_sem, r0, r1, r2, r3]) rfl ⟨⟨_, rfl, by rw [HY.out]; exact RatP.is hP.1⟩, hP.2⟩
        · obtain ⟨hpw, hsp, z, hzs, hzc, hy⟩ := Hyp.out (by rw [← HR.out]; exact h0)
          rw [← HR.out, ← Hsg.out] at hy hsp
          rw [← HR.out] at hpw hzc
          have HY := Lib.hid hy
          clear hy
          obtain ⟨hpn, _, X, hX, hXs⟩ := hpw
          have hr0 : 0 < R.length := List.length_pos_iff.2 h0
          have er : ((R.length : Int) == 0) = false := by rw [beq_eq_false_iff_ne]; omega
          obtain ⟨K, HK⟩ : ∃ K, Hid (K = M + 1 - R.length) := ⟨_, Lib.hid rfl⟩
          rw [← HK.out] at hpn hXs hsp HY
          have hKz : (M : Int) + 1 - (R.length : Int) = (K : Int) := by rw [HK.out]; omega
          have w1' : IntKind.i64.wrap ((M : Int) + 1) = (M : Int) + 1 := by simp [IntKind.wrap, IntKind.signed, IntKind.bits]; omega
          have w2' : IntKind.i64.wrap ((M : Int) + 1 - (R.length : Int)) = (M : Int) + 1 - (R.length : Int) := by simp [IntKind.wrap, IntKind.signed, IntKind.bits]; omega
          have hL := fun W (hW : Below w.heap.size w W) => p_lead _ q W (hv'.below hW) hq0 (by have := HN.out; omega)
          have hPw := fun W x (hx : IsRat W x (plead q)) => p_power x (plead q) K ((M : Int) + 1 - (R.length : Int)) W hx X hX hKz hpn hXs
          obtain ⟨pk, Hpk⟩ : ∃ pk, Hid (pk = plead q ^ K) := ⟨_, Lib.hid rfl⟩
          have hpks : rsz pk ≤ 68719476736 := by
            rw [Hpk.out]
            have := rsz_pow hX K
            omega
          rw [← Hpk.out] at hPw hsp HY
          have HKz := Lib.hid hKz
          clear hKz h0
          go_upto_region 15 with (fail)
          go_region_held3 (fun w' => Below w.heap.size w w' ∧ w'.cell? ⟨g, 0, none⟩ = some (.bool s) ∧ w'.cell? ⟨g, 1, none⟩ = some (.slice A1 n1 c1) ∧ w'.cell? ⟨g, 2, none⟩ = some (.bool t) ∧ w'.cell? ⟨g, 3, none⟩ = some (.slice B1 m1 d1))
            (((try dsimp only); first | with_reducible assumption | with_reducible exact keepD4 hzz (by assumption) | with_reducible exact keepC4 hzz (by assumption) (by assumption) | with_reducible exact keepO4 (Nat.le_refl _) hne hne hne hne (by assumption) | exact ⟨hB0.trans (below_drew' _), k1, k2, k3, k4⟩))
            (first
              | (go_at_call 82
                 refine (hL _ (And.left (by assumption))).mono ?_
                 rintro e w6 ⟨⟨x6, rfl, hx6⟩, hb6⟩
                 have r6 : Below w5.heap.size w5 w6 := (below_drew' _).trans hb6)
              | (go_at_call 92
                 refine (hPw _ _ (by (repeat' (first | assumption | with_reducible apply IsRat.drewn)); first | done | fail)).mono ?_
                 rintro e w7 ⟨⟨x7, rfl, hx7⟩, hb7⟩
                 have r7 : Below w5.heap.size w5 w7 := r6.trans (Below.mono (by first | exact hb7 | exact (below_drew' _).trans hb7) r6.size))
              | (go_at_call_of 50 x7
                 refine (q_Mul _ _ sg pk _ (k5.below (by first | exact r7 | exact r7.trans (below_drew' _))).is (by (repeat' (first | assumption | with_reducible apply IsRat.drewn)); first | done | fail) hsg hpks).mono ?_
                 rintro e w8 ⟨⟨x8, rfl, hx8⟩, hb8⟩
                 have r8 : Below w5.heap.size w5 w8 := r7.trans (Below.mono (by first | exact hb8 | exact (below_drew' _).trans hb8) r7.size))
              | (go_at_call 47
                 refine (hzc _ _ (And.left (by assumption)) (hx5'.below (by first | exact r8 | exact r8.trans (below_drew' _)))).mono ?_
                 rintro e w9 ⟨⟨x9, rfl, hx9⟩, hb9⟩
                 have r9 : Below w5.heap.size w5 w9 := r8.trans (Below.mono (by first | exact hb9 | exact (below_drew' _).trans hb9) r8.size)
                 have hx8' : IsRat w9 x8 (sg * pk) := hx8.below (by first | exact hb9 | exact (below_drew' _).trans hb9))
              | (go_at_call_of 50 x9
                 refine (q_Mul _ _ (sg * pk) z _ (by (repeat' (first | assumption | with_reducible apply IsRat.drewn)); first | done | fail) (by (repeat' (first | assumption | with_reducible apply IsRat.drewn)); first | done | fail) hsp hzs).mono ?_
                 rintro e w4 ⟨⟨_, rfl, s5, A5, n5, m5, t5, B5, k5', l5, rfl, hq4⟩, hb4⟩
                 have r4 : Below w5.heap.size w5 w4 := r9.trans (Below.mono (by first | exact hb4 | exact (below_drew' _).trans hb4) r9.size)
                 have g4 : Below w.heap.size w w4 := hB0.trans (r4.mono hB0.size)
                 have hR4 := hR.below r4
                 obtain ⟨d0, dd1, d2, d3, df, dl⟩ := id hR4))
          all_goals
            clear w1' w2'
            have hP := rat_put' g4 (by omega) hR4 hq4
            go_wp2
            exact bodyPost_ret (v := .agg #[.bool s5, .slice A5 n5 m5, .bool t5, .slice B5 k5' l5]) (by simp [results, Tryz.results47, go_sem, d0, dd1, d2, d3]) rfl ⟨⟨_, rfl, by rw [HY.out]; exact RatP.is hP.1⟩, hP.2⟩

theorem p_resultant (n : Nat) : ∀ (u v : Value) (p q : List Rat) (w : World), IsPoly w u p → IsPoly w v q → PC p → PC q → q.length ≤ n → RresOK (n + 1) p q →
    Calls Tryz.prog 47 #[u, v] w fun e w' => (∃ v, e = .returned v ∧ IsRat w' v (rresF (n + 1) p q)) ∧ Below w.heap.size w w' := by
  induction n with
  | zero =>
    intro u v p q w hu hv hp hq hn hok
    have hq0 : q = [] := List.eq_nil_of_length_eq_zero (by omega)
    subst hq0
    have e : rresF 1 p [] = 0 := by unfold rresF; rw [if_pos (Or.inr rfl)]
    rw [e]
    obtain ⟨A, c, rfl, _⟩ := hu
    obtain ⟨B, d, rfl, _⟩ := hv
    refine p_res_nil A B _ _ c d w ?_
    by_cases h : p.length = 0
    · exact Or.inl h
    · exact Or.inr ⟨by omega, rfl⟩
  | succ n ih =>
    intro u v p q w hu hv hp hq hn hok
    obtain ⟨hlp, hlq, hok⟩ := hok
    by_cases hp0 : p = []
    · have e : rresF (n + 1 + 1) p q = 0 := by unfold rresF; rw [if_pos (Or.inl hp0)]
      rw [e]
      obtain ⟨A, c, rfl, _⟩ := hu
      obtain ⟨B, d, rfl, _⟩ := hv
      exact p_res_nil A B _ _ c d w (Or.inl (by rw [hp0]; rfl))
    · by_cases hq0 : q = []
      · have e : rresF (n + 1 + 1) p q = 0 := by unfold rresF; rw [if_pos (Or.inr hq0)]
        rw [e]
        obtain ⟨A, c, rfl, _⟩ := hu
        obtain ⟨B, d, rfl, _⟩ := hv
        exact p_res_nil A B _ _ c d w (Or.inr ⟨List.length_pos_iff.2 hp0, by rw [hq0]; rfl⟩)
      · have hql := List.length_pos_iff.2 hq0
        have hok := hok hp0 hq0
        by_cases h1 : q.length = 1
        · rw [if_pos h1] at hok
          have e : rresF (n + 1 + 1) p q = q.getD 0 0 ^ (p.length - 1) := by unfold rresF; rw [if_neg (by simp [hp0, hq0]), if_pos h1]
          rw [e]
          exact p_res_const u v p q w hu hv hp0 h1 hok
        · rw [if_neg h1] at hok
          refine p_res_step u v p q w _ hu hv hq hp0 (by omega) hlp hlq (fun hlt => ?_) (fun hlt => ?_)
          · rw [if_pos hlt] at hok
            refine ⟨rresF (n + 1) q p, hok.1, fun W hW => ih v u q p W (hv.below hW) (hu.below hW) hq hp (by omega) hok.2, ?_⟩
            rw [rresF, if_neg (by simp [hp0, hq0]), if_neg h1, if_pos hlt]
          · rw [if_neg hlt] at hok
            refine ⟨hok.1, fun h => ?_, fun h => ?_⟩
            · rw [rresF, if_neg (by simp [hp0, hq0]), if_neg h1, if_neg hlt, if_pos h]
            · obtain ⟨a1, a2, a3, a4⟩ := hok.2 h
              have hrl := pmod_lt hq hq0 p
              refine ⟨a1, a2, rresF (n + 1) q (pmod p q), a3, fun W x hW hx => ih v x q (pmod p q) W (hv.below hW) hx hq (pmod_PC hq hq0 p) (by omega) a4, ?_⟩
              rw [rresF, if_neg (by simp [hp0, hq0]), if_neg h1, if_neg hlt, if_neg h]

end Go.Proofs.YtlklgeidffjidaaGreat

/- The walk of the reference: Bezout (eliminantref07). -/
namespace Go.Proofs.YtlklgeidffjidaaGreat
open Go.RowKit
set_option linter.unusedSimpArgs false

/-- What is asked of the sizes in the loop of Bezout. -/
def RbezOK : Nat → List Rat → List Rat → List Rat → List Rat → Prop
  | 0, _, _, _, _ => True
  | n + 1, x, y, s, t => y ≠ [] → PdmOK x y ∧ MulOK (pquo x y) y ∧ MulOK (pquo x y) t ∧ Sz x ∧ Sz s ∧ s.length ≤ 400000 ∧ RbezOK n y (pmod x y) t (psub s (pmul (pquo x y) t))
def RbezAll (p q : List Rat) : Prop := PdmOK p q ∧ RbezOK q.length q (pmod p q) [] [1] ∧ Sz (bezL p q) ∧ (bezL p q).length ≤ 400000 ∧ Sz (bezU p q) ∧ (bezU p q).length ≤ 400000 ∧
  PdmOK q (pgcd p q) ∧ PdmOK (bezU1 p q) (pquo q (pgcd p q)) ∧ MulOK (bezU2 p q) p ∧ Sz (pgcd p q) ∧ (pgcd p q).length ≤ 400000 ∧ PdmOK (bezD p q) q
theorem psub_quo {x y : List Rat} (hy : PC y) (hy0 : y ≠ []) : psub x (pmul (pquo x y) y) = pmod x y :=
  (psub_PC _ _).ext (pmod_PC hy hy0 x) (fun z => by rw [ev_psub, ev_pmul, ev_divmod hy hy0 x z]; grind)
theorem psub_one (r : List Rat) : psub [1] (pmul r []) = [1] := by
  rw [pmul_nil_right]
  exact (psub_PC _ _).ext (fun k h => by simp at h; subst h; simp) (fun z => by rw [ev_psub]; simp [ev]; grind)
theorem bez_start {p q : List Rat} (hq0 : q ≠ []) : bezF q.length q (pmod p q) [] [1] = (bezL p q, bezU p q) := by
  have h : bezF (q.length + 1) p q [1] [] = bezF q.length q (pmod p q) [] (psub [1] (pmul (pquo p q) [])) := by rw [bezF, if_neg hq0]
  rw [psub_one] at h
  rw [← h]; rfl
theorem pscale_mul (c : Rat) (p : List Rat) : pscale c p = pmul [c] p :=
  (pscale_PC _ _).ext (pmul_PC _ _) (fun z => by rw [ev_pscale, ev_pmul]; simp [ev]; grind)
theorem MulOK.poly {u v : Value} {p q : List Rat} {W : World} (h : MulOK p q) (hu : IsPoly W u p) (hv : IsPoly W v q) :
    Calls Tryz.prog 29 #[u, v] W fun e w' => (∃ v, e = .returned v ∧ IsNew W.heap.size w' v (pmul p q)) ∧ Below W.heap.size W w' := by
  obtain ⟨a1, a2, S1, T1, a3, a4, a5⟩ := h
  exact p_mul u v _ _ W hu hv (by omega) (by omega) S1 T1 a3 a4 (by omega)
theorem psub_mul_length {x p q : List Rat} (h : MulOK p q) : (pmul p q).length ≤ 400000 := by
  have := pmul_length_le p q; have := h.1; have := h.2.1; omega

set_option maxHeartbeats 1000000 in
theorem p_bezout_nil (A B : Option Addr) (n m c d : Nat) (w : World) (hn : n = 0) (hm : m = 0) :
    Calls Tryz.prog 35 #[.slice A n c, .slice B m d] w fun e w' => e = .returned (.tuple #[.slice none 0 0, .slice none 0 0, .slice none 0 0]) ∧ Below w.heap.size w w' := by
  subst hn; subst hm
  have hb0 := Below.refl w.heap.size w
  go_enter Tryz.func35, Tryz.ntmps35
  go_wp2_with fail
  refine bodyPost_ret (results_tmp3 rfl _ _ _) rfl ?_
  exact ⟨rfl, hb0⟩

set_option maxRecDepth 100000 in
set_option maxHeartbeats 4000000 in
theorem p_bezout_left (u : Value) (B : Option Addr) (p : List Rat) (m d : Nat) (w : World) (hu : IsPoly w u p) (hp : PC p) (hp0 : p ≠ []) (hl : p.length ≤ 400000) (hs : Sz p) (hm : m = 0) :
    Calls Tryz.prog 35 #[u, .slice B m d] w fun e w' => (∃ x y, e = .returned (.tuple #[x, y, .slice none 0 0]) ∧ IsPoly w' x (pmonic p) ∧ IsPoly w' y [(plead p)⁻¹]) ∧ Below w.heap.size w w' := by
  subst hm
  have hlead := hp.lead_ne hp0
  have hL := p_lead u p w hu hp0 (by omega)
  have hI := fun W x (hx : IsRat W x (plead p)) => q_Inv x (plead p) W hx (hs _) hlead
  have hM := fun W (hW : Below w.heap.size w W) => p_monic u p W (hu.below hW) hp hl hs
  have hCo := fun W x (hx : IsRat W x (plead p)⁻¹) => p_constant x _ W hx
  have hcon : pcon (plead p)⁻¹ = [(plead p)⁻¹] := by unfold pcon; exact ptrim_of_PC (fun k h => by simp at h; subst h; simpa using inv_ne hlead)
  rw [hcon] at hCo
  clear hcon
  have hp1 : 0 < p.length := List.length_pos_iff.2 hp0
  obtain ⟨A, c, rfl, _⟩ := hu
  generalize (plead p)⁻¹ = y at *
  generalize plead p = x at *
  generalize pmonic p = M at *
  generalize p.length = n at *
  have en : ((n : Int) == 0) = false := by rw [beq_eq_false_iff_ne]; omega
  go_enter Tryz.func35, Tryz.ntmps35
  go_wp2_with fail
  refine hL.mono ?_
  rintro e w1 ⟨⟨y1, rfl, hy1⟩, hb1⟩
  go_wp2_with fail
  refine (hI _ _ hy1).mono ?_
  rintro e w2 ⟨⟨_, rfl, s3, A3, n3, m3, t3, B3, k3, l3, rfl, hq⟩, hb2⟩
  have g2 := hb1.trans (hb2.mono hb1.size)
  go_upto_region 5 with (fail)
  generalize hE : World.alloc _ _ = W9
  have hbE : Below w2.heap.size w2 W9 := by rw [← hE]; exact below_alloc _ _
  have c0 : W9.cell? ⟨w2.heap.size, 0, none⟩ = some (.bool s3) := by rw [← hE]; simp [go_sem]
  have c1 : W9.cell? ⟨w2.heap.size, 1, none⟩ = some (.slice A3 n3 m3) := by rw [← hE]; simp [go_sem]
  have c2 : W9.cell? ⟨w2.heap.size, 2, none⟩ = some (.bool t3) := by rw [← hE]; simp [go_sem]
  have c3 : W9.cell? ⟨w2.heap.size, 3, none⟩ = some (.slice B3 k3 l3) := by rw [← hE]; simp [go_sem]
  clear hE
  have g3 := g2.trans (hbE.mono g2.size)
  have hq := hq.below hbE
  generalize w2.heap.size = g at *
  go_region_held3 (fun w' => Below W9.heap.size W9 w' ∧ w'.cell? ⟨g, 0, none⟩ = some (.bool s3) ∧ w'.cell? ⟨g, 1, none⟩ = some (.slice A3 n3 m3) ∧ w'.cell? ⟨g, 2, none⟩ = some (.bool t3) ∧ w'.cell? ⟨g, 3, none⟩ = some (.slice B3 k3 l3))
    (((try dsimp only); refine S_4 c0 c1 c2 c3 ?_; repeat' (first | with_reducible assumption | with_reducible exact And.left (by assumption) | with_reducible exact below_drew' _ | with_reducible refine Below.alloc' (Nat.le_refl _) ?_ | with_reducible refine Below.drew' ?_)))
    (first
      | (go_at_call 39
         refine (hM _ (g3.trans (below_drew' _))).mono ?_
         rintro e w3 ⟨⟨x3, rfl, hx3⟩, hb3⟩
         have r3 : Below W9.heap.size W9 w3 := (below_drew' _).trans hb3)
      | (go_at_call 51
         refine (hCo _ _ (hq.below (by first | exact r3 | exact r3.trans (below_drew' _))).is).mono ?_
         rintro e w4 ⟨⟨x4, rfl, hx4⟩, hb4⟩
         have b4 : Below w3.heap.size w3 w4 := by first | exact hb4 | exact (below_drew' _).trans hb4
         have r4 : Below W9.heap.size W9 w4 := r3.trans (b4.mono r3.size)
         have hx3' := hx3.poly.below b4))
  all_goals
    have g4 := g3.trans (r4.mono g3.size)
    go_wp2
    refine bodyPost_ret (results_tmp3 rfl _ _ _) rfl ?_
    exact ⟨⟨_, _, rfl, hx3', hx4.poly⟩, g4⟩

set_option maxRecDepth 100000 in
set_option maxHeartbeats 8000000 in
theorem p_bezout_both (u v : Value) (p q : List Rat) (w : World) (hu : IsPoly w u p) (hv : IsPoly w v q) (hp : PC p) (hq : PC q) (hq0 : q ≠ []) (hok : RbezAll p q) :
    Calls Tryz.prog 35 #[u, v] w fun e w' => (∃ x y z, e = .returned (.tuple #[x, y, z]) ∧ IsPoly w' x (pgcd p q) ∧ IsPoly w' y (bezU2 p q) ∧ IsPoly w' z (pquo (bezD p q) q)) ∧ Below w.heap.size w w' := by
  obtain ⟨o1, o2, o3, o4, o5, o6, o7, o8, o9, o10, o11, o12⟩ := hok
  have hlq0 : 0 < q.length := List.length_pos_iff.2 hq0
  have hL0 : bezL p q ≠ [] := fun e => by
    have := bezL_pgcd (p := p) hq
    rw [e] at this
    exact hq0 ((pgcd_nil hp hq).1 this.symm).2
  have hLP := bezL_PC hp hq
  have hG := pgcd_PC hp hq
  have hg0 : pgcd p q ≠ [] := fun e => hq0 ((pgcd_nil hp hq).1 e).2
  have hqn := pquo_gcd_ne hp hq hq0
  have hqP := pquo_PC hG hg0 q
  have hMo := fun W (hW : Below w.heap.size w W) => p_mod u v p q W (hu.below hW) (hv.below hW) hq hq0 o1
  have hO := fun W => q_whole 1 W (by omega) (by omega)
  have e1 : ((1 : Int) : Rat) = 1 := rfl
  rw [e1] at hO
  have hCo := fun W x (hx : IsRat W x 1) => p_constant x 1 W hx
  have hc1 : pcon 1 = [1] := by unfold pcon; exact ptrim_of_PC (fun k h => by simp at h; subst h; simp)
  rw [hc1] at hCo
  clear e1 hc1
  have hL := fun W x (hx : IsPoly W x (bezL p q)) => p_lead x _ W hx hL0 (by omega)
  have hI := fun W x (hx : IsRat W x (plead (bezL p q))) => q_Inv x _ W hx (o3 _) (hLP.lead_ne hL0)
  have hM := fun W x (hx : IsPoly W x (bezL p q)) => p_monic x _ W hx hLP o4 o3
  rw [bezL_pgcd hq] at hM
  have hSc := fun W x y (hx : IsRat W x (plead (bezL p q))⁻¹) (hy : IsPoly W y (bezU p q)) => p_scale x y _ _ W hx hy (by omega) (Nat.le_trans (rsz_inv (hLP.lead_ne hL0)) (o3 _)) o5
  have hQ := fun W x (hx : IsPoly W x (pgcd p q)) (hv : IsPoly W v q) => p_quo v x q _ W hv hx hG hg0 o7
  have hMd := fun W x y (hx : IsPoly W x (bezU1 p q)) (hy : IsPoly W y (pquo q (pgcd p q))) => p_mod x y _ _ W hx hy hqP hqn o8
  have hMu2 := fun W x (hx : IsPoly W x (bezU2 p q)) (hu : IsPoly W u p) => o9.poly hx hu
  have hSb := fun W x y (hx : IsPoly W x (pgcd p q)) (hy : IsPoly W y (pmul (bezU2 p q) p)) => p_sub x y _ _ W hx hy (by omega) (by have := psub_mul_length (x := []) o9; omega) o10 o9.sz
  have hQ2 := fun W x (hx : IsPoly W x (bezD p q)) (hv : IsPoly W v q) => p_quo x v _ q W hx hv hq hq0 o12
  have eU1 : pscale (plead (bezL p q))⁻¹ (bezU p q) = bezU1 p q := pscale_mul _ _
  rw [eU1] at hSc
  have eM : pmod (bezU1 p q) (pquo q (pgcd p q)) = bezU2 p q := rfl
  have eD : psub (pgcd p q) (pmul (bezU2 p q) p) = bezD p q := rfl
  rw [eM] at hMd
  rw [eD] at hSb
  have HR := Lib.hid (bez_start (p := p) hq0)
  have HRP : Hid (PC (pmod p q) ∧ (pmod p q).length < q.length) := Lib.hid ⟨pmod_PC hq hq0 p, pmod_lt hq hq0 p⟩
  have Hq := Lib.hid hq
  have Hok := Lib.hid o2
  clear o1 o2 o3 o4 o5 o6 o7 o8 o9 o10 o11 o12 hL0 hLP hG hg0 hqn hqP eU1 eM eD hq0 hp hq
  generalize pquo (bezD p q) q = Vv at *
  generalize bezD p q = Dd at *
  generalize pmul (bezU2 p q) p = UP at *
  generalize bezU2 p q = U2 at *
  generalize pquo q (pgcd p q) = QG at *
  generalize pgcd p q = G at *
  generalize bezU1 p q = U1 at *
  generalize (plead (bezL p q))⁻¹ = RL at *
  generalize plead (bezL p q) = PL at *
  generalize bezL p q = LL at *
  generalize bezU p q = UU at *
  obtain ⟨one, H1⟩ : ∃ x : Rat, Hid (x = 1) := ⟨1, Lib.hid rfl⟩
  rw [← H1.out] at hO hCo HR Hok
  have hb0 := Below.refl w.heap.size w
  have Hu := Lib.hid hu
  have Hv := Lib.hid hv
  obtain ⟨A, c, rfl, _⟩ := hu
  obtain ⟨B, d, rfl, _⟩ := hv
  obtain ⟨m, Hm⟩ : ∃ m, Hid (m = q.length) := ⟨_, Lib.hid rfl⟩
  rw [← Hm.out] at hlq0 Hv hMo hQ hQ2 HR Hok HRP ⊢
  have em : ((m : Int) == 0) = false := by rw [beq_eq_false_iff_ne]; omega
  obtain ⟨n, Hn⟩ : ∃ n, Hid (n = p.length) := ⟨_, Lib.hid rfl⟩
  rw [← Hn.out] at Hu hMo hMu2 ⊢
  have key : ((n : Int) == 0) = true ∨ ((n : Int) == 0) = false := by cases ((n : Int) == 0) <;> simp
  rcases key with en | en
  all_goals
    go_enter Tryz.func35, Tryz.ntmps35
    go_wp2_with fail
    refine (hMo _ hb0).mono ?_
    rintro e w1 ⟨⟨x1, rfl, hx1⟩, hb1⟩
    go_wp2_with fail
    have hba := below_alloc w1 (.cells #[] 31)
    have g2 := hb1.trans (hba.mono hb1.size)
    have hx1 := hx1.poly.below hba
    refine (hO _).mono ?_
    rintro e w3 ⟨⟨x3, rfl, hx3⟩, hb3⟩
    have g3 := g2.trans (hb3.mono g2.size)
    have hx1 := hx1.below hb3
    go_wp2_with fail
    refine (hCo _ _ hx3).mono ?_
    rintro e w4 ⟨⟨x4, rfl, hx4⟩, hb4⟩
    have g4 := g3.trans (hb4.mono g3.size)
    have hx1 := hx1.below hb4
    have hx4 := hx4.poly
    have hq4 := Hv.out.below g4
    clear hO hCo hMo hx3 hb0
    go_wp2_with fail
    go_loopg [9, 10, 11, 12] m (fun k s9 s10 s11 s12 wr => ∃ x y s t, IsPoly wr s9 x ∧ IsPoly wr s10 y ∧ IsPoly wr s11 s ∧ IsPoly wr s12 t ∧ Hid (PC x ∧ PC y ∧ y.length < k) ∧ Hid (bezF k x y s t = (LL, UU)) ∧ Hid (RbezOK k x y s t) ∧ Below w.heap.size w wr)
    case atStart => exact ⟨q, pmod p q, [], [one], hq4, hx1, IsPoly.nil _ _ _, hx4, Lib.hid ⟨Hq.out, HRP.out.1, HRP.out.2⟩, HR, Hok, g4⟩
    case round =>
      clear hx1 hx4 hq4 HR Hok HRP g2 g3 g4 hba hb1 hb3 hb4
      obtain ⟨x, y, s, t, hX, hY, hS, hT, HF, HR, Hok, hBW⟩ := hrel
      obtain ⟨f, rfl⟩ : ∃ f, gk = f + 1 := ⟨gk - 1, by have := HF.out.2.2; omega⟩
      have hR := HR.out
      have hK := Hok.out
      simp only [bezF, RbezOK] at hR hK
      by_cases h0 : y = []
      · rw [if_pos h0] at hR
        have hl : y.length = 0 := by rw [h0]; rfl
        have ex : x = LL := congrArg Prod.fst hR
        rw [ex] at hX
        have es : s = UU := congrArg Prod.snd hR
        rw [es] at hS
        clear ex es
        obtain ⟨BY, dY, rfl, _⟩ := hY
        rw [hl]
        clear hR hK h0 HF HR Hok hT
        go_wp2_with fail
        refine (hL _ _ hX).mono ?_
        rintro e w5 ⟨⟨y5, rfl, hy5⟩, hb5⟩
        have g5 := hBW.trans (hb5.mono hBW.size)
        have hX := hX.below hb5
        have hS := hS.below hb5
        go_wp2_with fail
        refine (hI _ _ hy5).mono ?_
        rintro e w6 ⟨⟨_, rfl, s3, A3, n3, m3, t3, B3, k3, l3, rfl, hrq⟩, hb6⟩
        have g6 := g5.trans (hb6.mono g5.size)
        have hX := hX.below hb6
        have hS := hS.below hb6
        go_upto_region 19 with (fail)
        generalize hE : World.alloc _ _ = W9
        have hbE : Below w6.heap.size w6 W9 := by rw [← hE]; exact below_alloc _ _
        have c0 : W9.cell? ⟨w6.heap.size, 0, none⟩ = some (.bool s3) := by rw [← hE]; simp [go_sem]
        have c1 : W9.cell? ⟨w6.heap.size, 1, none⟩ = some (.slice A3 n3 m3) := by rw [← hE]; simp [go_sem]
        have c2 : W9.cell? ⟨w6.heap.size, 2, none⟩ = some (.bool t3) := by rw [← hE]; simp [go_sem]
        have c3 : W9.cell? ⟨w6.heap.size, 3, none⟩ = some (.slice B3 k3 l3) := by rw [← hE]; simp [go_sem]
        clear hE
        have g7 := g6.trans (hbE.mono g6.size)
        have hrq := hrq.below hbE
        have hX := hX.below hbE
        have hS := hS.below hbE
        generalize w6.heap.size = g at *
        go_wp2_with fail
        refine (hM _ _ hX).mono ?_
        rintro e w8 ⟨⟨y8, rfl, hy8⟩, hb8⟩
        have g8 := g7.trans (hb8.mono g7.size)
        have hG8 := hy8.poly
        have hS := hS.below hb8
        have hrq := hrq.below hb8
        have c0 := cell_below c0 hb8
        have c1 := cell_below c1 hb8
        have c2 := cell_below c2 hb8
        have c3 := cell_below c3 hb8
        clear hL hI hM hX
        go_wp2_with fail
        refine (hSc _ _ _ hrq.is hS).mono ?_
        rintro e w9 ⟨⟨y9, rfl, hy9⟩, hb9⟩
        have g9 := g8.trans (hb9.mono g8.size)
        have hG9 := hG8.below hb9
        go_wp2_with fail
        refine (hQ _ _ hG9 (Hv.out.below g9)).mono ?_
        rintro e w10 ⟨⟨y10, rfl, hy10⟩, hb10⟩
        have g10 := g9.trans (hb10.mono g9.size)
        have hG10 := hG9.below hb10
        go_wp2_with fail
        refine (hMd _ _ _ (hy9.poly.below hb10) hy10.poly).mono ?_
        rintro e w11 ⟨⟨y11, rfl, hy11⟩, hb11⟩
        have g11 := g10.trans (hb11.mono g10.size)
        have hG11 := hG10.below hb11
        have hU11 := hy11.poly
        clear hSc hQ hMd
        go_wp2_with fail
        refine (hMu2 _ _ hU11 (Hu.out.below g11)).mono ?_
        rintro e w12 ⟨⟨y12, rfl, hy12⟩, hb12⟩
        have g12 := g11.trans (hb12.mono g11.size)
        have hG12 := hG11.below hb12
        have hU12 := hU11.below hb12
        go_wp2_with fail
        refine (hSb _ _ _ hG12 hy12.poly).mono ?_
        rintro e w13 ⟨⟨y13, rfl, hy13⟩, hb13⟩
        have g13 := g12.trans (hb13.mono g12.size)
        have hG13 := hG12.below hb13
        have hU13 := hU12.below hb13
        go_wp2_with fail
        refine (hQ2 _ _ hy13.poly (Hv.out.below g13)).mono ?_
        rintro e w14 ⟨⟨y14, rfl, hy14⟩, hb14⟩
        have g14 := g13.trans (hb14.mono g13.size)
        have hG14 := hG13.below hb14
        have hU14 := hU13.below hb14
        go_wp2
        refine bodyPost_ret (results_tmp3 rfl _ _ _) rfl ?_
        exact ⟨⟨_, _, _, rfl, hG14, hU14, hy14.poly⟩, g14⟩
      · rw [if_neg h0] at hR
        obtain ⟨k1, k2, k3, k4, k5, k6, k7⟩ := hK h0
        obtain ⟨hxP, hyP, hyl⟩ := HF.out
        have hQu := fun W a b (ha : IsPoly W a x) (hb : IsPoly W b y) => p_quo a b x y W ha hb hyP h0 k1
        have hM1 := fun W a b (ha : IsPoly W a (pquo x y)) (hb : IsPoly W b y) => k2.poly ha hb
        have hS1 := fun W a b (ha : IsPoly W a x) (hb : IsPoly W b (pmul (pquo x y) y)) => p_sub a b _ _ W ha hb (by have := k1.1; omega) (by have := psub_mul_length (x := []) k2; omega) k4 k2.sz
        rw [psub_quo hyP h0] at hS1
        have hM2 := fun W a b (ha : IsPoly W a (pquo x y)) (hb : IsPoly W b t) => k3.poly ha hb
        have hS2 := fun W a b (ha : IsPoly W a s) (hb : IsPoly W b (pmul (pquo x y) t)) => p_sub a b _ _ W ha hb (by omega) (by have := psub_mul_length (x := []) k3; omega) k5 k3.sz
        have HF2 : Hid (PC y ∧ PC (pmod x y) ∧ (pmod x y).length < f) := Lib.hid ⟨hyP, pmod_PC hyP h0 x, by have := pmod_lt hyP h0 x; omega⟩
        have HR2 := Lib.hid hR
        have HK2 := Lib.hid k7
        have hyl0 : 0 < y.length := List.length_pos_iff.2 h0
        clear hR k1 k2 k3 k4 k5 k6 k7 hK hxP hyP hyl h0 HF HR Hok
        have hYp := hY
        obtain ⟨BY, dY, rfl, _⟩ := hY
        generalize psub s (pmul (pquo x y) t) = nx at *
        generalize pmod x y = rr at *
        generalize pmul (pquo x y) y = qy at *
        generalize pmul (pquo x y) t = qt at *
        generalize pquo x y = qq at *
        generalize y.length = yl at *
        go_wp2_with fail
        refine (hQu _ _ _ hX hYp).mono ?_
        rintro e w5 ⟨⟨y5, rfl, hy5⟩, hb5⟩
        have g5 := hBW.trans (hb5.mono hBW.size)
        have hq5 := hy5.poly
        have hX := hX.below hb5
        have hYp := hYp.below hb5
        have hS := hS.below hb5
        have hT := hT.below hb5
        go_wp2_with fail
        refine (hM1 _ _ _ hq5 hYp).mono ?_
        rintro e w6 ⟨⟨y6, rfl, hy6⟩, hb6⟩
        have g6 := g5.trans (hb6.mono g5.size)
        have hq6 := hq5.below hb6
        have hX := hX.below hb6
        have hYp := hYp.below hb6
        have hS := hS.below hb6
        have hT := hT.below hb6
        go_wp2_with fail
        refine (hS1 _ _ _ hX hy6.poly).mono ?_
        rintro e w7 ⟨⟨y7, rfl, hy7⟩, hb7⟩
        have g7 := g6.trans (hb7.mono g6.size)
        have hq7 := hq6.below hb7
        have hr7 := hy7.poly
        have hYp := hYp.below hb7
        have hS := hS.below hb7
        have hT := hT.below hb7
        clear hQu hM1 hS1 hX hq5 hq6
        go_wp2_with fail
        refine (hM2 _ _ _ hq7 hT).mono ?_
        rintro e w8 ⟨⟨y8, rfl, hy8⟩, hb8⟩
        have g8 := g7.trans (hb8.mono g7.size)
        have hr8 := hr7.below hb8
        have hYp := hYp.below hb8
        have hS := hS.below hb8
        have hT := hT.below hb8
        go_wp2_with fail
        refine (hS2 _ _ _ hS hy8.poly).mono ?_
        rintro e w9 ⟨⟨y9, rfl, hy9⟩, hb9⟩
        have g9 := g8.trans (hb9.mono g8.size)
        have hr9 := hr8.below hb9
        have hYp := hYp.below hb9
        have hT := hT.below hb9
        go_wp2_with fail
        go_roundg f
        case measure => omega
        case rel => exact ⟨_, _, _, _, hYp, hr9, hT, hy9.poly, HF2, HR2, HK2, g9⟩

end Go.Proofs.YtlklgeidffjidaaGreat

/- Walks of the reference: Same, Valid (eliminantref07); Bezout in one contract. -/
namespace Go.Proofs.YtlklgeidffjidaaGreat
open Go.RowKit
set_option linter.unusedSimpArgs false

theorem p_bezout (u v : Value) (p q : List Rat) (w : World) (hu : IsPoly w u p) (hv : IsPoly w v q) (hp : PC p) (hq : PC q) (hl : p.length ≤ 400000) (hs : Sz p) (hok : q ≠ [] → RbezAll p q) :
    Calls Tryz.prog 35 #[u, v] w fun e w' => (∃ x y z, e = .returned (.tuple #[x, y, z]) ∧ IsPoly w' x (pbez p q).1 ∧ IsPoly w' y (pbez p q).2.1 ∧ IsPoly w' z (pbez p q).2.2) ∧ Below w.heap.size w w' := by
  unfold pbez
  by_cases hq0 : q = []
  · rw [if_pos hq0]
    subst hq0
    by_cases hp0 : p = []
    · rw [if_pos hp0]
      subst hp0
      obtain ⟨A, c, rfl, _⟩ := hu
      obtain ⟨B, d, rfl, _⟩ := hv
      refine (p_bezout_nil A B 0 0 c d w rfl rfl).mono ?_
      rintro e w1 ⟨rfl, hb⟩
      exact ⟨⟨_, _, _, rfl, IsPoly.nil _ _ _, IsPoly.nil _ _ _, IsPoly.nil _ _ _⟩, hb⟩
    · rw [if_neg hp0]
      obtain ⟨B, d, rfl, _⟩ := hv
      refine (p_bezout_left u B p 0 d w hu hp hp0 hl hs rfl).mono ?_
      rintro e w1 ⟨⟨x, y, rfl, hx, hy⟩, hb⟩
      exact ⟨⟨_, _, _, rfl, hx, hy, IsPoly.nil _ _ _⟩, hb⟩
  · rw [if_neg hq0]
    exact p_bezout_both u v p q w hu hv hp hq hq0 (hok hq0)

theorem poly_ext {p q : List Rat} (hl : p.length = q.length) (h : ∀ j, j < p.length → p.getD j 0 = q.getD j 0) : p = q :=
  ext_getD hl (fun t => by
    by_cases ht : t < p.length
    · exact h t ht
    · rw [getD_past p (by omega), getD_past q (by omega)])

set_option maxRecDepth 100000 in
set_option maxHeartbeats 2000000 in
theorem p_same (u v : Value) (p q : List Rat) (w : World) (hu : IsPoly w u p) (hv : IsPoly w v q) (hl : p.length ≤ 1099511627776) :
    Calls Tryz.prog 19 #[u, v] w fun e w' => e = .returned (.bool (decide (p = q))) ∧ Below w.heap.size w w' := by
  obtain ⟨A, c, rfl, hA, hc⟩ := hu
  obtain ⟨B, d, rfl, hB, hd⟩ := hv
  have hb0 := Below.refl w.heap.size w
  by_cases hn : p.length = q.length
  · have HE : Hid ((∀ j, j < p.length → p.getD j 0 = q.getD j 0) → decide (p = q) = true) := Lib.hid (fun h => decide_eq_true (poly_ext hn h))
    have HN : Hid (∀ j, p.getD j 0 ≠ q.getD j 0 → decide (p = q) = false) := Lib.hid (fun j h => decide_eq_false (fun e => h (by rw [e])))
    obtain ⟨n, Hn⟩ : ∃ n, Hid (n = p.length) := ⟨_, Lib.hid rfl⟩
    have Hm : Hid (n = q.length) := Lib.hid (Hn.out.trans hn)
    rw [← Hm.out]
    rw [← Hn.out] at HE hl ⊢
    generalize decide (p = q) = R at *
    clear hn hc hd
    go_enter Tryz.func19, Tryz.ntmps19
    go_wp2_with fail
    go_loopw [5] (fun i wr => ∃ k : Nat, k ≤ n ∧ i = .int .i64 (k : Int) ∧ (∀ j, j < k → p.getD j 0 = q.getD j 0) ∧ Below w.heap.size w wr) (fun i _ => n - (intOf i).toNat)
    case atStart => exact ⟨0, Nat.zero_le _, rfl, fun j h => by omega, hb0⟩
    case round =>
      obtain ⟨k, hk, rfl, hsame, hBr⟩ := hrel
      by_cases hlt : k < n
      · obtain ⟨b, off, rfl, h⟩ := hA k (by rw [← Hn.out]; exact hlt)
        obtain ⟨s1, A1, n1, c1, t1, B1, m1, d1, h1, h2, h3, h4, h5⟩ := h
        obtain ⟨b', off', rfl, h'⟩ := hB k (by rw [← Hm.out]; exact hlt)
        obtain ⟨s2, A2, n2, c2, t2, B2, m2, d2, k1, k2, k3, k4, k5⟩ := h'
        have hS := fun W (hW : Below w.heap.size w W) => q_Same _ _ (p.getD k 0) (q.getD k 0) W (h5.below hW).is (k5.below hW).is
        have hz : w.heap.size ≤ wr.heap.size := hBr.size
        by_cases heq : p.getD k 0 = q.getD k 0
        · rw [decide_eq_true heq] at hS
          have Heq := Lib.hid heq
          clear heq
          go_upto_region 6 with (fail)
          go_region_held3 (fun w' => Below w.heap.size w w' ∧ w'.cell? ⟨b, off + k * 4, none⟩ = some (.bool s1) ∧ w'.cell? ⟨b, off + k * 4 + 1, none⟩ = some (.slice A1 n1 c1) ∧ w'.cell? ⟨b, off + k * 4 + 2, none⟩ = some (.bool t1) ∧ w'.cell? ⟨b, off + k * 4 + 3, none⟩ = some (.slice B1 m1 d1) ∧ w'.cell? ⟨b', off' + k * 4, none⟩ = some (.bool s2) ∧ w'.cell? ⟨b', off' + k * 4 + 1, none⟩ = some (.slice A2 n2 c2) ∧ w'.cell? ⟨b', off' + k * 4 + 2, none⟩ = some (.bool t2) ∧ w'.cell? ⟨b', off' + k * 4 + 3, none⟩ = some (.slice B2 m2 d2))
            (((try dsimp only); refine S_8 h1 h2 h3 h4 k1 k2 k3 k4 ?_; repeat' (first | with_reducible assumption | with_reducible exact And.left (by assumption) | with_reducible refine Below.alloc' (Nat.le_refl _) ?_ | with_reducible refine Below.drew' ?_)))
            (first
              | (go_at_call 41
                 refine (hS _ (And.left (by assumption))).mono ?_
                 rintro e w3 ⟨rfl, hb3⟩
                 have g3 : Below w.heap.size w _ := And.left (by assumption)
                 have g3 := g3.trans (hb3.mono g3.size)))
          all_goals
            go_wp2
            go_roundw
            case rel => exact ⟨k + 1, hlt, by go_num, fun j h => by
              by_cases e : j = k
              · rw [e]; exact Heq.out
              · exact hsame j (by omega), g3⟩
            case measure => simp [intOf]; omega
        · rw [decide_eq_false heq] at hS
          have HR := Lib.hid (HN.out k heq)
          clear heq
          go_upto_region 6 with (fail)
          go_region_held3 (fun w' => Below w.heap.size w w' ∧ w'.cell? ⟨b, off + k * 4, none⟩ = some (.bool s1) ∧ w'.cell? ⟨b, off + k * 4 + 1, none⟩ = some (.slice A1 n1 c1) ∧ w'.cell? ⟨b, off + k * 4 + 2, none⟩ = some (.bool t1) ∧ w'.cell? ⟨b, off + k * 4 + 3, none⟩ = some (.slice B1 m1 d1) ∧ w'.cell? ⟨b', off' + k * 4, none⟩ = some (.bool s2) ∧ w'.cell? ⟨b', off' + k * 4 + 1, none⟩ = some (.slice A2 n2 c2) ∧ w'.cell? ⟨b', off' + k * 4 + 2, none⟩ = some (.bool t2) ∧ w'.cell? ⟨b', off' + k * 4 + 3, none⟩ = some (.slice B2 m2 d2))
            (((try dsimp only); refine S_8 h1 h2 h3 h4 k1 k2 k3 k4 ?_; repeat' (first | with_reducible assumption | with_reducible exact And.left (by assumption) | with_reducible refine Below.alloc' (Nat.le_refl _) ?_ | with_reducible refine Below.drew' ?_)))
            (first
              | (go_at_call 41
                 refine (hS _ (And.left (by assumption))).mono ?_
                 rintro e w3 ⟨rfl, hb3⟩
                 have g3 : Below w.heap.size w _ := And.left (by assumption)
                 have g3 := g3.trans (hb3.mono g3.size)))
          all_goals
            go_wp2
            go_ret
            exact ⟨by rw [HR.out]; rfl, g3⟩
      · obtain rfl : k = n := by omega
        have HR := Lib.hid (HE.out hsame)
        go_wp2
        go_ret
        exact ⟨by rw [HR.out]; rfl, hBr⟩
  · have e : decide (p = q) = false := decide_eq_false (fun e => hn (by rw [e]))
    have bl : ((p.length : Int) != (q.length : Int)) = true := by simp; omega
    rw [e]
    clear e hA hB
    generalize p.length = n at *
    generalize q.length = m at *
    have hnm : ((n : Int) == (m : Int)) = false := by rw [beq_eq_false_iff_ne]; omega
    have Hn := Lib.hid hn
    clear hn
    go_enter Tryz.func19, Tryz.ntmps19
    go_wp2
    go_ret
    exact ⟨rfl, hb0⟩

end Go.Proofs.YtlklgeidffjidaaGreat
