/- Walks: rational arithmetic (package rational). -/
import Derived.Test.YtlklgeidffjidaaGreatMUnivariateRing2
import Derived.Laws.IdiomCopy
import Derived.Lib.SlBuf
import Derived.Deep.RegionLaw
namespace Go.Proofs.YtlklgeidffjidaaGreat
open Go.RowKit
set_option linter.unusedSimpArgs false

set_option maxRecDepth 100000 in
set_option maxHeartbeats 4000000 in
theorem rat_mul_aux (u v : Value) (a b q : Rat) (w : World) (hu : IsRat w u a) (hv : IsRat w v b)
    (hL : ∀ W u v, IsInt W u (a.num * b.num) → IsInt W v ((a.den : Int) * (b.den : Int)) → Calls Tryz.prog 104 #[u, v] W fun e w' => (∃ v, e = .returned v ∧ IsRat w' v q) ∧ Below W.heap.size W w')
    (hP1 : isz a.num + isz b.num + 1 ≤ 549755813888) (hP2 : isz (a.den : Int) + isz (b.den : Int) + 1 ≤ 549755813888) :
    Calls Tryz.prog 64 #[u, v] w fun e w' => (∃ v, e = .returned v ∧ IsRat w' v q) ∧ Below w.heap.size w w' := by
  obtain ⟨s, A, n, c, s', A', n', c', rfl, ha1, ha2⟩ := hu
  obtain ⟨t, B, m, d, t', B', m', d', rfl, hb1, hb2⟩ := hv
  go_enter Tryz.func64, Tryz.ntmps64
  go_wp2_with fail
  generalize hW : World.alloc _ _ = W
  have hBW : Below w.heap.size w W := by rw [← hW]; exact (((Below.refl _ _).alloc (Nat.le_refl _) _).alloc (by simp) _).alloc (by simp; omega) _
  have a0 : W.cell? ⟨w.heap.size, 0, none⟩ = some (.bool s) := by rw [← hW]; simp [go_sem]
  have a1 : W.cell? ⟨w.heap.size, 1, none⟩ = some (.slice A n c) := by rw [← hW]; simp [go_sem]
  have a2 : W.cell? ⟨w.heap.size, 2, none⟩ = some (.bool s') := by rw [← hW]; simp [go_sem]
  have a3 : W.cell? ⟨w.heap.size, 3, none⟩ = some (.slice A' n' c') := by rw [← hW]; simp [go_sem]
  have b0 : W.cell? ⟨w.heap.size + 1, 0, none⟩ = some (.bool t) := by rw [← hW]; simp [go_sem]
  have b1 : W.cell? ⟨w.heap.size + 1, 1, none⟩ = some (.slice B m d) := by rw [← hW]; simp [go_sem]
  have b2 : W.cell? ⟨w.heap.size + 1, 2, none⟩ = some (.bool t') := by rw [← hW]; simp [go_sem]
  have b3 : W.cell? ⟨w.heap.size + 1, 3, none⟩ = some (.slice B' m' d') := by rw [← hW]; simp [go_sem]
  have hR : RC4 W (w.heap.size + 1 + 1) := by rw [← hW]; exact ⟨by simp [go_sem], by simp [go_sem], by simp [go_sem], by simp [go_sem], by simp [go_sem], by simp⟩
  have hz : w.heap.size + 2 ≤ W.heap.size := by rw [← hW]; simp
  have hge : w.heap.size + 2 ≤ w.heap.size + 1 + 1 := Nat.le_refl _
  have lt0 : w.heap.size < w.heap.size + 2 := by omega
  have lt1 : w.heap.size + 1 < w.heap.size + 2 := by omega
  clear hW
  go_region_held3 (fun w' => Below (w.heap.size + 2) W w' ∧ w'.cell? ⟨w.heap.size, 0, none⟩ = some (.bool s) ∧ w'.cell? ⟨w.heap.size, 1, none⟩ = some (.slice A n c) ∧ w'.cell? ⟨w.heap.size, 2, none⟩ = some (.bool s') ∧ w'.cell? ⟨w.heap.size, 3, none⟩ = some (.slice A' n' c') ∧ w'.cell? ⟨w.heap.size + 1, 0, none⟩ = some (.bool t) ∧ w'.cell? ⟨w.heap.size + 1, 1, none⟩ = some (.slice B m d) ∧ w'.cell? ⟨w.heap.size + 1, 2, none⟩ = some (.bool t') ∧ w'.cell? ⟨w.heap.size + 1, 3, none⟩ = some (.slice B' m' d'))
    (((try dsimp only); first | with_reducible exact keepD8 hz (by assumption) | with_reducible exact keepA8 hz (by assumption) | with_reducible exact keepC8 hz (by assumption) (by assumption) | with_reducible exact keepT8 (below_set4 hge _ _ _ _ _ _ _ _) lt0 lt0 lt0 lt0 lt1 lt1 lt1 lt1 (by assumption) | exact ⟨below_drew' _, a0, a1, a2, a3, b0, b1, b2, b3⟩))
    (first
      | (go_at_call 106
         refine (product_two _ (a.num) (b.num) _ (by (repeat' (first | assumption | (simp [go_sem]; done) | with_reducible apply cell_alloc | with_reducible apply cell_drew)); first | done | fail) (by (repeat' (first | assumption | (simp [go_sem]; done) | with_reducible apply cell_alloc | with_reducible apply cell_drew)); first | done | fail) (by (repeat' (first | assumption | (simp [go_sem]; done) | with_reducible apply cell_alloc | with_reducible apply cell_drew)); first | done | fail) (by (repeat' (first | assumption | (simp [go_sem]; done) | with_reducible apply cell_alloc | with_reducible apply cell_drew)); first | done | fail) (ha1.below (hBW.trans (Below.mono (And.left (by assumption)) (Nat.le_of_lt lt0)))) (hb1.below (hBW.trans (Below.mono (And.left (by assumption)) (Nat.le_of_lt lt0)))) hP1).mono ?_
         rintro e w1 ⟨⟨v1, rfl, p1⟩, h1⟩
         have hR1 : RC4 w1 (w.heap.size + 1 + 1) := RC4.below (by (repeat' (first | assumption | with_reducible apply RC4.alloc | with_reducible apply RC4.drewn)); first | done | fail) h1
         have c1 := fun g o v hh => cell_below (g := g) (o := o) (v := v) hh h1)
      | (go_at_call 106
         refine (product_two _ ((a.den : Int)) ((b.den : Int)) _ (by (repeat' (first | assumption | (simp [go_sem]; done) | with_reducible apply cell_alloc | with_reducible apply cell_drew | apply c1)); first | done | fail) (by (repeat' (first | assumption | (simp [go_sem]; done) | with_reducible apply cell_alloc | with_reducible apply cell_drew | apply c1)); first | done | fail) (by (repeat' (first | assumption | (simp [go_sem]; done) | with_reducible apply cell_alloc | with_reducible apply cell_drew | apply c1)); first | done | fail) (by (repeat' (first | assumption | (simp [go_sem]; done) | with_reducible apply cell_alloc | with_reducible apply cell_drew | apply c1)); first | done | fail) (ha2.below (hBW.trans (Below.mono (And.left (by assumption)) (Nat.le_of_lt lt0)))) (hb2.below (hBW.trans (Below.mono (And.left (by assumption)) (Nat.le_of_lt lt0)))) hP2).mono ?_
         rintro e w2 ⟨⟨v2, rfl, p2⟩, h2⟩
         have hR2 : RC4 w2 (w.heap.size + 1 + 1) := RC4.below (by (repeat' (first | assumption | with_reducible apply RC4.alloc | with_reducible apply RC4.drewn)); first | done | fail) h2
         have q2v1 : IsInt w2 v1 ((a.num) * (b.num)) := IsInt.below (by (repeat' (first | assumption | with_reducible apply IsInt.alloc | with_reducible apply IsInt.drewn)); first | done | fail) h2
         have c2 := fun g o v hh => cell_below (g := g) (o := o) (v := v) hh h2)
      | (go_at_call 104
         refine (hL _ _ _ (by (repeat' (first | assumption | with_reducible apply IsInt.alloc | with_reducible apply IsInt.drewn)); first | done | fail) (by (repeat' (first | assumption | with_reducible apply IsInt.alloc | with_reducible apply IsInt.drewn)); first | done | fail)).mono ?_
         rintro e w3 ⟨⟨_, rfl, s3, A3, n3, m3, t3, B3, k3, l3, rfl, hq⟩, h3⟩
         have hX : Below w.heap.size w _ := (hBW.trans (Below.mono (And.left (by assumption)) (Nat.le_of_lt lt0)))
         have hE := hX.trans (h3.mono hX.size)
         have hR3 : RC4 w3 (w.heap.size + 1 + 1) := RC4.below (by (repeat' (first | assumption | with_reducible apply RC4.alloc | with_reducible apply RC4.drewn)); first | done | fail) h3
         obtain ⟨d0, d1, d2, d3, df, dl⟩ := hR3))
  all_goals
    have hP := rat_put' hE (by omega) ⟨d0, d1, d2, d3, df, dl⟩ hq
    go_wp2
    exact bodyPost_ret (v := .agg #[.bool s3, .slice A3 n3 m3, .bool t3, .slice B3 k3 l3]) (by simp [results, Tryz.results64, go_sem, d0, d1, d2, d3]) rfl ⟨⟨_, rfl, RatP.is hP.1⟩, hP.2⟩

set_option maxRecDepth 100000 in
set_option maxHeartbeats 4000000 in
theorem rat_add_aux (u v : Value) (a b q : Rat) (w : World) (hu : IsRat w u a) (hv : IsRat w v b)
    (hL : ∀ W u v, IsInt W u (a.num * (b.den : Int) + b.num * (a.den : Int)) → IsInt W v ((a.den : Int) * (b.den : Int)) → Calls Tryz.prog 104 #[u, v] W fun e w' => (∃ v, e = .returned v ∧ IsRat w' v q) ∧ Below W.heap.size W w')
    (hA : ∀ W u v, IsInt W u (a.num * (b.den : Int)) → IsInt W v (b.num * (a.den : Int)) → Calls Tryz.prog 105 #[u, v] W fun e w' => (∃ v, e = .returned v ∧ IsInt w' v (a.num * (b.den : Int) + b.num * (a.den : Int))) ∧ Below W.heap.size W w')
    (hP1 : isz a.num + isz (b.den : Int) + 1 ≤ 549755813888) (hP2 : isz b.num + isz (a.den : Int) + 1 ≤ 549755813888) (hP3 : isz (a.den : Int) + isz (b.den : Int) + 1 ≤ 549755813888) :
    Calls Tryz.prog 62 #[u, v] w fun e w' => (∃ v, e = .returned v ∧ IsRat w' v q) ∧ Below w.heap.size w w' := by
  obtain ⟨s, A, n, c, s', A', n', c', rfl, ha1, ha2⟩ := hu
  obtain ⟨t, B, m, d, t', B', m', d', rfl, hb1, hb2⟩ := hv
  go_enter Tryz.func62, Tryz.ntmps62
  go_wp2_with fail
  generalize hW : World.alloc _ _ = W
  have hBW : Below w.heap.size w W := by rw [← hW]; exact (((Below.refl _ _).alloc (Nat.le_refl _) _).alloc (by simp) _).alloc (by simp; omega) _
  have a0 : W.cell? ⟨w.heap.size, 0, none⟩ = some (.bool s) := by rw [← hW]; simp [go_sem]
  have a1 : W.cell? ⟨w.heap.size, 1, none⟩ = some (.slice A n c) := by rw [← hW]; simp [go_sem]
  have a2 : W.cell? ⟨w.heap.size, 2, none⟩ = some (.bool s') := by rw [← hW]; simp [go_sem]
  have a3 : W.cell? ⟨w.heap.size, 3, none⟩ = some (.slice A' n' c') := by rw [← hW]; simp [go_sem]
  have b0 : W.cell? ⟨w.heap.size + 1, 0, none⟩ = some (.bool t) := by rw [← hW]; simp [go_sem]
  have b1 : W.cell? ⟨w.heap.size + 1, 1, none⟩ = some (.slice B m d) := by rw [← hW]; simp [go_sem]
  have b2 : W.cell? ⟨w.heap.size + 1, 2, none⟩ = some (.bool t') := by rw [← hW]; simp [go_sem]
  have b3 : W.cell? ⟨w.heap.size + 1, 3, none⟩ = some (.slice B' m' d') := by rw [← hW]; simp [go_sem]
  have hR : RC4 W (w.heap.size + 1 + 1) := by rw [← hW]; exact ⟨by simp [go_sem], by simp [go_sem], by simp [go_sem], by simp [go_sem], by simp [go_sem], by simp⟩
  have hz : w.heap.size + 2 ≤ W.heap.size := by rw [← hW]; simp
  have hge : w.heap.size + 2 ≤ w.heap.size + 1 + 1 := Nat.le_refl _
  have lt0 : w.heap.size < w.heap.size + 2 := by omega
  have lt1 : w.heap.size + 1 < w.heap.size + 2 := by omega
  clear hW
  go_region_held3 (fun w' => Below (w.heap.size + 2) W w' ∧ w'.cell? ⟨w.heap.size, 0, none⟩ = some (.bool s) ∧ w'.cell? ⟨w.heap.size, 1, none⟩ = some (.slice A n c) ∧ w'.cell? ⟨w.heap.size, 2, none⟩ = some (.bool s') ∧ w'.cell? ⟨w.heap.size, 3, none⟩ = some (.slice A' n' c') ∧ w'.cell? ⟨w.heap.size + 1, 0, none⟩ = some (.bool t) ∧ w'.cell? ⟨w.heap.size + 1, 1, none⟩ = some (.slice B m d) ∧ w'.cell? ⟨w.heap.size + 1, 2, none⟩ = some (.bool t') ∧ w'.cell? ⟨w.heap.size + 1, 3, none⟩ = some (.slice B' m' d'))
    (((try dsimp only); first | with_reducible exact keepD8 hz (by assumption) | with_reducible exact keepA8 hz (by assumption) | with_reducible exact keepC8 hz (by assumption) (by assumption) | with_reducible exact keepT8 (below_set4 hge _ _ _ _ _ _ _ _) lt0 lt0 lt0 lt0 lt1 lt1 lt1 lt1 (by assumption) | exact ⟨below_drew' _, a0, a1, a2, a3, b0, b1, b2, b3⟩))
    (first
      | (go_at_call 106
         refine (product_two _ (a.num) ((b.den : Int)) _ (by (repeat' (first | assumption | (simp [go_sem]; done) | with_reducible apply cell_alloc | with_reducible apply cell_drew)); first | done | fail) (by (repeat' (first | assumption | (simp [go_sem]; done) | with_reducible apply cell_alloc | with_reducible apply cell_drew)); first | done | fail) (by (repeat' (first | assumption | (simp [go_sem]; done) | with_reducible apply cell_alloc | with_reducible apply cell_drew)); first | done | fail) (by (repeat' (first | assumption | (simp [go_sem]; done) | with_reducible apply cell_alloc | with_reducible apply cell_drew)); first | done | fail) (ha1.below (hBW.trans (Below.mono (And.left (by assumption)) (Nat.le_of_lt lt0)))) (hb2.below (hBW.trans (Below.mono (And.left (by assumption)) (Nat.le_of_lt lt0)))) hP1).mono ?_
         rintro e w1 ⟨⟨v1, rfl, p1⟩, h1⟩
         have hR1 : RC4 w1 (w.heap.size + 1 + 1) := RC4.below (by (repeat' (first | assumption | with_reducible apply RC4.alloc | with_reducible apply RC4.drewn)); first | done | fail) h1
         have c1 := fun g o v hh => cell_below (g := g) (o := o) (v := v) hh h1)
      | (go_at_call 106
         refine (product_two _ (b.num) ((a.den : Int)) _ (by (repeat' (first | assumption | (simp [go_sem]; done) | with_reducible apply cell_alloc | with_reducible apply cell_drew | apply c1)); first | done | fail) (by (repeat' (first | assumption | (simp [go_sem]; done) | with_reducible apply cell_alloc | with_reducible apply cell_drew | apply c1)); first | done | fail) (by (repeat' (first | assumption | (simp [go_sem]; done) | with_reducible apply cell_alloc | with_reducible apply cell_drew | apply c1)); first | done | fail) (by (repeat' (first | assumption | (simp [go_sem]; done) | with_reducible apply cell_alloc | with_reducible apply cell_drew | apply c1)); first | done | fail) (hb1.below (hBW.trans (Below.mono (And.left (by assumption)) (Nat.le_of_lt lt0)))) (ha2.below (hBW.trans (Below.mono (And.left (by assumption)) (Nat.le_of_lt lt0)))) hP2).mono ?_
         rintro e w2 ⟨⟨v2, rfl, p2⟩, h2⟩
         have hR2 : RC4 w2 (w.heap.size + 1 + 1) := RC4.below (by (repeat' (first | assumption | with_reducible apply RC4.alloc | with_reducible apply RC4.drewn)); first | done | fail) h2
         have q2v1 : IsInt w2 v1 ((a.num) * ((b.den : Int))) := IsInt.below (by (repeat' (first | assumption | with_reducible apply IsInt.alloc | with_reducible apply IsInt.drewn)); first | done | fail) h2
         have c2 := fun g o v hh => cell_below (g := g) (o := o) (v := v) hh h2)
      | (go_at_call 105
         refine (hA _ _ _ (by (repeat' (first | assumption | with_reducible apply IsInt.alloc | with_reducible apply IsInt.drewn)); first | done | fail) (by (repeat' (first | assumption | with_reducible apply IsInt.alloc | with_reducible apply IsInt.drewn)); first | done | fail)).mono ?_
         rintro e w3 ⟨⟨v3, rfl, p3⟩, h3⟩
         have hR3 : RC4 w3 (w.heap.size + 1 + 1) := RC4.below (by (repeat' (first | assumption | with_reducible apply RC4.alloc | with_reducible apply RC4.drewn)); first | done | fail) h3
         have q3v1 : IsInt w3 v1 ((a.num) * ((b.den : Int))) := IsInt.below (by (repeat' (first | assumption | with_reducible apply IsInt.alloc | with_reducible apply IsInt.drewn)); first | done | fail) h3
         have q3v2 : IsInt w3 v2 ((b.num) * ((a.den : Int))) := IsInt.below (by (repeat' (first | assumption | with_reducible apply IsInt.alloc | with_reducible apply IsInt.drewn)); first | done | fail) h3
         have c3 := fun g o v hh => cell_below (g := g) (o := o) (v := v) hh h3)
      | (go_at_call 106
         refine (product_two _ ((a.den : Int)) ((b.den : Int)) _ (by (repeat' (first | assumption | (simp [go_sem]; done) | with_reducible apply cell_alloc | with_reducible apply cell_drew | apply c1 | apply c2 | apply c3)); first | done | fail) (by (repeat' (first | assumption | (simp [go_sem]; done) | with_reducible apply cell_alloc | with_reducible apply cell_drew | apply c1 | apply c2 | apply c3)); first | done | fail) (by (repeat' (first | assumption | (simp [go_sem]; done) | with_reducible apply cell_alloc | with_reducible apply cell_drew | apply c1 | apply c2 | apply c3)); first | done | fail) (by (repeat' (first | assumption | (simp [go_sem]; done) | with_reducible apply cell_alloc | with_reducible apply cell_drew | apply c1 | apply c2 | apply c3)); first | done | fail) (ha2.below (hBW.trans (Below.mono (And.left (by assumption)) (Nat.le_of_lt lt0)))) (hb2.below (hBW.trans (Below.mono (And.left (by assumption)) (Nat.le_of_lt lt0)))) hP3).mono ?_
         rintro e w4 ⟨⟨v4, rfl, p4⟩, h4⟩
         have hR4 : RC4 w4 (w.heap.size + 1 + 1) := RC4.below (by (repeat' (first | assumption | with_reducible apply RC4.alloc | with_reducible apply RC4.drewn)); first | done | fail) h4
         have q4v1 : IsInt w4 v1 ((a.num) * ((b.den : Int))) := IsInt.below (by (repeat' (first | assumption | with_reducible apply IsInt.alloc | with_reducible apply IsInt.drewn)); first | done | fail) h4
         have q4v2 : IsInt w4 v2 ((b.num) * ((a.den : Int))) := IsInt.below (by (repeat' (first | assumption | with_reducible apply IsInt.alloc | with_reducible apply IsInt.drewn)); first | done | fail) h4
         have q4v3 : IsInt w4 v3 (a.num * (b.den : Int) + b.num * (a.den : Int)) := IsInt.below (by (repeat' (first | assumption | with_reducible apply IsInt.alloc | with_reducible apply IsInt.drewn)); first | done | fail) h4
         have c4 := fun g o v hh => cell_below (g := g) (o := o) (v := v) hh h4)
      | (go_at_call 104
         refine (hL _ _ _ (by (repeat' (first | assumption | with_reducible apply IsInt.alloc | with_reducible apply IsInt.drewn)); first | done | fail) (by (repeat' (first | assumption | with_reducible apply IsInt.alloc | with_reducible apply IsInt.drewn)); first | done | fail)).mono ?_
         rintro e w5 ⟨⟨_, rfl, s3, A3, n3, m3, t3, B3, k3, l3, rfl, hq⟩, h5⟩
         have hX : Below w.heap.size w _ := (hBW.trans (Below.mono (And.left (by assumption)) (Nat.le_of_lt lt0)))
         have hE := hX.trans (h5.mono hX.size)
         have hR5 : RC4 w5 (w.heap.size + 1 + 1) := RC4.below (by (repeat' (first | assumption | with_reducible apply RC4.alloc | with_reducible apply RC4.drewn)); first | done | fail) h5
         obtain ⟨d0, d1, d2, d3, df, dl⟩ := hR5))
  all_goals
    have hP := rat_put' hE (by omega) ⟨d0, d1, d2, d3, df, dl⟩ hq
    go_wp2
    exact bodyPost_ret (v := .agg #[.bool s3, .slice A3 n3 m3, .bool t3, .slice B3 k3 l3]) (by simp [results, Tryz.results62, go_sem, d0, d1, d2, d3]) rfl ⟨⟨_, rfl, RatP.is hP.1⟩, hP.2⟩

set_option maxRecDepth 100000 in
set_option maxHeartbeats 4000000 in
theorem rat_sub_aux (u v : Value) (a b q : Rat) (w : World) (hu : IsRat w u a) (hv : IsRat w v b)
    (hL : ∀ W u v, IsInt W u (a.num * (b.den : Int) - b.num * (a.den : Int)) → IsInt W v ((a.den : Int) * (b.den : Int)) → Calls Tryz.prog 104 #[u, v] W fun e w' => (∃ v, e = .returned v ∧ IsRat w' v q) ∧ Below W.heap.size W w')
    (hA : ∀ W u v, IsInt W u (a.num * (b.den : Int)) → IsInt W v (b.num * (a.den : Int)) → Calls Tryz.prog 111 #[u, v] W fun e w' => (∃ v, e = .returned v ∧ IsInt w' v (a.num * (b.den : Int) - b.num * (a.den : Int))) ∧ Below W.heap.size W w')
    (hP1 : isz a.num + isz (b.den : Int) + 1 ≤ 549755813888) (hP2 : isz b.num + isz (a.den : Int) + 1 ≤ 549755813888) (hP3 : isz (a.den : Int) + isz (b.den : Int) + 1 ≤ 549755813888) :
    Calls Tryz.prog 70 #[u, v] w fun e w' => (∃ v, e = .returned v ∧ IsRat w' v q) ∧ Below w.heap.size w w' := by
  obtain ⟨s, A, n, c, s', A', n', c', rfl, ha1, ha2⟩ := hu
  obtain ⟨t, B, m, d, t', B', m', d', rfl, hb1, hb2⟩ := hv
  go_enter Tryz.func70, Tryz.ntmps70
  go_wp2_with fail
  generalize hW : World.alloc _ _ = W
  have hBW : Below w.heap.size w W := by rw [← hW]; exact (((Below.refl _ _).alloc (Nat.le_refl _) _).alloc (by simp) _).alloc (by simp; omega) _
  have a0 : W.cell? ⟨w.heap.size, 0, none⟩ = some (.bool s) := by rw [← hW]; simp [go_sem]
  have a1 : W.cell? ⟨w.heap.size, 1, none⟩ = some (.slice A n c) := by rw [← hW]; simp [go_sem]
  have a2 : W.cell? ⟨w.heap.size, 2, none⟩ = some (.bool s') := by rw [← hW]; simp [go_sem]
  have a3 : W.cell? ⟨w.heap.size, 3, none⟩ = some (.slice A' n' c') := by rw [← hW]; simp [go_sem]
  have b0 : W.cell? ⟨w.heap.size + 1, 0, none⟩ = some (.bool t) := by rw [← hW]; simp [go_sem]
  have b1 : W.cell? ⟨w.heap.size + 1, 1, none⟩ = some (.slice B m d) := by rw [← hW]; simp [go_sem]
  have b2 : W.cell? ⟨w.heap.size + 1, 2, none⟩ = some (.bool t') := by rw [← hW]; simp [go_sem]
  have b3 : W.cell? ⟨w.heap.size + 1, 3, none⟩ = some (.slice B' m' d') := by rw [← hW]; simp [go_sem]
  have hR : RC4 W (w.heap.size + 1 + 1) := by rw [← hW]; exact ⟨by simp [go_sem], by simp [go_sem], by simp [go_sem], by simp [go_sem], by simp [go_sem], by simp⟩
  have hz : w.heap.size + 2 ≤ W.heap.size := by rw [← hW]; simp
  have hge : w.heap.size + 2 ≤ w.heap.size + 1 + 1 := Nat.le_refl _
  have lt0 : w.heap.size < w.heap.size + 2 := by omega
  have lt1 : w.heap.size + 1 < w.heap.size + 2 := by omega
  clear hW
  go_region_held3 (fun w' => Below (w.heap.size + 2) W w' ∧ w'.cell? ⟨w.heap.size, 0, none⟩ = some (.bool s) ∧ w'.cell? ⟨w.heap.size, 1, none⟩ = some (.slice A n c) ∧ w'.cell? ⟨w.heap.size, 2, none⟩ = some (.bool s') ∧ w'.cell? ⟨w.heap.size, 3, none⟩ = some (.slice A' n' c') ∧ w'.cell? ⟨w.heap.size + 1, 0, none⟩ = some (.bool t) ∧ w'.cell? ⟨w.heap.size + 1, 1, none⟩ = some (.slice B m d) ∧ w'.cell? ⟨w.heap.size + 1, 2, none⟩ = some (.bool t') ∧ w'.cell? ⟨w.heap.size + 1, 3, none⟩ = some (.slice B' m' d'))
    (((try dsimp only); first | with_reducible exact keepD8 hz (by assumption) | with_reducible exact keepA8 hz (by assumption) | with_reducible exact keepC8 hz (by assumption) (by assumption) | with_reducible exact keepT8 (below_set4 hge _ _ _ _ _ _ _ _) lt0 lt0 lt0 lt0 lt1 lt1 lt1 lt1 (by assumption) | exact ⟨below_drew' _, a0, a1, a2, a3, b0, b1, b2, b3⟩))
    (first
      | (go_at_call 106
         refine (product_two _ (a.num) ((b.den : Int)) _ (by (repeat' (first | assumption | (simp [go_sem]; done) | with_reducible apply cell_alloc | with_reducible apply cell_drew)); first | done | fail) (by (repeat' (first | assumption | (simp [go_sem]; done) | with_reducible apply cell_alloc | with_reducible apply cell_drew)); first | done | fail) (by (repeat' (first | assumption | (simp [go_sem]; done) | with_reducible apply cell_alloc | with_reducible apply cell_drew)); first | done | fail) (by (repeat' (first | assumption | (simp [go_sem]; done) | with_reducible apply cell_alloc | with_reducible apply cell_drew)); first | done | fail) (ha1.below (hBW.trans (Below.mono (And.left (by assumption)) (Nat.le_of_lt lt0)))) (hb2.below (hBW.trans (Below.mono (And.left (by assumption)) (Nat.le_of_lt lt0)))) hP1).mono ?_
         rintro e w1 ⟨⟨v1, rfl, p1⟩, h1⟩
         have hR1 : RC4 w1 (w.heap.size + 1 + 1) := RC4.below (by (repeat' (first | assumption | with_reducible apply RC4.alloc | with_reducible apply RC4.drewn)); first | done | fail) h1
         have c1 := fun g o v hh => cell_below (g := g) (o := o) (v := v) hh h1)
      | (go_at_call 106
         refine (product_two _ (b.num) ((a.den : Int)) _ (by (repeat' (first | assumption | (simp [go_sem]; done) | with_reducible apply cell_alloc | with_reducible apply cell_drew | apply c1)); first | done | fail) (by (repeat' (first | assumption | (simp [go_sem]; done) | with_reducible apply cell_alloc | with_reducible apply cell_drew | apply c1)); first | done | fail) (by (repeat' (first | assumption | (simp [go_sem]; done) | with_reducible apply cell_alloc | with_reducible apply cell_drew | apply c1)); first | done | fail) (by (repeat' (first | assumption | (simp [go_sem]; done) | with_reducible apply cell_alloc | with_reducible apply cell_drew | apply c1)); first | done | fail) (hb1.below (hBW.trans (Below.mono (And.left (by assumption)) (Nat.le_of_lt lt0)))) (ha2.below (hBW.trans (Below.mono (And.left (by assumption)) (Nat.le_of_lt lt0)))) hP2).mono ?_
         rintro e w2 ⟨⟨v2, rfl, p2⟩, h2⟩
         have hR2 : RC4 w2 (w.heap.size + 1 + 1) := RC4.below (by (repeat' (first | assumption | with_reducible apply RC4.alloc | with_reducible apply RC4.drewn)); first | done | fail) h2
         have q2v1 : IsInt w2 v1 ((a.num) * ((b.den : Int))) := IsInt.below (by (repeat' (first | assumption | with_reducible apply IsInt.alloc | with_reducible apply IsInt.drewn)); first | done | fail) h2
         have c2 := fun g o v hh => cell_below (g := g) (o := o) (v := v) hh h2)
      | (go_at_call 111
         refine (hA _ _ _ (by (repeat' (first | assumption | with_reducible apply IsInt.alloc | with_reducible apply IsInt.drewn)); first | done | fail) (by (repeat' (first | assumption | with_reducible apply IsInt.alloc | with_reducible apply IsInt.drewn)); first | done | fail)).mono ?_
         rintro e w3 ⟨⟨v3, rfl, p3⟩, h3⟩
         have hR3 : RC4 w3 (w.heap.size + 1 + 1) := RC4.below (by (repeat' (first | assumption | with_reducible apply RC4.alloc | with_reducible apply RC4.drewn)); first | done | fail) h3
         have q3v1 : IsInt w3 v1 ((a.num) * ((b.den : Int))) := IsInt.below (by (repeat' (first | assumption | with_reducible apply IsInt.alloc | with_reducible apply IsInt.drewn)); first | done | fail) h3
         have q3v2 : IsInt w3 v2 ((b.num) * ((a.den : Int))) := IsInt.below (by (repeat' (first | assumption | with_reducible apply IsInt.alloc | with_reducible apply IsInt.drewn)); first | done | fail) h3
         have c3 := fun g o v hh => cell_below (g := g) (o := o) (v := v) hh h3)
      | (go_at_call 106
         refine (product_two _ ((a.den : Int)) ((b.den : Int)) _ (by (repeat' (first | assumption | (simp [go_sem]; done) | with_reducible apply cell_alloc | with_reducible apply cell_drew | apply c1 | apply c2 | apply c3)); first | done | fail) (by (repeat' (first | assumption | (simp [go_sem]; done) | with_reducible apply cell_alloc | with_reducible apply cell_drew | apply c1 | apply c2 | apply c3)); first | done | fail) (by (repeat' (first | assumption | (simp [go_sem]; done) | with_reducible apply cell_alloc | with_reducible apply cell_drew | apply c1 | apply c2 | apply c3)); first | done | fail) (by (repeat' (first | assumption | (simp [go_sem]; done) | with_reducible apply cell_alloc | with_reducible apply cell_drew | apply c1 | apply c2 | apply c3)); first | done | fail) (ha2.below (hBW.trans (Below.mono (And.left (by assumption)) (Nat.le_of_lt lt0)))) (hb2.below (hBW.trans (Below.mono (And.left (by assumption)) (Nat.le_of_lt lt0)))) hP3).mono ?_
         rintro e w4 ⟨⟨v4, rfl, p4⟩, h4⟩
         have hR4 : RC4 w4 (w.heap.size + 1 + 1) := RC4.below (by (repeat' (first | assumption | with_reducible apply RC4.alloc | with_reducible apply RC4.drewn)); first | done | fail) h4
         have q4v1 : IsInt w4 v1 ((a.num) * ((b.den : Int))) := IsInt.below (by (repeat' (first | assumption | with_reducible apply IsInt.alloc | with_reducible apply IsInt.drewn)); first | done | fail) h4
         have q4v2 : IsInt w4 v2 ((b.num) * ((a.den : Int))) := IsInt.below (by (repeat' (first | assumption | with_reducible apply IsInt.alloc | with_reducible apply IsInt.drewn)); first | done | fail) h4
         have q4v3 : IsInt w4 v3 (a.num * (b.den : Int) - b.num * (a.den : Int)) := IsInt.below (by (repeat' (first | assumption | with_reducible apply IsInt.alloc | with_reducible apply IsInt.drewn)); first | done | fail) h4
         have c4 := fun g o v hh => cell_below (g := g) (o := o) (v := v) hh h4)
      | (go_at_call 104
         refine (hL _ _ _ (by (repeat' (first | assumption | with_reducible apply IsInt.alloc | with_reducible apply IsInt.drewn)); first | done | fail) (by (repeat' (first | assumption | with_reducible apply IsInt.alloc | with_reducible apply IsInt.drewn)); first | done | fail)).mono ?_
         rintro e w5 ⟨⟨_, rfl, s3, A3, n3, m3, t3, B3, k3, l3, rfl, hq⟩, h5⟩
         have hX : Below w.heap.size w _ := (hBW.trans (Below.mono (And.left (by assumption)) (Nat.le_of_lt lt0)))
         have hE := hX.trans (h5.mono hX.size)
         have hR5 : RC4 w5 (w.heap.size + 1 + 1) := RC4.below (by (repeat' (first | assumption | with_reducible apply RC4.alloc | with_reducible apply RC4.drewn)); first | done | fail) h5
         obtain ⟨d0, d1, d2, d3, df, dl⟩ := hR5))
  all_goals
    have hP := rat_put' hE (by omega) ⟨d0, d1, d2, d3, df, dl⟩ hq
    go_wp2
    exact bodyPost_ret (v := .agg #[.bool s3, .slice A3 n3 m3, .bool t3, .slice B3 k3 l3]) (by simp [results, Tryz.results70, go_sem, d0, d1, d2, d3]) rfl ⟨⟨_, rfl, RatP.is hP.1⟩, hP.2⟩

end Go.Proofs.YtlklgeidffjidaaGreat

/- Walks: quotients of rational numbers (package rational). -/
namespace Go.Proofs.YtlklgeidffjidaaGreat
open Go.RowKit
set_option linter.unusedSimpArgs false

theorem cmpI_ne {y : Int} (h : y ≠ 0) : cmpI y 0 ≠ 0 := by unfold cmpI; split <;> first | omega | (split <;> omega)
theorem cmpI_zero : cmpI 0 0 = 0 := by decide
/-- The zero value of the type Rat. -/
def ratNil : Value := .agg #[.bool false, .slice none 0 0, .bool false, .slice none 0 0]
set_option maxHeartbeats 1000000 in
theorem rat_new_zero (u v : Value) (x : Int) (w : World) (hu : IsInt w u x) (hv : IsInt w v 0) :
    Calls Tryz.prog 110 #[u, v] w fun e w' => e = .returned (.tuple #[ratNil, .int .i64 10]) ∧ Below w.heap.size w w' := by
  obtain ⟨y, Hy⟩ : ∃ y : Int, Hid (y = 0) := ⟨0, Lib.hid rfl⟩
  rw [← Hy.out] at hv
  obtain ⟨su, A, n, c, rfl, hx⟩ := hu
  obtain ⟨sv, B, m, d, rfl, hy⟩ := hv
  have hS := fun W (hW : Below w.heap.size w W) => int_sign _ y W (hy.below hW).is
  have hcc : cmpI y 0 = 0 := by rw [Hy.out]; rfl
  rw [hcc] at hS
  go_enter Tryz.func110, Tryz.ntmps110
  go_wp2_with fail
  generalize hW : World.alloc _ _ = W
  have hBW : Below w.heap.size w W := by rw [← hW]; exact (((Below.refl _ _).alloc (Nat.le_refl _) _).alloc (by simp) _).alloc (by simp; omega) _
  have k1 : W.cell? ⟨w.heap.size, 0, none⟩ = some (.bool su) := by rw [← hW]; simp [go_sem]
  have k2 : W.cell? ⟨w.heap.size, 1, none⟩ = some (.slice A n c) := by rw [← hW]; simp [go_sem]
  have k3 : W.cell? ⟨w.heap.size + 1, 0, none⟩ = some (.bool sv) := by rw [← hW]; simp [go_sem]
  have k4 : W.cell? ⟨w.heap.size + 1, 1, none⟩ = some (.slice B m d) := by rw [← hW]; simp [go_sem]
  have hR : RC4 W (w.heap.size + 1 + 1) := by rw [← hW]; exact ⟨by simp [go_sem], by simp [go_sem], by simp [go_sem], by simp [go_sem], by simp [go_sem], by simp⟩
  clear hW
  refine (hS _ hBW).mono ?_
  rintro e w1 ⟨rfl, hb⟩
  have hBW := hBW.trans (hb.mono hBW.size)
  have k1 := cell_below k1 hb
  have k2 := cell_below k2 hb
  have k3 := cell_below k3 hb
  have k4 := cell_below k4 hb
  have hR := hR.below hb
  obtain ⟨r0, r1, r2, r3, rf, rl⟩ := hR
  go_wp2
  exact bodyPost_ret (v := .tuple #[ratNil, .int .i64 10]) (by simp [results, Tryz.results110, go_sem, r0, r1, r2, r3, ratNil]) rfl ⟨rfl, hBW.trans (below_set4 (by omega) _ _ _ _ _ _ _ _)⟩

set_option maxHeartbeats 1000000 in
theorem rat_new (u v : Value) (x y : Int) (w : World) (hu : IsInt w u x) (hv : IsInt w v y) (hsx : isz x ≤ 1099511627775) (hsy : isz y ≤ 1099511627775) (hy0 : y ≠ 0) :
    Calls Tryz.prog 110 #[u, v] w fun e w' => (∃ v, e = .returned (.tuple #[v, .int .i64 0]) ∧ IsRat w' v (Rat.divInt x y)) ∧ Below w.heap.size w w' := by
  obtain ⟨su, A, n, c, rfl, hx⟩ := hu
  obtain ⟨sv, B, m, d, rfl, hy⟩ := hv
  have hS := fun W (hW : Below w.heap.size w W) => int_sign _ y W (hy.below hW).is
  have hL := fun W (hW : Below w.heap.size w W) => rat_lowest _ _ x y W (hx.below hW).is (hy.below hW).is hsx hsy hy0
  have hcc := cmpI_ne hy0
  generalize cmpI y 0 = cc at *
  generalize Rat.divInt x y = R at *
  clear hy0
  go_enter Tryz.func110, Tryz.ntmps110
  go_wp2_with fail
  generalize hW : World.alloc _ _ = W
  have hBW : Below w.heap.size w W := by rw [← hW]; exact (((Below.refl _ _).alloc (Nat.le_refl _) _).alloc (by simp) _).alloc (by simp; omega) _
  have k1 : W.cell? ⟨w.heap.size, 0, none⟩ = some (.bool su) := by rw [← hW]; simp [go_sem]
  have k2 : W.cell? ⟨w.heap.size, 1, none⟩ = some (.slice A n c) := by rw [← hW]; simp [go_sem]
  have k3 : W.cell? ⟨w.heap.size + 1, 0, none⟩ = some (.bool sv) := by rw [← hW]; simp [go_sem]
  have k4 : W.cell? ⟨w.heap.size + 1, 1, none⟩ = some (.slice B m d) := by rw [← hW]; simp [go_sem]
  have hR : RC4 W (w.heap.size + 1 + 1) := by rw [← hW]; exact ⟨by simp [go_sem], by simp [go_sem], by simp [go_sem], by simp [go_sem], by simp [go_sem], by simp⟩
  clear hW
  refine (hS _ hBW).mono ?_
  rintro e w1 ⟨rfl, hb⟩
  have hBW := hBW.trans (hb.mono hBW.size)
  have k1 := cell_below k1 hb
  have k2 := cell_below k2 hb
  have k3 := cell_below k3 hb
  have k4 := cell_below k4 hb
  have hR := hR.below hb
  go_wp2_with fail
  refine (hL _ hBW).mono ?_
  rintro e w2 ⟨⟨_, rfl, s3, A3, n3, m3, t3, B3, k3, l3, rfl, hq⟩, hb2⟩
  have hBW := hBW.trans (hb2.mono hBW.size)
  have hR := hR.below hb2
  have hP := rat_put' hBW (by omega) hR hq
  obtain ⟨r0, r1, r2, r3, rf, rl⟩ := hR
  go_wp2
  exact bodyPost_ret (v := .tuple #[.agg #[.bool s3, .slice A3 n3 m3, .bool t3, .slice B3 k3 l3], .int .i64 0]) (by simp [results, Tryz.results110, go_sem, r0, r1, r2, r3]) rfl ⟨⟨_, rfl, RatP.is hP.1⟩, hP.2⟩

set_option maxHeartbeats 1000000 in
theorem rat_inv_aux (u : Value) (a q : Rat) (w : World) (hu : IsRat w u a)
    (hN : ∀ W u v, IsInt W u (a.den : Int) → IsInt W v a.num → Calls Tryz.prog 110 #[u, v] W fun e w' => (∃ v, e = .returned (.tuple #[v, .int .i64 0]) ∧ IsRat w' v q) ∧ Below W.heap.size W w') :
    Calls Tryz.prog 112 #[u] w fun e w' => (∃ v, e = .returned (.tuple #[v, .int .i64 0]) ∧ IsRat w' v q) ∧ Below w.heap.size w w' := by
  obtain ⟨s, A, n, c, s', A', n', c', rfl, ha1, ha2⟩ := hu
  go_enter Tryz.func112, Tryz.ntmps112
  go_wp2_with fail
  generalize hW : World.alloc _ _ = W
  have hBW : Below w.heap.size w W := by rw [← hW]; exact ((Below.refl _ _).alloc (Nat.le_refl _) _).alloc (by simp) _
  have hR : RC4 W (w.heap.size + 1) := by rw [← hW]; exact ⟨by simp [go_sem], by simp [go_sem], by simp [go_sem], by simp [go_sem], by simp [go_sem], by simp⟩
  clear hW
  refine (hN _ _ _ (ha2.below hBW).is (ha1.below hBW).is).mono ?_
  rintro e w2 ⟨⟨_, rfl, s3, A3, n3, m3, t3, B3, k3, l3, rfl, hq⟩, hb2⟩
  have hBW := hBW.trans (hb2.mono hBW.size)
  have hR := hR.below hb2
  have hP := rat_put' hBW (by omega) hR hq
  obtain ⟨r0, r1, r2, r3, rf, rl⟩ := hR
  go_wp2
  exact bodyPost_ret (v := .tuple #[.agg #[.bool s3, .slice A3 n3 m3, .bool t3, .slice B3 k3 l3], .int .i64 0]) (by simp [results, Tryz.results112, go_sem, r0, r1, r2, r3]) rfl ⟨⟨_, rfl, RatP.is hP.1⟩, hP.2⟩

set_option maxHeartbeats 1000000 in
theorem rat_sign (u : Value) (a : Rat) (w : World) (hu : IsRat w u a) :
    Calls Tryz.prog 58 #[u] w fun e w' => e = .returned (.int .i64 (cmpI a.num 0)) ∧ Below w.heap.size w w' := by
  obtain ⟨s, A, n, c, s', A', n', c', rfl, ha1, ha2⟩ := hu
  have hS := fun W (hW : Below w.heap.size w W) => int_sign _ a.num W (ha1.below hW).is
  generalize cmpI a.num 0 = cc at *
  go_enter Tryz.func58, Tryz.ntmps58
  go_wp2_with fail
  generalize hW : World.alloc _ _ = W
  have hBW : Below w.heap.size w W := by rw [← hW]; exact (Below.refl _ _).alloc (Nat.le_refl _) _
  clear hW
  refine (hS _ hBW).mono ?_
  rintro e w1 ⟨rfl, hb⟩
  go_wp2
  go_ret
  exact ⟨rfl, hBW.trans (hb.mono hBW.size)⟩

set_option maxHeartbeats 1000000 in
theorem rat_whole_aux (z : Int) (w : World) (hO : ∀ W, Calls Tryz.prog 102 #[.int .i64 z] W fun e w' => (∃ v, e = .returned v ∧ IsInt w' v z) ∧ Below W.heap.size W w') :
    Calls Tryz.prog 65 #[.int .i64 z] w fun e w' => (∃ v, e = .returned v ∧ IsRat w' v (z : Rat)) ∧ Below w.heap.size w w' := by
  go_enter Tryz.func65, Tryz.ntmps65
  go_wp2_with fail
  generalize hW : World.alloc _ _ = W
  have hBW : Below w.heap.size w W := by rw [← hW]; exact (Below.refl _ _).alloc (Nat.le_refl _) _
  have hR : RC4 W w.heap.size := by rw [← hW]; exact ⟨by simp [go_sem], by simp [go_sem], by simp [go_sem], by simp [go_sem], by simp [go_sem], by simp⟩
  clear hW
  refine (hO _).mono ?_
  rintro e w1 ⟨⟨v1, rfl, hv1⟩, hb⟩
  have hBW := hBW.trans (hb.mono hBW.size)
  have hR := hR.below hb
  go_wp2_with fail
  refine (rat_of v1 z _ hv1).mono ?_
  rintro e w2 ⟨⟨_, rfl, s3, A3, n3, m3, t3, B3, k3, l3, rfl, hq⟩, hb2⟩
  have hBW := hBW.trans (hb2.mono hBW.size)
  have hR := hR.below hb2
  have hP := rat_put' hBW (by omega) hR hq
  obtain ⟨r0, r1, r2, r3, rf, rl⟩ := hR
  go_wp2
  exact bodyPost_ret (v := .agg #[.bool s3, .slice A3 n3 m3, .bool t3, .slice B3 k3 l3]) (by simp [results, Tryz.results65, go_sem, r0, r1, r2, r3]) rfl ⟨⟨_, rfl, RatP.is hP.1⟩, hP.2⟩
theorem rat_int (z : Int) (w : World) (h0 : -9223372036854775808 ≤ z) (h1 : z < 9223372036854775808) :
    Calls Tryz.prog 65 #[.int .i64 z] w fun e w' => (∃ v, e = .returned v ∧ IsRat w' v (z : Rat)) ∧ Below w.heap.size w w' :=
  rat_whole_aux z w (fun W => int_of z W h0 h1)

/-! Valid numbers: of arbitrary words. -/
theorem ivalid_is {w : World} {s : Bool} {A : Option Addr} {n c : Nat} {xs : List Nat} (hx : Ws w A xs) (hn : n = xs.length) (hc : n ≤ c) (hv : ivalid s xs = true) : IntP w s A n c (sgn s (val xs)) := by
  have hw : words (val xs) = xs := by
    refine words_val hx.digs (fun k hk => ?_)
    unfold ivalid at hv
    rw [if_pos (by omega), hk, Nat.add_sub_cancel] at hv
    exact of_decide_eq_true hv
  have e1 : (sgn s (val xs)).natAbs = val xs := by unfold sgn; split <;> simp
  refine ⟨?_, ?_, ?_, hc⟩
  · unfold sgn
    cases s
    · simp
    · have : xs ≠ [] := by
        intro h; rw [h] at hv; simp [ivalid] at hv
      have : val xs ≠ 0 := by intro h; rw [h, words_zero] at hw; exact this hw.symm
      simp; omega
  · rw [e1, hw]; exact hn
  · rw [e1, hw]; exact hx

def rvalid (s : Bool) (xs : List Nat) (t : Bool) (ys : List Nat) : Bool :=
  ivalid s xs && ivalid t ys && (decide (0 < sgn t (val ys)) && decide (Nat.gcd (val xs) (val ys) = 1))

set_option maxHeartbeats 1000000 in
theorem rat_valid1 (A B : Option Addr) (n c m d : Nat) (s t : Bool) (w : World)
    (hV1 : ∀ W, Below w.heap.size w W → Calls Tryz.prog 98 #[.agg #[.bool s, .slice A n c]] W fun e w' => e = .returned (.bool false) ∧ Below W.heap.size W w') :
    Calls Tryz.prog 57 #[.agg #[.bool s, .slice A n c, .bool t, .slice B m d]] w fun e w' => e = .returned (.bool false) ∧ Below w.heap.size w w' := by
  go_enter Tryz.func57, Tryz.ntmps57
  go_wp2_with fail
  generalize hW : World.alloc _ _ = W
  have hBW : Below w.heap.size w W := by rw [← hW]; exact (Below.refl _ _).alloc (Nat.le_refl _) _
  have k1 : W.cell? ⟨w.heap.size, 0, none⟩ = some (.bool s) := by rw [← hW]; simp [go_sem]
  have k2 : W.cell? ⟨w.heap.size, 1, none⟩ = some (.slice A n c) := by rw [← hW]; simp [go_sem]
  have k3 : W.cell? ⟨w.heap.size, 2, none⟩ = some (.bool t) := by rw [← hW]; simp [go_sem]
  have k4 : W.cell? ⟨w.heap.size, 3, none⟩ = some (.slice B m d) := by rw [← hW]; simp [go_sem]
  clear hW
  refine (hV1 _ hBW).mono ?_
  rintro e w1 ⟨rfl, hb⟩
  have hBW := hBW.trans (hb.mono hBW.size)
  have k1 := cell_below k1 hb
  have k2 := cell_below k2 hb
  have k3 := cell_below k3 hb
  have k4 := cell_below k4 hb
  clear hb
  go_wp2
  go_ret
  exact ⟨rfl, hBW⟩

set_option maxHeartbeats 1000000 in
theorem rat_valid2 (A B : Option Addr) (n c m d : Nat) (s t : Bool) (w : World)
    (hV1 : ∀ W, Below w.heap.size w W → Calls Tryz.prog 98 #[.agg #[.bool s, .slice A n c]] W fun e w' => e = .returned (.bool true) ∧ Below W.heap.size W w')
    (hV2 : ∀ W, Below w.heap.size w W → Calls Tryz.prog 98 #[.agg #[.bool t, .slice B m d]] W fun e w' => e = .returned (.bool false) ∧ Below W.heap.size W w') :
    Calls Tryz.prog 57 #[.agg #[.bool s, .slice A n c, .bool t, .slice B m d]] w fun e w' => e = .returned (.bool false) ∧ Below w.heap.size w w' := by
  go_enter Tryz.func57, Tryz.ntmps57
  go_wp2_with fail
  generalize hW : World.alloc _ _ = W
  have hBW : Below w.heap.size w W := by rw [← hW]; exact (Below.refl _ _).alloc (Nat.le_refl _) _
  have k1 : W.cell? ⟨w.heap.size, 0, none⟩ = some (.bool s) := by rw [← hW]; simp [go_sem]
  have k2 : W.cell? ⟨w.heap.size, 1, none⟩ = some (.slice A n c) := by rw [← hW]; simp [go_sem]
  have k3 : W.cell? ⟨w.heap.size, 2, none⟩ = some (.bool t) := by rw [← hW]; simp [go_sem]
  have k4 : W.cell? ⟨w.heap.size, 3, none⟩ = some (.slice B m d) := by rw [← hW]; simp [go_sem]
  clear hW
  refine (hV1 _ hBW).mono ?_
  rintro e w1 ⟨rfl, hb⟩
  have hBW := hBW.trans (hb.mono hBW.size)
  have k1 := cell_below k1 hb
  have k2 := cell_below k2 hb
  have k3 := cell_below k3 hb
  have k4 := cell_below k4 hb
  clear hb
  go_wp2_with fail
  refine (hV2 _ hBW).mono ?_
  rintro e w1 ⟨rfl, hb⟩
  have hBW := hBW.trans (hb.mono hBW.size)
  have k1 := cell_below k1 hb
  have k2 := cell_below k2 hb
  have k3 := cell_below k3 hb
  have k4 := cell_below k4 hb
  clear hb
  go_wp2
  go_ret
  exact ⟨rfl, hBW⟩

set_option maxHeartbeats 1000000 in
theorem rat_valid3 (A B : Option Addr) (n c m d : Nat) (s t : Bool) (w : World) (cc : Int) (hcc : cc ≤ 0)
    (hV1 : ∀ W, Below w.heap.size w W → Calls Tryz.prog 98 #[.agg #[.bool s, .slice A n c]] W fun e w' => e = .returned (.bool true) ∧ Below W.heap.size W w')
    (hV2 : ∀ W, Below w.heap.size w W → Calls Tryz.prog 98 #[.agg #[.bool t, .slice B m d]] W fun e w' => e = .returned (.bool true) ∧ Below W.heap.size W w')
    (hS2 : ∀ W, Below w.heap.size w W → Calls Tryz.prog 99 #[.agg #[.bool t, .slice B m d]] W fun e w' => e = .returned (.int .i64 cc) ∧ Below W.heap.size W w') :
    Calls Tryz.prog 57 #[.agg #[.bool s, .slice A n c, .bool t, .slice B m d]] w fun e w' => e = .returned (.bool false) ∧ Below w.heap.size w w' := by
  go_enter Tryz.func57, Tryz.ntmps57
  go_wp2_with fail
  generalize hW : World.alloc _ _ = W
  have hBW : Below w.heap.size w W := by rw [← hW]; exact (Below.refl _ _).alloc (Nat.le_refl _) _
  have k1 : W.cell? ⟨w.heap.size, 0, none⟩ = some (.bool s) := by rw [← hW]; simp [go_sem]
  have k2 : W.cell? ⟨w.heap.size, 1, none⟩ = some (.slice A n c) := by rw [← hW]; simp [go_sem]
  have k3 : W.cell? ⟨w.heap.size, 2, none⟩ = some (.bool t) := by rw [← hW]; simp [go_sem]
  have k4 : W.cell? ⟨w.heap.size, 3, none⟩ = some (.slice B m d) := by rw [← hW]; simp [go_sem]
  clear hW
  refine (hV1 _ hBW).mono ?_
  rintro e w1 ⟨rfl, hb⟩
  have hBW := hBW.trans (hb.mono hBW.size)
  have k1 := cell_below k1 hb
  have k2 := cell_below k2 hb
  have k3 := cell_below k3 hb
  have k4 := cell_below k4 hb
  clear hb
  go_wp2_with fail
  refine (hV2 _ hBW).mono ?_
  rintro e w1 ⟨rfl, hb⟩
  have hBW := hBW.trans (hb.mono hBW.size)
  have k1 := cell_below k1 hb
  have k2 := cell_below k2 hb
  have k3 := cell_below k3 hb
  have k4 := cell_below k4 hb
  clear hb
  go_wp2_with fail
  refine (hS2 _ hBW).mono ?_
  rintro e w1 ⟨rfl, hb⟩
  have hBW := hBW.trans (hb.mono hBW.size)
  have k1 := cell_below k1 hb
  have k2 := cell_below k2 hb
  have k3 := cell_below k3 hb
  have k4 := cell_below k4 hb
  clear hb
  go_wp2
  go_ret
  exact ⟨rfl, hBW⟩

set_option maxHeartbeats 1000000 in
theorem rat_valid4 (A B : Option Addr) (n c m d : Nat) (s t : Bool) (w : World) (cc dd G one : Int) (hcc : ¬ cc ≤ 0)
    (hV1 : ∀ W, Below w.heap.size w W → Calls Tryz.prog 98 #[.agg #[.bool s, .slice A n c]] W fun e w' => e = .returned (.bool true) ∧ Below W.heap.size W w')
    (hV2 : ∀ W, Below w.heap.size w W → Calls Tryz.prog 98 #[.agg #[.bool t, .slice B m d]] W fun e w' => e = .returned (.bool true) ∧ Below W.heap.size W w')
    (hS2 : ∀ W, Below w.heap.size w W → Calls Tryz.prog 99 #[.agg #[.bool t, .slice B m d]] W fun e w' => e = .returned (.int .i64 cc) ∧ Below W.heap.size W w')
    (hG : ∀ W, Below w.heap.size w W → Calls Tryz.prog 101 #[.agg #[.bool s, .slice A n c], .agg #[.bool t, .slice B m d]] W fun e w' => (∃ v, e = .returned v ∧ IsInt w' v G) ∧ Below W.heap.size W w')
    (hO : ∀ W, Calls Tryz.prog 102 #[.int .i64 1] W fun e w' => (∃ v, e = .returned v ∧ IsInt w' v one) ∧ Below W.heap.size W w')
    (hC : ∀ W u v, IsInt W u G → IsInt W v one → Calls Tryz.prog 100 #[u, v] W fun e w' => e = .returned (.int .i64 dd) ∧ Below W.heap.size W w') :
    Calls Tryz.prog 57 #[.agg #[.bool s, .slice A n c, .bool t, .slice B m d]] w fun e w' => e = .returned (.bool (decide (dd = 0))) ∧ Below w.heap.size w w' := by
  go_enter Tryz.func57, Tryz.ntmps57
  go_wp2_with fail
  generalize hW : World.alloc _ _ = W
  have hBW : Below w.heap.size w W := by rw [← hW]; exact (Below.refl _ _).alloc (Nat.le_refl _) _
  have k1 : W.cell? ⟨w.heap.size, 0, none⟩ = some (.bool s) := by rw [← hW]; simp [go_sem]
  have k2 : W.cell? ⟨w.heap.size, 1, none⟩ = some (.slice A n c) := by rw [← hW]; simp [go_sem]
  have k3 : W.cell? ⟨w.heap.size, 2, none⟩ = some (.bool t) := by rw [← hW]; simp [go_sem]
  have k4 : W.cell? ⟨w.heap.size, 3, none⟩ = some (.slice B m d) := by rw [← hW]; simp [go_sem]
  clear hW
  refine (hV1 _ hBW).mono ?_
  rintro e w1 ⟨rfl, hb⟩
  have hBW := hBW.trans (hb.mono hBW.size)
  have k1 := cell_below k1 hb
  have k2 := cell_below k2 hb
  have k3 := cell_below k3 hb
  have k4 := cell_below k4 hb
  clear hb
  go_wp2_with fail
  refine (hV2 _ hBW).mono ?_
  rintro e w1 ⟨rfl, hb⟩
  have hBW := hBW.trans (hb.mono hBW.size)
  have k1 := cell_below k1 hb
  have k2 := cell_below k2 hb
  have k3 := cell_below k3 hb
  have k4 := cell_below k4 hb
  clear hb
  go_wp2_with fail
  refine (hS2 _ hBW).mono ?_
  rintro e w1 ⟨rfl, hb⟩
  have hBW := hBW.trans (hb.mono hBW.size)
  have k1 := cell_below k1 hb
  have k2 := cell_below k2 hb
  have k3 := cell_below k3 hb
  have k4 := cell_below k4 hb
  clear hb
  go_wp2_with fail
  refine (hG _ hBW).mono ?_
  rintro e w1 ⟨⟨v1, rfl, q1⟩, hb⟩
  have hBW := hBW.trans (hb.mono hBW.size)
  have k1 := cell_below k1 hb
  have k2 := cell_below k2 hb
  have k3 := cell_below k3 hb
  have k4 := cell_below k4 hb
  clear hb
  go_wp2_with fail
  refine (hO _).mono ?_
  rintro e w1 ⟨⟨v2, rfl, q2⟩, hb⟩
  have hBW := hBW.trans (hb.mono hBW.size)
  have k1 := cell_below k1 hb
  have k2 := cell_below k2 hb
  have k3 := cell_below k3 hb
  have k4 := cell_below k4 hb
  have q1 := q1.below hb
  clear hb
  go_wp2_with fail
  refine (hC _ _ _ q1 q2).mono ?_
  rintro e w1 ⟨rfl, hb⟩
  have hBW := hBW.trans (hb.mono hBW.size)
  have k1 := cell_below k1 hb
  have k2 := cell_below k2 hb
  have k3 := cell_below k3 hb
  have k4 := cell_below k4 hb
  clear hb
  go_wp2
  go_ret
  refine ⟨congrArg (fun b => Ending.returned (.bool b)) ?_, hBW⟩
  rw [Bool.eq_iff_iff]; simp

theorem rat_valid (A B : Option Addr) (n c m d : Nat) (s t : Bool) (xs ys : List Nat) (w : World) (hx : Ws w A xs) (hy : Ws w B ys) (hn : n = xs.length) (hm : m = ys.length) (hc : n ≤ c) (hd : m ≤ d) (hlx : xs.length ≤ 1099511627775) (hly : ys.length ≤ 1099511627775) :
    Calls Tryz.prog 57 #[.agg #[.bool s, .slice A n c, .bool t, .slice B m d]] w fun e w' => e = .returned (.bool (rvalid s xs t ys)) ∧ Below w.heap.size w w' := by
  have hV1 := fun W (hW : Below w.heap.size w W) => int_valid A c n s xs W (hx.below hW) hn
  have hV2 := fun W (hW : Below w.heap.size w W) => int_valid B d m t ys W (hy.below hW) hm
  by_cases h1 : ivalid s xs = true
  · by_cases h2 : ivalid t ys = true
    · rw [h1] at hV1
      rw [h2] at hV2
      have i1 := ivalid_is hx hn hc h1
      have i2 := ivalid_is hy hm hd h2
      have e1 : (sgn s (val xs)).natAbs = val xs := by unfold sgn; split <;> simp
      have e2 : (sgn t (val ys)).natAbs = val ys := by unfold sgn; split <;> simp
      have hS2 := fun W (hW : Below w.heap.size w W) => int_sign _ _ W (i2.below hW).is
      by_cases h3 : 0 < sgn t (val ys)
      · have hz1 : isz (sgn s (val xs)) ≤ 1099511627775 := by unfold isz sz; rw [e1]; exact Nat.le_trans (words_val_length_le hx.digs) hlx
        have hz2 : isz (sgn t (val ys)) ≤ 1099511627775 := by unfold isz sz; rw [e2]; exact Nat.le_trans (words_val_length_le hy.digs) hly
        have h := rat_valid4 A B n c m d s t w _ _ _ 1 (by unfold cmpI; split <;> first | omega | (split <;> omega)) hV1 hV2 hS2 (fun W hW => int_gcd _ _ _ _ W (i1.below hW).is (i2.below hW).is hz1 hz2) (fun W => int_of 1 W (by omega) (by omega)) (fun W u v hu hv => int_cmp u v _ _ W hu hv)
        have e : decide (cmpI ((Nat.gcd (sgn s (val xs)).natAbs (sgn t (val ys)).natAbs : Nat) : Int) 1 = 0) = rvalid s xs t ys := by
          rw [e1, e2]
          unfold rvalid
          rw [h1, h2, decide_eq_true h3, Bool.true_and, Bool.true_and, Bool.true_and, Bool.eq_iff_iff]
          simp only [decide_eq_true_eq]
          unfold cmpI
          constructor <;> intro h
          · split at h <;> (try split at h) <;> omega
          · split <;> (try split) <;> omega
        rw [e] at h
        exact h
      · have e : rvalid s xs t ys = false := by unfold rvalid; rw [decide_eq_false h3]; simp
        rw [e]
        exact rat_valid3 A B n c m d s t w _ (by unfold cmpI; split <;> first | omega | (split <;> omega)) hV1 hV2 hS2
    · have h2 : ivalid t ys = false := by simpa using h2
      rw [h1] at hV1
      rw [h2] at hV2
      have e : rvalid s xs t ys = false := by unfold rvalid; rw [h2]; simp
      rw [e]
      exact rat_valid2 A B n c m d s t w hV1 hV2
  · have h1 : ivalid s xs = false := by simpa using h1
    rw [h1] at hV1
    have e : rvalid s xs t ys = false := by unfold rvalid; rw [h1]; simp
    rw [e]
    exact rat_valid1 A B n c m d s t w hV1

/-- A valid number of arbitrary words is a rational number. -/
theorem rvalid_is {w : World} {A B : Option Addr} {n c m d : Nat} {s t : Bool} {xs ys : List Nat} (hx : Ws w A xs) (hy : Ws w B ys) (hn : n = xs.length) (hm : m = ys.length) (hc : n ≤ c) (hd : m ≤ d) (hv : rvalid s xs t ys = true) :
    ∃ q : Rat, RatP w s A n c t B m d q := by
  unfold rvalid at hv
  simp only [Bool.and_eq_true, decide_eq_true_eq] at hv
  obtain ⟨⟨h1, h2⟩, h3, h4⟩ := hv
  have i1 := ivalid_is hx hn hc h1
  have i2 := ivalid_is hy hm hd h2
  have e1 : (sgn s (val xs)).natAbs = val xs := by unfold sgn; split <;> simp
  have e2 : (sgn t (val ys)).natAbs = val ys := by unfold sgn; split <;> simp
  refine ⟨⟨sgn s (val xs), val ys, ?_, ?_⟩, i1, ?_⟩
  · intro h; rw [h] at h3; unfold sgn at h3; split at h3 <;> omega
  · rw [e1]; exact h4
  · have : sgn t (val ys) = ((val ys : Nat) : Int) := by unfold sgn at h3 ⊢; split <;> simp_all <;> omega
    rw [this] at i2; exact i2

end Go.Proofs.YtlklgeidffjidaaGreat

/- Walks: division and negation of rational numbers (package rational), and the contracts in plain words. -/
namespace Go.Proofs.YtlklgeidffjidaaGreat
open Go.RowKit
set_option linter.unusedSimpArgs false

set_option maxRecDepth 100000 in
set_option maxHeartbeats 4000000 in
theorem rat_div_aux (u v : Value) (a b q : Rat) (w : World) (hu : IsRat w u a) (hv : IsRat w v b)
    (hN : ∀ W u v, IsInt W u (a.num * (b.den : Int)) → IsInt W v ((a.den : Int) * b.num) → Calls Tryz.prog 110 #[u, v] W fun e w' => (∃ v, e = .returned (.tuple #[v, .int .i64 0]) ∧ IsRat w' v q) ∧ Below W.heap.size W w')
    (hP1 : isz a.num + isz (b.den : Int) + 1 ≤ 549755813888) (hP2 : isz (a.den : Int) + isz b.num + 1 ≤ 549755813888) :
    Calls Tryz.prog 69 #[u, v] w fun e w' => (∃ v, e = .returned (.tuple #[v, .int .i64 0]) ∧ IsRat w' v q) ∧ Below w.heap.size w w' := by
  obtain ⟨s, A, n, c, s', A', n', c', rfl, ha1, ha2⟩ := hu
  obtain ⟨t, B, m, d, t', B', m', d', rfl, hb1, hb2⟩ := hv
  go_enter Tryz.func69, Tryz.ntmps69
  go_wp2_with fail
  generalize hW : World.alloc _ _ = W
  have hBW : Below w.heap.size w W := by rw [← hW]; exact (((Below.refl _ _).alloc (Nat.le_refl _) _).alloc (by simp) _).alloc (by simp; omega) _
  have a0 : W.cell? ⟨w.heap.size, 0, none⟩ = some (.bool s) := by rw [← hW]; simp [go_sem]
  have a1 : W.cell? ⟨w.heap.size, 1, none⟩ = some (.slice A n c) := by rw [← hW]; simp [go_sem]
  have a2 : W.cell? ⟨w.heap.size, 2, none⟩ = some (.bool s') := by rw [← hW]; simp [go_sem]
  have a3 : W.cell? ⟨w.heap.size, 3, none⟩ = some (.slice A' n' c') := by rw [← hW]; simp [go_sem]
  have b0 : W.cell? ⟨w.heap.size + 1, 0, none⟩ = some (.bool t) := by rw [← hW]; simp [go_sem]
  have b1 : W.cell? ⟨w.heap.size + 1, 1, none⟩ = some (.slice B m d) := by rw [← hW]; simp [go_sem]
  have b2 : W.cell? ⟨w.heap.size + 1, 2, none⟩ = some (.bool t') := by rw [← hW]; simp [go_sem]
  have b3 : W.cell? ⟨w.heap.size + 1, 3, none⟩ = some (.slice B' m' d') := by rw [← hW]; simp [go_sem]
  have hR : RC4 W (w.heap.size + 1 + 1) := by rw [← hW]; exact ⟨by simp [go_sem], by simp [go_sem], by simp [go_sem], by simp [go_sem], by simp [go_sem], by simp⟩
  have hz : w.heap.size + 2 ≤ W.heap.size := by rw [← hW]; simp
  have hge : w.heap.size + 2 ≤ w.heap.size + 1 + 1 := Nat.le_refl _
  have lt0 : w.heap.size < w.heap.size + 2 := by omega
  have lt1 : w.heap.size + 1 < w.heap.size + 2 := by omega
  clear hW
  go_region_held3 (fun w' => Below (w.heap.size + 2) W w' ∧ w'.cell? ⟨w.heap.size, 0, none⟩ = some (.bool s) ∧ w'.cell? ⟨w.heap.size, 1, none⟩ = some (.slice A n c) ∧ w'.cell? ⟨w.heap.size, 2, none⟩ = some (.bool s') ∧ w'.cell? ⟨w.heap.size, 3, none⟩ = some (.slice A' n' c') ∧ w'.cell? ⟨w.heap.size + 1, 0, none⟩ = some (.bool t) ∧ w'.cell? ⟨w.heap.size + 1, 1, none⟩ = some (.slice B m d) ∧ w'.cell? ⟨w.heap.size + 1, 2, none⟩ = some (.bool t') ∧ w'.cell? ⟨w.heap.size + 1, 3, none⟩ = some (.slice B' m' d'))
    (((try dsimp only); first | with_reducible exact keepD8 hz (by assumption) | with_reducible exact keepA8 hz (by assumption) | with_reducible exact keepC8 hz (by assumption) (by assumption) | with_reducible exact keepT8 (below_set4 hge _ _ _ _ _ _ _ _) lt0 lt0 lt0 lt0 lt1 lt1 lt1 lt1 (by assumption) | exact ⟨below_drew' _, a0, a1, a2, a3, b0, b1, b2, b3⟩))
    (first
      | (go_at_call 106
         refine (product_two _ (a.num) ((b.den : Int)) _ (by (repeat' (first | assumption | (simp [go_sem]; done) | with_reducible apply cell_alloc | with_reducible apply cell_drew)); first | done | fail) (by (repeat' (first | assumption | (simp [go_sem]; done) | with_reducible apply cell_alloc | with_reducible apply cell_drew)); first | done | fail) (by (repeat' (first | assumption | (simp [go_sem]; done) | with_reducible apply cell_alloc | with_reducible apply cell_drew)); first | done | fail) (by (repeat' (first | assumption | (simp [go_sem]; done) | with_reducible apply cell_alloc | with_reducible apply cell_drew)); first | done | fail) (ha1.below (hBW.trans (Below.mono (And.left (by assumption)) (Nat.le_of_lt lt0)))) (hb2.below (hBW.trans (Below.mono (And.left (by assumption)) (Nat.le_of_lt lt0)))) hP1).mono ?_
         rintro e w1 ⟨⟨v1, rfl, p1⟩, h1⟩
         have hR1 : RC4 w1 (w.heap.size + 1 + 1) := RC4.below (by (repeat' (first | assumption | with_reducible apply RC4.alloc | with_reducible apply RC4.drewn)); first | done | fail) h1
         have c1 := fun g o v hh => cell_below (g := g) (o := o) (v := v) hh h1)
      | (go_at_call 106
         refine (product_two _ ((a.den : Int)) (b.num) _ (by (repeat' (first | assumption | (simp [go_sem]; done) | with_reducible apply cell_alloc | with_reducible apply cell_drew | apply c1)); first | done | fail) (by (repeat' (first | assumption | (simp [go_sem]; done) | with_reducible apply cell_alloc | with_reducible apply cell_drew | apply c1)); first | done | fail) (by (repeat' (first | assumption | (simp [go_sem]; done) | with_reducible apply cell_alloc | with_reducible apply cell_drew | apply c1)); first | done | fail) (by (repeat' (first | assumption | (simp [go_sem]; done) | with_reducible apply cell_alloc | with_reducible apply cell_drew | apply c1)); first | done | fail) (ha2.below (hBW.trans (Below.mono (And.left (by assumption)) (Nat.le_of_lt lt0)))) (hb1.below (hBW.trans (Below.mono (And.left (by assumption)) (Nat.le_of_lt lt0)))) hP2).mono ?_
         rintro e w2 ⟨⟨v2, rfl, p2⟩, h2⟩
         have hR2 : RC4 w2 (w.heap.size + 1 + 1) := RC4.below (by (repeat' (first | assumption | with_reducible apply RC4.alloc | with_reducible apply RC4.drewn)); first | done | fail) h2
         have q2v1 : IsInt w2 v1 ((a.num) * ((b.den : Int))) := IsInt.below (by (repeat' (first | assumption | with_reducible apply IsInt.alloc | with_reducible apply IsInt.drewn)); first | done | fail) h2
         have c2 := fun g o v hh => cell_below (g := g) (o := o) (v := v) hh h2)
      | (go_at_call 110
         refine (hN _ _ _ (by (repeat' (first | assumption | with_reducible apply IsInt.alloc | with_reducible apply IsInt.drewn)); first | done | fail) (by (repeat' (first | assumption | with_reducible apply IsInt.alloc | with_reducible apply IsInt.drewn)); first | done | fail)).mono ?_
         rintro e w3 ⟨⟨_, rfl, s3, A3, n3, m3, t3, B3, k3, l3, rfl, hq⟩, h3⟩
         have hX : Below w.heap.size w _ := (hBW.trans (Below.mono (And.left (by assumption)) (Nat.le_of_lt lt0)))
         have hE := hX.trans (h3.mono hX.size)
         have hR3 : RC4 w3 (w.heap.size + 1 + 1) := RC4.below (by (repeat' (first | assumption | with_reducible apply RC4.alloc | with_reducible apply RC4.drewn)); first | done | fail) h3
         obtain ⟨d0, d1, d2, d3, df, dl⟩ := hR3))
  all_goals
    have hP := rat_put' hE (by omega) ⟨d0, d1, d2, d3, df, dl⟩ hq
    go_wp2
    exact bodyPost_ret (v := .tuple #[.agg #[.bool s3, .slice A3 n3 m3, .bool t3, .slice B3 k3 l3], .int .i64 0]) (by simp [results, Tryz.results69, go_sem, d0, d1, d2, d3]) rfl ⟨⟨_, rfl, RatP.is hP.1⟩, hP.2⟩

set_option maxRecDepth 100000 in
set_option maxHeartbeats 4000000 in
theorem rat_neg_aux (u : Value) (a : Rat) (x y : Int) (w : World) (hu : IsRat w u a) (hx : isz a.num ≤ 1099511627776) (hP : isz (a.den : Int) + 1 ≤ 549755813888) (hxx : -a.num = x) (hyy : (a.den : Int) = y) :
    Calls Tryz.prog 90 #[u] w fun e w' => (∃ v, e = .returned v ∧ IsPair w' v x y) ∧ Below w.heap.size w w' := by
  obtain ⟨s, A, n, c, s', A', n', c', rfl, ha1, ha2⟩ := hu
  rw [hyy] at ha2 hP
  have hN := fun W (hW : Below w.heap.size w W) => int_neg _ a.num W (ha1.below hW).is hx
  rw [hxx] at hN
  go_enter Tryz.func90, Tryz.ntmps90
  go_wp2_with fail
  generalize hW : World.alloc _ _ = W
  have hBW : Below w.heap.size w W := by rw [← hW]; exact ((Below.refl _ _).alloc (Nat.le_refl _) _).alloc (by simp) _
  have a0 : W.cell? ⟨w.heap.size, 0, none⟩ = some (.bool s) := by rw [← hW]; simp [go_sem]
  have a1 : W.cell? ⟨w.heap.size, 1, none⟩ = some (.slice A n c) := by rw [← hW]; simp [go_sem]
  have a2 : W.cell? ⟨w.heap.size, 2, none⟩ = some (.bool s') := by rw [← hW]; simp [go_sem]
  have a3 : W.cell? ⟨w.heap.size, 3, none⟩ = some (.slice A' n' c') := by rw [← hW]; simp [go_sem]
  have hR : RC4 W (w.heap.size + 1) := by rw [← hW]; exact ⟨by simp [go_sem], by simp [go_sem], by simp [go_sem], by simp [go_sem], by simp [go_sem], by simp⟩
  have hz : w.heap.size + 1 ≤ W.heap.size := by rw [← hW]; simp
  have hge : w.heap.size + 1 ≤ w.heap.size + 1 := Nat.le_refl _
  have lt0 : w.heap.size < w.heap.size + 1 := by omega
  clear hW
  go_region_held3 (fun w' => Below (w.heap.size + 1) W w' ∧ w'.cell? ⟨w.heap.size, 0, none⟩ = some (.bool s) ∧ w'.cell? ⟨w.heap.size, 1, none⟩ = some (.slice A n c) ∧ w'.cell? ⟨w.heap.size, 2, none⟩ = some (.bool s') ∧ w'.cell? ⟨w.heap.size, 3, none⟩ = some (.slice A' n' c'))
    (((try dsimp only); first | with_reducible exact keepD4 hz (by assumption) | with_reducible exact keepA4 hz (by assumption) | with_reducible exact keepC4 hz (by assumption) (by assumption) | with_reducible exact keepT4 (below_set4 hge _ _ _ _ _ _ _ _) lt0 lt0 lt0 lt0 (by assumption) | exact ⟨below_drew' _, a0, a1, a2, a3⟩))
    (first
      | (go_at_call 120
         refine (hN _ (hBW.trans (Below.mono (And.left (by assumption)) (Nat.le_of_lt lt0)))).mono ?_
         rintro e w1 ⟨⟨v1, rfl, p1⟩, h1⟩
         obtain ⟨s2, A2, n2, c2, rfl, hI⟩ := id p1
         have hR1 : RC4 w1 (w.heap.size + 1) := RC4.below (by (repeat' (first | assumption | with_reducible apply RC4.alloc | with_reducible apply RC4.drewn)); first | done | fail) h1
         have c1 := fun g o v hh => cell_below (g := g) (o := o) (v := v) hh h1)
      | (go_at_call 106
         refine (product_one _ y _ (by (repeat' (first | assumption | (simp [go_sem]; done) | with_reducible apply cell_alloc | with_reducible apply cell_drew | apply c1)); first | done | fail) (by (repeat' (first | assumption | (simp [go_sem]; done) | with_reducible apply cell_alloc | with_reducible apply cell_drew | apply c1)); first | done | fail) (ha2.below (hBW.trans (Below.mono (And.left (by assumption)) (Nat.le_of_lt lt0)))) hP).mono ?_
         rintro e w2 ⟨⟨v2, rfl, p2⟩, h2⟩
         obtain ⟨s4, A4, n4, c4, rfl, hI4⟩ := id p2
         have hX : Below w.heap.size w _ := (hBW.trans (Below.mono (And.left (by assumption)) (Nat.le_of_lt lt0)))
         have hE := hX.trans (h2.mono hX.size)
         have q1 : IsInt w2 (.agg #[.bool s2, .slice A2 n2 c2]) x := IsInt.below (by (repeat' (first | assumption | with_reducible apply IsInt.alloc | with_reducible apply IsInt.drewn)); first | done | fail) h2
         have hR2 : RC4 w2 (w.heap.size + 1) := RC4.below (by (repeat' (first | assumption | with_reducible apply RC4.alloc | with_reducible apply RC4.drewn)); first | done | fail) h2
         obtain ⟨d0, d1, d2, d3, df, dl⟩ := hR2))
  all_goals
    obtain ⟨sx, Ax, nx, cx, ex, hIx⟩ := q1
    injection ex with ex
    simp only [Array.mk.injEq, List.cons.injEq, Value.bool.injEq, Value.slice.injEq, and_true] at ex
    obtain ⟨rfl, rfl, rfl, rfl⟩ := ex
    have hP := rat_put hE (by omega) ⟨d0, d1, d2, d3, df, dl⟩ hIx hI4
    go_wp2
    exact bodyPost_ret (v := .agg #[.bool s2, .slice A2 n2 c2, .bool s4, .slice A4 n4 c4]) (by simp [results, Tryz.results90, go_sem, d0, d1, d2, d3]) rfl ⟨⟨_, rfl, _, _, _, _, _, _, _, _, rfl, hP.1⟩, hP.2⟩

end Go.Proofs.YtlklgeidffjidaaGreat

/- The contracts of rational arithmetic (package rational) in plain words. -/
namespace Go.Proofs.YtlklgeidffjidaaGreat
open Go.RowKit

theorem rat_Mul (u v : Value) (a b : Rat) (w : World) (hu : IsRat w u a) (hv : IsRat w v b) (hsa : rsz a ≤ 68719476736) (hsb : rsz b ≤ 68719476736) :
    Calls Tryz.prog 64 #[u, v] w fun e w' => (∃ v, e = .returned v ∧ IsRat w' v (a * b)) ∧ Below w.heap.size w w' := by
  have h1 := rsz_num a; have h2 := rsz_num b; have h3 := rsz_den a; have h4 := rsz_den b
  have h5 := isz_mul a.num b.num
  have h6 := isz_mul a.den b.den
  have h7 : isz (a.den : Int) = sz a.den := isz_nat _
  have h8 : isz (b.den : Int) = sz b.den := isz_nat _
  refine rat_mul_aux u v a b (a * b) w hu hv (fun W u v hu hv => ?_) (by omega) (by omega)
  have := rat_lowest u v _ _ W hu hv (by omega) (by omega) (Int.mul_ne_zero (den_ne a) (den_ne b))
  rw [← rat_mul] at this
  exact this
theorem rat_Add (u v : Value) (a b : Rat) (w : World) (hu : IsRat w u a) (hv : IsRat w v b) (hsa : rsz a ≤ 68719476736) (hsb : rsz b ≤ 68719476736) :
    Calls Tryz.prog 62 #[u, v] w fun e w' => (∃ v, e = .returned v ∧ IsRat w' v (a + b)) ∧ Below w.heap.size w w' := by
  have h1 := rsz_num a; have h2 := rsz_num b; have h3 := rsz_den a; have h4 := rsz_den b
  have h5 := isz_mul a.num b.den
  have h5' := isz_mul b.num a.den
  have h6 := isz_mul a.den b.den
  have h7 : isz (a.den : Int) = sz a.den := isz_nat _
  have h8 : isz (b.den : Int) = sz b.den := isz_nat _
  have h9 := isz_add (a.num * b.den) (b.num * a.den)
  refine rat_add_aux u v a b (a + b) w hu hv (fun W u v hu hv => ?_) (fun W u v hu hv => int_add u v _ _ W hu hv (by omega) (by omega)) (by omega) (by omega) (by omega)
  have := rat_lowest u v _ _ W hu hv (by omega) (by omega) (Int.mul_ne_zero (den_ne a) (den_ne b))
  rw [← rat_add] at this
  exact this
theorem rat_Sub (u v : Value) (a b : Rat) (w : World) (hu : IsRat w u a) (hv : IsRat w v b) (hsa : rsz a ≤ 68719476736) (hsb : rsz b ≤ 68719476736) :
    Calls Tryz.prog 70 #[u, v] w fun e w' => (∃ v, e = .returned v ∧ IsRat w' v (a - b)) ∧ Below w.heap.size w w' := by
  have h1 := rsz_num a; have h2 := rsz_num b; have h3 := rsz_den a; have h4 := rsz_den b
  have h5 := isz_mul a.num b.den
  have h5' := isz_mul b.num a.den
  have h6 := isz_mul a.den b.den
  have h7 : isz (a.den : Int) = sz a.den := isz_nat _
  have h8 : isz (b.den : Int) = sz b.den := isz_nat _
  have h9 := isz_sub (a.num * b.den) (b.num * a.den)
  refine rat_sub_aux u v a b (a - b) w hu hv (fun W u v hu hv => ?_) (fun W u v hu hv => int_sub u v _ _ W hu hv (by omega) (by omega)) (by omega) (by omega) (by omega)
  have := rat_lowest u v _ _ W hu hv (by omega) (by omega) (Int.mul_ne_zero (den_ne a) (den_ne b))
  rw [← rat_sub] at this
  exact this
theorem num_ne {a : Rat} (h : a ≠ 0) : a.num ≠ 0 := fun e => h (Rat.num_eq_zero.1 e)
theorem rat_Div (u v : Value) (a b : Rat) (w : World) (hu : IsRat w u a) (hv : IsRat w v b) (hsa : rsz a ≤ 68719476736) (hsb : rsz b ≤ 68719476736) (hb : b ≠ 0) :
    Calls Tryz.prog 69 #[u, v] w fun e w' => (∃ v, e = .returned (.tuple #[v, .int .i64 0]) ∧ IsRat w' v (a / b)) ∧ Below w.heap.size w w' := by
  have h1 := rsz_num a; have h2 := rsz_num b; have h3 := rsz_den a; have h4 := rsz_den b
  have h5 := isz_mul a.num b.den
  have h6 := isz_mul a.den b.num
  have h7 : isz (a.den : Int) = sz a.den := isz_nat _
  have h8 : isz (b.den : Int) = sz b.den := isz_nat _
  refine rat_div_aux u v a b (a / b) w hu hv (fun W u v hu hv => ?_) (by omega) (by omega)
  have := rat_new u v _ _ W hu hv (by omega) (by omega) (Int.mul_ne_zero (den_ne a) (num_ne hb))
  rw [← rat_div] at this
  exact this
theorem rat_Inv (u : Value) (a : Rat) (w : World) (hu : IsRat w u a) (hsa : rsz a ≤ 68719476736) (ha : a ≠ 0) :
    Calls Tryz.prog 112 #[u] w fun e w' => (∃ v, e = .returned (.tuple #[v, .int .i64 0]) ∧ IsRat w' v a⁻¹) ∧ Below w.heap.size w w' := by
  have h1 := rsz_num a; have h3 := rsz_den a
  have h7 : isz (a.den : Int) = sz a.den := isz_nat _
  refine rat_inv_aux u a a⁻¹ w hu (fun W u v hu hv => ?_)
  have := rat_new u v _ _ W hu hv (by omega) (by omega) (num_ne ha)
  rw [← rat_inv] at this
  exact this
theorem rat_Neg (u : Value) (a : Rat) (w : World) (hu : IsRat w u a) (hsa : rsz a ≤ 68719476736) :
    Calls Tryz.prog 90 #[u] w fun e w' => (∃ v, e = .returned v ∧ IsRat w' v (-a)) ∧ Below w.heap.size w w' := by
  have h1 := rsz_num a; have h3 := rsz_den a
  have h7 : isz (a.den : Int) = sz a.den := isz_nat _
  refine (rat_neg_aux u a (-a.num) (a.den : Int) w hu (by omega) (by omega) rfl rfl).mono ?_
  rintro e w1 ⟨⟨v, rfl, s, A, n, c, t, B, m, d, rfl, k1, k2⟩, hb⟩
  refine ⟨⟨_, rfl, RatP.is ⟨?_, ?_⟩⟩, hb⟩
  · rw [Rat.neg_num]; exact k1
  · rw [Rat.neg_den]; exact k2

end Go.Proofs.YtlklgeidffjidaaGreat

/- How polynomials lie in memory, and the walks of lead, zero and norm (package univariate). -/
namespace Go.Proofs.YtlklgeidffjidaaGreat
open Go.RowKit
set_option linter.unusedSimpArgs false

theorem below_alloc (w : World) (X : Obj) : Below w.heap.size w (w.alloc X) := (Below.refl _ _).alloc (Nat.le_refl _) _
theorem addr_ne {g g' o o' : Nat} (h : g ≠ g' ∨ o ≠ o') : (⟨g, o, none⟩ : Addr) ≠ ⟨g', o', none⟩ := by
  intro e; injection e with e1 e2; omega
/-- A number is stored: four cells. -/
def st4 (w : World) (g o : Nat) (s : Bool) (A : Option Addr) (n c : Nat) (t : Bool) (B : Option Addr) (m d : Nat) : World :=
  (((w.setCell ⟨g, o, none⟩ (.bool s)).setCell ⟨g, o + 1, none⟩ (.slice A n c)).setCell ⟨g, o + 2, none⟩ (.bool t)).setCell ⟨g, o + 3, none⟩ (.slice B m d)
/-- A number in four cells. -/
def RatAt (w : World) (g o : Nat) (q : Rat) : Prop := ∃ s A n c t B m d, w.cell? ⟨g, o, none⟩ = some (.bool s) ∧ w.cell? ⟨g, o + 1, none⟩ = some (.slice A n c) ∧ w.cell? ⟨g, o + 2, none⟩ = some (.bool t) ∧ w.cell? ⟨g, o + 3, none⟩ = some (.slice B m d) ∧ RatP w s A n c t B m d q
theorem RatAt.lt {w : World} {g o : Nat} {q : Rat} (h : RatAt w g o q) : g < w.heap.size := by
  obtain ⟨s, A, n, c, t, B, m, d, h1, _⟩ := h; exact World.block_lt_of_cell? _ _ h1
theorem RatAt.below {w w' : World} {g o : Nat} {q : Rat} (h : RatAt w g o q) (hb : Below w.heap.size w w') : RatAt w' g o q := by
  obtain ⟨s, A, n, c, t, B, m, d, h1, h2, h3, h4, h5⟩ := h
  exact ⟨s, A, n, c, t, B, m, d, cell_below h1 hb, cell_below h2 hb, cell_below h3 hb, cell_below h4 hb, h5.below hb⟩
/-- Four cells that hold no words. -/
def Four (w : World) (g o : Nat) : Prop := ∃ u0 u1 u2 u3, w.cell? ⟨g, o, none⟩ = some u0 ∧ w.cell? ⟨g, o + 1, none⟩ = some u1 ∧ w.cell? ⟨g, o + 2, none⟩ = some u2 ∧ w.cell? ⟨g, o + 3, none⟩ = some u3 ∧ (∀ k z, u0 ≠ .int k z) ∧ (∀ k z, u1 ≠ .int k z) ∧ (∀ k z, u2 ≠ .int k z) ∧ (∀ k z, u3 ≠ .int k z)
theorem RatAt.four {w : World} {g o : Nat} {q : Rat} (h : RatAt w g o q) : Four w g o := by
  obtain ⟨s, A, n, c, t, B, m, d, h1, h2, h3, h4, h5⟩ := h
  exact ⟨_, _, _, _, h1, h2, h3, h4, by simp, by simp, by simp, by simp⟩
theorem RC4.four {w : World} {g : Nat} (h : RC4 w g) : Four w g 0 := ⟨_, _, _, _, h.1, h.2.1, h.2.2.1, h.2.2.2.1, by simp, by simp, by simp, by simp⟩
theorem IntP.st4 {w : World} {g o : Nat} {s A n c t B m d} {s' A' n' c' z} (h : IntP w s' A' n' c' z) (hf : Four w g o) : IntP (st4 w g o s A n c t B m d) s' A' n' c' z := by
  obtain ⟨u0, u1, u2, u3, h0, h1, h2, h3, k0, k1, k2, k3⟩ := hf
  have e1 : (w.setCell ⟨g, o, none⟩ (.bool s)).cell? ⟨g, o + 1, none⟩ = some u1 := by
    rw [World.cell?_setCell_other _ _ _ _ (addr_ne (by omega))]; exact h1
  have e2 : ((w.setCell ⟨g, o, none⟩ (.bool s)).setCell ⟨g, o + 1, none⟩ (.slice A n c)).cell? ⟨g, o + 2, none⟩ = some u2 := by
    rw [World.cell?_setCell_other _ _ _ _ (addr_ne (by omega)), World.cell?_setCell_other _ _ _ _ (addr_ne (by omega))]; exact h2
  have e3 : (((w.setCell ⟨g, o, none⟩ (.bool s)).setCell ⟨g, o + 1, none⟩ (.slice A n c)).setCell ⟨g, o + 2, none⟩ (.bool t)).cell? ⟨g, o + 3, none⟩ = some u3 := by
    rw [World.cell?_setCell_other _ _ _ _ (addr_ne (by omega)), World.cell?_setCell_other _ _ _ _ (addr_ne (by omega)), World.cell?_setCell_other _ _ _ _ (addr_ne (by omega))]; exact h3
  exact (((h.setCell _ h0 k0).setCell _ e1 k1).setCell _ e2 k2).setCell _ e3 k3
theorem RatP.st4 {w : World} {g o : Nat} {s A n c t B m d} {s' A' n' c' t' B' m' d' q} (h : RatP w s' A' n' c' t' B' m' d' q) (hf : Four w g o) : RatP (st4 w g o s A n c t B m d) s' A' n' c' t' B' m' d' q := ⟨h.1.st4 hf, h.2.st4 hf⟩
theorem st4_other {w : World} {g o g' o' : Nat} {s A n c t B m d} (hne : g' ≠ g ∨ o' < o ∨ o + 4 ≤ o') : (st4 w g o s A n c t B m d).cell? ⟨g', o', none⟩ = w.cell? ⟨g', o', none⟩ := by
  unfold Proofs.YtlklgeidffjidaaGreat.st4
  rw [World.cell?_setCell_other _ _ _ _ (addr_ne (by omega)), World.cell?_setCell_other _ _ _ _ (addr_ne (by omega)), World.cell?_setCell_other _ _ _ _ (addr_ne (by omega)), World.cell?_setCell_other _ _ _ _ (addr_ne (by omega))]
theorem st4_frozen {w : World} {g o g' o' : Nat} {s A n c t B m d} : (st4 w g o s A n c t B m d).frozen? ⟨g', o', none⟩ = w.frozen? ⟨g', o', none⟩ := by
  unfold Proofs.YtlklgeidffjidaaGreat.st4; simp [go_sem]
theorem st4_size {w : World} {g o : Nat} {s A n c t B m d} : (st4 w g o s A n c t B m d).heap.size = w.heap.size := by
  unfold Proofs.YtlklgeidffjidaaGreat.st4; simp [World.setCell]
theorem below_st4 {w : World} {B0 g : Nat} (hB : B0 ≤ g) (o : Nat) {s A n c t B m d} : Below B0 w (st4 w g o s A n c t B m d) := below_set4 hB _ _ _ _ _ _ _ _
theorem RatAt.other {w : World} {g o g' o' : Nat} {q : Rat} {s A n c t B m d} (h : RatAt w g' o' q) (hf : Four w g o) (hne : g' ≠ g ∨ o' + 4 ≤ o ∨ o + 4 ≤ o') : RatAt (st4 w g o s A n c t B m d) g' o' q := by
  obtain ⟨s', A', n', c', t', B', m', d', h1, h2, h3, h4, h5⟩ := h
  exact ⟨s', A', n', c', t', B', m', d', (st4_other (by omega)).trans h1, (st4_other (by omega)).trans h2, (st4_other (by omega)).trans h3, (st4_other (by omega)).trans h4, h5.st4 hf⟩
theorem RatAt.put {w : World} {g o : Nat} {q : Rat} {s A n c t B m d} (hf : Four w g o) (h : RatP w s A n c t B m d q) : RatAt (st4 w g o s A n c t B m d) g o q := by
  have hk := h.st4 (s := s) (A := A) (n := n) (c := c) (t := t) (B := B) (m := m) (d := d) hf
  obtain ⟨u0, u1, u2, u3, h0, h1, h2, h3, k0, k1, k2, k3⟩ := hf
  refine ⟨s, A, n, c, t, B, m, d, ?_, ?_, ?_, ?_, hk⟩
  all_goals unfold Proofs.YtlklgeidffjidaaGreat.st4
  · rw [World.cell?_setCell_other _ _ _ _ (addr_ne (by omega)), World.cell?_setCell_other _ _ _ _ (addr_ne (by omega)), World.cell?_setCell_other _ _ _ _ (addr_ne (by omega))]; simp [go_sem, h0]
  · rw [World.cell?_setCell_other _ _ _ _ (addr_ne (by omega)), World.cell?_setCell_other _ _ _ _ (addr_ne (by omega))]; simp [go_sem, h1]
  · rw [World.cell?_setCell_other _ _ _ _ (addr_ne (by omega))]; simp [go_sem, h2]
  · simp [go_sem, h3]

/-- The coefficients of a polynomial that is read. -/
def PolyAt (w : World) (A : Option Addr) (p : List Rat) : Prop := ∀ j, j < p.length → ∃ b off, A = some ⟨b, off, none⟩ ∧ RatAt w b (off + j * 4) (p.getD j 0)
theorem PolyAt.below {w w' : World} {A : Option Addr} {p : List Rat} (h : PolyAt w A p) (hb : Below w.heap.size w w') : PolyAt w' A p := by
  intro j hj; obtain ⟨b, off, e, h⟩ := h j hj; exact ⟨b, off, e, h.below hb⟩
theorem PolyAt.nil (w : World) (A : Option Addr) : PolyAt w A [] := fun j hj => by simp at hj
theorem PolyAt.take {w : World} {A : Option Addr} {p : List Rat} (h : PolyAt w A p) (k : Nat) : PolyAt w A (p.take k) := by
  intro j hj
  rw [List.length_take] at hj
  obtain ⟨b, off, e, h⟩ := h j (by omega)
  refine ⟨b, off, e, ?_⟩
  have : (p.take k).getD j 0 = p.getD j 0 := by
    rw [List.getD_eq_getElem?_getD, List.getD_eq_getElem?_getD, List.getElem?_take_of_lt (by omega)]
  rw [this]; exact h
theorem PolyAt.off {w : World} {A : Option Addr} {p : List Rat} {g o : Nat} {s A' n c t B m d} (h : PolyAt w A p) (hf : Four w g o) (hne : ∀ a, A = some a → a.block ≠ g) : PolyAt (st4 w g o s A' n c t B m d) A p := by
  intro j hj; obtain ⟨b, off, e, h⟩ := h j hj; exact ⟨b, off, e, h.other hf (Or.inl (hne _ e))⟩
/-- A polynomial. -/
def IsPoly (w : World) (v : Value) (p : List Rat) : Prop := ∃ A c, v = .slice A p.length c ∧ PolyAt w A p ∧ p.length ≤ c
theorem IsPoly.below {w w' : World} {v : Value} {p : List Rat} (h : IsPoly w v p) (hb : Below w.heap.size w w') : IsPoly w' v p := by
  obtain ⟨A, c, e, h, hc⟩ := h; exact ⟨A, c, e, h.below hb, hc⟩
theorem IsPoly.nil (w : World) (A : Option Addr) (c : Nat) : IsPoly w (.slice A 0 c) [] := ⟨A, c, rfl, PolyAt.nil w A, Nat.zero_le _⟩
/-- The coefficients of a polynomial that is written. -/
def PB (w : World) (g : Nat) (p : List Rat) : Prop := (∀ j, j < p.length → RatAt w g (j * 4) (p.getD j 0)) ∧ (∀ o, w.frozen? ⟨g, o, none⟩ = false) ∧ g < w.heap.size
theorem PB.below {w w' : World} {g : Nat} {p : List Rat} (h : PB w g p) (hb : Below w.heap.size w w') : PB w' g p :=
  ⟨fun j hj => (h.1 j hj).below hb, fun o => ((kept_cells hb).2 _ _ h.2.2).trans (h.2.1 o), Nat.lt_of_lt_of_le h.2.2 hb.size⟩
theorem PB.poly {w : World} {g : Nat} {p : List Rat} (h : PB w g p) : PolyAt w (some ⟨g, 0, none⟩) p := fun j hj => ⟨g, 0, rfl, by rw [Nat.zero_add]; exact h.1 j hj⟩
theorem getD_set {p : List Rat} {i j : Nat} {q : Rat} : (p.set i q).getD j 0 = if i = j ∧ j < p.length then q else p.getD j 0 := by
  rw [List.getD_eq_getElem?_getD, List.getD_eq_getElem?_getD, List.getElem?_set]
  split
  · rename_i h; subst h
    split
    · rw [if_pos ⟨rfl, by assumption⟩]; rfl
    · rename_i h2; rw [if_neg (by omega), List.getElem?_eq_none (by omega)]
  · rename_i h; rw [if_neg (by omega)]
theorem PB.set {w : World} {g : Nat} {p : List Rat} (h : PB w g p) {i : Nat} (hi : i < p.length) {q : Rat} {s A n c t B m d} (hq : RatP w s A n c t B m d q) : PB (st4 w g (i * 4) s A n c t B m d) g (p.set i q) := by
  refine ⟨fun j hj => ?_, fun o => st4_frozen.trans (h.2.1 o), by rw [st4_size]; exact h.2.2⟩
  rw [List.length_set] at hj
  rw [getD_set]
  by_cases hij : i = j
  · subst hij
    rw [if_pos ⟨rfl, hj⟩]
    exact RatAt.put (h.1 i hi).four hq
  · rw [if_neg (by omega)]
    exact (h.1 j hj).other (h.1 i hi).four (by omega)
theorem PB.other {w : World} {g g' o : Nat} {p : List Rat} (h : PB w g p) {s A n c t B m d} (hf : Four w g' o) (hne : g ≠ g') : PB (st4 w g' o s A n c t B m d) g p :=
  ⟨fun j hj => (h.1 j hj).other hf (Or.inl hne), fun o => st4_frozen.trans (h.2.1 o), by rw [st4_size]; exact h.2.2⟩

set_option maxHeartbeats 1000000 in
theorem uni_lead (v : Value) (p : List Rat) (w : World) (hv : IsPoly w v p) (hp : p ≠ []) (hl : p.length ≤ 1099511627776) :
    Calls Tryz.prog 59 #[v] w fun e w' => (∃ v, e = .returned v ∧ IsRat w' v (plead p)) ∧ Below w.heap.size w w' := by
  obtain ⟨A, k, rfl, hA, hk⟩ := hv
  have h0 : 0 < p.length := List.length_pos_iff.2 hp
  obtain ⟨b, off, rfl, h⟩ := hA (p.length - 1) (by omega)
  have hlt := h.lt
  obtain ⟨s, A, n, c, t, B, m, d, h1, h2, h3, h4, h5⟩ := h
  have e : p.getD (p.length - 1) 0 = plead p := rfl
  rw [e] at h5
  generalize plead p = q at *
  clear hA hp e
  generalize p.length = N at *
  go_enter Tryz.func59, Tryz.ntmps59
  go_wp2
  exact bodyPost_ret (v := .agg #[.bool s, .slice A n c, .bool t, .slice B m d]) (by simp [results, Tryz.results59, go_sem]) rfl ⟨⟨_, rfl, RatP.is (h5.below (below_alloc _ _))⟩, below_alloc _ _⟩

set_option maxHeartbeats 1000000 in
theorem uni_zero (w : World) : Calls Tryz.prog 88 #[] w fun e w' => (∃ v, e = .returned v ∧ IsRat w' v 0) ∧ Below w.heap.size w w' := by
  have hW := fun W => rat_int 0 W (by omega) (by omega)
  have e : ((0 : Int) : Rat) = 0 := rfl
  rw [e] at hW
  generalize (0 : Rat) = q at *
  go_enter Tryz.func88, Tryz.ntmps88
  clear e
  go_wp2_with fail
  generalize hE : World.alloc _ _ = W
  have hBW : Below w.heap.size w W := by rw [← hE]; exact below_alloc _ _
  have hR : RC4 W w.heap.size := by rw [← hE]; exact ⟨by simp [go_sem], by simp [go_sem], by simp [go_sem], by simp [go_sem], by simp [go_sem], by simp⟩
  clear hE
  refine (hW _).mono ?_
  rintro e w1 ⟨⟨_, rfl, s3, A3, n3, m3, t3, B3, k3, l3, rfl, hq⟩, hb⟩
  have hBW := hBW.trans (hb.mono hBW.size)
  have hR := hR.below hb
  have hP := rat_put' hBW (by omega) hR hq
  obtain ⟨r0, r1, r2, r3, rf, rl⟩ := hR
  go_wp2
  exact bodyPost_ret (v := .agg #[.bool s3, .slice A3 n3 m3, .bool t3, .slice B3 k3 l3]) (by simp [results, Tryz.results88, go_sem, r0, r1, r2, r3]) rfl ⟨⟨_, rfl, RatP.is hP.1⟩, hP.2⟩

theorem cmpI_num {q : Rat} : cmpI q.num 0 = 0 ↔ q = 0 := by
  rw [← Rat.num_eq_zero]; unfold cmpI; split <;> (try split) <;> omega

set_option maxHeartbeats 2000000 in
theorem uni_norm (A : Option Addr) (n c : Nat) (p : List Rat) (w : World) (hA : PolyAt w A p) (hn : n = p.length) (hc : n ≤ c) (hl : n ≤ 1099511627776) :
    Calls Tryz.prog 63 #[.slice A n c] w fun e w' => e = .returned (.slice A (ptrim p).length c) ∧ Below w.heap.size w w' := by
  have HT : ∀ m, m ≤ n → (∀ j, m ≤ j → j < n → p.getD j 0 = 0) → (∀ k, m = k + 1 → p.getD k 0 ≠ 0) → Hid ((ptrim p).length = m) := by
    intro m hm h1 h2
    refine Lib.hid ?_
    rw [← ptrim_take m (by omega) (fun k a b => h1 k a (by omega)) h2, List.length_take]; omega
  have Hn := Lib.hid hn
  have hb0 : Below w.heap.size w w := Below.refl _ _
  generalize hN : (ptrim p).length = N at *
  clear hn hN
  go_enter Tryz.func63, Tryz.ntmps63
  go_wp2_with fail
  go_loopg [0] n (fun k s0 wr => s0 = .slice A k c ∧ k ≤ n ∧ (∀ j, k ≤ j → j < n → p.getD j 0 = 0) ∧ Below w.heap.size w wr)
  case atStart => exact ⟨rfl, Nat.le_refl _, fun j a b => by omega, hb0⟩
  case round =>
    obtain ⟨rfl, hk, hz, hBW⟩ := hrel
    by_cases h0 : gk = 0
    · subst h0
      have hT := HT 0 (Nat.zero_le _) hz (fun k h => by omega)
      clear HT
      go_wp2_with fail
      go_ret
      exact ⟨by rw [hT.out]; rfl, hBW⟩
    · obtain ⟨b, off, rfl, h⟩ := (hA.below hBW) (gk - 1) (by rw [← Hn.out]; omega)
      have h0' : 0 < gk := Nat.pos_of_ne_zero h0
      have hlt := h.lt
      obtain ⟨s, A, n', c', t, B, m, d, h1, h2, h3, h4, h5⟩ := h
      have hS := rat_sign _ _ wr h5.is
      clear h5
      have HK : Hid (∀ k, gk = k + 1 → k = gk - 1) := Lib.hid (fun k h => by omega)
      go_wp2_with fail
      refine hS.mono ?_
      rintro e w1 ⟨rfl, hb⟩
      have hBW := hBW.trans (hb.mono hBW.size)
      by_cases hq : p.getD (gk - 1) 0 = 0
      · have hcc : cmpI (p.getD (gk - 1) 0).num 0 = 0 := cmpI_num.2 hq
        generalize cmpI (p.getD (gk - 1) 0).num 0 = cc at *
        have Hq := Lib.hid hq
        clear hq
        go_wp2_with fail
        go_roundg (gk - 1)
        case measure => omega
        case rel => exact ⟨by first | rfl | simp, by omega, fun j a b => by
          by_cases hj : j = gk - 1
          · rw [hj]; exact Hq.out
          · exact hz j (by omega) b, hBW⟩
      · have hcc : cmpI (p.getD (gk - 1) 0).num 0 ≠ 0 := fun h => hq (cmpI_num.1 h)
        have hT := HT gk hk hz (fun k h => by rw [HK.out k h]; exact hq)
        generalize cmpI (p.getD (gk - 1) 0).num 0 = cc at *
        clear HT hq
        go_wp2_with fail
        go_ret
        exact ⟨by rw [hT.out]; rfl, hBW⟩

end Go.Proofs.YtlklgeidffjidaaGreat

/- The walk of Valid (package univariate), for coefficients of arbitrary words. -/
namespace Go.Proofs.YtlklgeidffjidaaGreat
open Go.RowKit
set_option linter.unusedSimpArgs false

/-- A number as it lies in memory: two signs and two lists of words. -/
structure Raw4 where
  s : Bool
  xs : List Nat
  t : Bool
  ys : List Nat
def RawAt (w : World) (g o : Nat) (r : Raw4) : Prop := ∃ A n c B m d, w.cell? ⟨g, o, none⟩ = some (.bool r.s) ∧ w.cell? ⟨g, o + 1, none⟩ = some (.slice A n c) ∧ w.cell? ⟨g, o + 2, none⟩ = some (.bool r.t) ∧ w.cell? ⟨g, o + 3, none⟩ = some (.slice B m d) ∧
  Ws w A r.xs ∧ n = r.xs.length ∧ n ≤ c ∧ Ws w B r.ys ∧ m = r.ys.length ∧ m ≤ d
theorem RawAt.below {w w' : World} {g o : Nat} {r : Raw4} (h : RawAt w g o r) (hb : Below w.heap.size w w') : RawAt w' g o r := by
  obtain ⟨A, n, c, B, m, d, h1, h2, h3, h4, h5, h6, h7, h8, h9, h10⟩ := h
  exact ⟨A, n, c, B, m, d, cell_below h1 hb, cell_below h2 hb, cell_below h3 hb, cell_below h4 hb, h5.below hb, h6, h7, h8.below hb, h9, h10⟩
theorem RawAt.lt {w : World} {g o : Nat} {r : Raw4} (h : RawAt w g o r) : g < w.heap.size := by
  obtain ⟨A, n, c, B, m, d, h1, _⟩ := h; exact World.block_lt_of_cell? _ _ h1
def Raw4.ok (r : Raw4) : Bool := rvalid r.s r.xs r.t r.ys
def Raw4.nil : Raw4 := ⟨false, [], false, []⟩
/-- Raw coefficients. -/
def RawsAt (w : World) (A : Option Addr) (l : List Raw4) : Prop := ∀ j, j < l.length → (l.getD j .nil).xs.length ≤ 1099511627775 ∧ (l.getD j .nil).ys.length ≤ 1099511627775 ∧ ∃ b off, A = some ⟨b, off, none⟩ ∧ RawAt w b (off + j * 4) (l.getD j .nil)
theorem RawsAt.below {w w' : World} {A : Option Addr} {l : List Raw4} (h : RawsAt w A l) (hb : Below w.heap.size w w') : RawsAt w' A l := by
  intro j hj; obtain ⟨h1, h2, b, off, e, h⟩ := h j hj; exact ⟨h1, h2, b, off, e, h.below hb⟩
/-- What Valid answers. -/
def uvalid (l : List Raw4) : Bool := l.all Raw4.ok && (decide (l = []) || decide (val (l.getD (l.length - 1) .nil).xs ≠ 0))
theorem uvalid_false {l : List Raw4} {i : Nat} (hi : i < l.length) (h : (l.getD i .nil).ok = false) : uvalid l = false := by
  unfold uvalid
  have : l.all Raw4.ok = false := by
    rw [List.all_eq_false]
    refine ⟨l[i], List.getElem_mem hi, ?_⟩
    rw [List.getD_eq_getElem?_getD, List.getElem?_eq_getElem hi] at h
    simp at h; simp [h]
  rw [this]; rfl
theorem all_ok {l : List Raw4} (h : ∀ j, j < l.length → (l.getD j .nil).ok = true) : l.all Raw4.ok = true := by
  rw [List.all_eq_true]
  intro x hx
  obtain ⟨i, hi, rfl⟩ := List.getElem_of_mem hx
  have := h i hi
  rwa [List.getD_eq_getElem?_getD, List.getElem?_eq_getElem hi] at this
/-- The number that valid words mean. -/
def rawq (r : Raw4) : Rat := mkRat (sgn r.s (val r.xs)) (val r.ys)
theorem rawq_parts {r : Raw4} (hv : r.ok = true) : (rawq r).num = sgn r.s (val r.xs) ∧ ((rawq r).den : Int) = sgn r.t (val r.ys) ∧ ivalid r.s r.xs = true ∧ ivalid r.t r.ys = true := by
  unfold Raw4.ok rvalid at hv
  simp only [Bool.and_eq_true, decide_eq_true_eq] at hv
  obtain ⟨⟨h1, h2⟩, h3, h4⟩ := hv
  have e1 : (sgn r.s (val r.xs)).natAbs = val r.xs := by unfold sgn; split <;> simp
  have hnz : val r.ys ≠ 0 := by intro h; rw [h] at h3; unfold sgn at h3; split at h3 <;> omega
  have hd : sgn r.t (val r.ys) = ((val r.ys : Nat) : Int) := by unfold sgn at h3 ⊢; split <;> simp_all <;> omega
  have e : rawq r = ⟨sgn r.s (val r.xs), val r.ys, hnz, by rw [e1]; exact h4⟩ := Rat.mkRat_self ⟨sgn r.s (val r.xs), val r.ys, hnz, by rw [e1]; exact h4⟩
  rw [e]
  exact ⟨rfl, hd.symm, h1, h2⟩
theorem RawAt.rat {w : World} {g o : Nat} {r : Raw4} (h : RawAt w g o r) (hv : r.ok = true) : RatAt w g o (rawq r) := by
  obtain ⟨A, n, c, B, m, d, h1, h2, h3, h4, h5, h6, h7, h8, h9, h10⟩ := h
  obtain ⟨e1, e2, v1, v2⟩ := rawq_parts hv
  refine ⟨_, A, n, c, _, B, m, d, h1, h2, h3, h4, ?_, ?_⟩
  · rw [e1]; exact ivalid_is h5 h6 h7 v1
  · rw [e2]; exact ivalid_is h8 h9 h10 v2
theorem RawsAt.poly {w : World} {A : Option Addr} {l : List Raw4} (h : RawsAt w A l) (hv : ∀ j, j < l.length → (l.getD j .nil).ok = true) : PolyAt w A (l.map rawq) := by
  intro j hj
  rw [List.length_map] at hj
  obtain ⟨_, _, b, off, e, h⟩ := h j hj
  refine ⟨b, off, e, ?_⟩
  have : (l.map rawq).getD j 0 = rawq (l.getD j .nil) := by
    simp [List.getD_eq_getElem?_getD, List.getElem?_eq_getElem hj]
  rw [this]; exact h.rat (hv j hj)
theorem sgn_num {s : Bool} {xs : List Nat} : cmpI (sgn s (val xs)) 0 = 0 ↔ val xs = 0 := by
  unfold sgn cmpI; split <;> split <;> (try split) <;> omega

set_option maxHeartbeats 2000000 in
theorem uni_valid (A : Option Addr) (n c : Nat) (l : List Raw4) (w : World) (hA : RawsAt w A l) (hn : n = l.length) (hc : n ≤ c) (hl : n ≤ 1099511627776) :
    Calls Tryz.prog 13 #[.slice A n c] w fun e w' => e = .returned (.bool (uvalid l)) ∧ Below w.heap.size w w' := by
  have HF : ∀ i, i < n → Hid ((l.getD i .nil).ok = false → uvalid l = false) := fun i hi => Lib.hid (fun h => uvalid_false (by omega) h)
  have HT : Hid ((∀ j, j < n → (l.getD j .nil).ok = true) → uvalid l = (decide (l = []) || decide (val (l.getD (l.length - 1) .nil).xs ≠ 0))) := Lib.hid (fun h => by
    unfold uvalid; rw [all_ok (fun j hj => h j (by omega)), Bool.true_and])
  have Hn := Lib.hid hn
  have hb0 : Below w.heap.size w w := Below.refl _ _
  generalize uvalid l = U at *
  clear hn
  go_enter Tryz.func13, Tryz.ntmps13
  go_wp2_with fail
  go_loopg [7] n (fun k s7 wr => ∃ i : Nat, s7 = .int .i64 (i : Int) ∧ Hid (i + k = n) ∧ (∀ j, j < i → (l.getD j .nil).ok = true) ∧ Below w.heap.size w wr)
  case atStart => exact ⟨0, rfl, Lib.hid (by omega), fun j a => by omega, hb0⟩
  case round =>
    obtain ⟨i, rfl, hi, hz, hBW⟩ := hrel
    by_cases h0 : i < n
    · obtain ⟨hx, hy, b, off, rfl, h⟩ := (hA.below hBW) i (by rw [← Hn.out]; exact h0)
      have hF := HF i h0
      have hlt := h.lt
      clear HT HF
      obtain ⟨A1, n1, c1, B1, m1, d1, h1, h2, h3, h4, h5, h6, h7, h8, h9, h10⟩ := h
      have hV := fun W (hW : Below wr.heap.size wr W) => rat_valid A1 B1 n1 c1 m1 d1 (l.getD i .nil).s (l.getD i .nil).t _ _ W (h5.below hW) (h8.below hW) h6 h9 h7 h10 hx hy
      have e : rvalid (l.getD i .nil).s (l.getD i .nil).xs (l.getD i .nil).t (l.getD i .nil).ys = (l.getD i .nil).ok := rfl
      rw [e] at hV
      clear e h5 h6 h7 h8 h9 h10 hx hy
      generalize (l.getD i .nil).s = s at *
      generalize (l.getD i .nil).t = t at *
      by_cases hok : (l.getD i .nil).ok = true
      · have Hok := Lib.hid hok
        rw [hok] at hV
        clear hok hF
        go_wp2_with fail
        refine (hV _ (below_alloc _ _)).mono ?_
        rintro e w1 ⟨rfl, hb⟩
        have hBW := hBW.trans (((below_alloc _ _).trans (hb.mono (by simp))).mono hBW.size)
        go_wp2_with fail
        go_roundg (gk - 1)
        case measure => have := hi.out; omega
        case rel => exact ⟨i + 1, by simp, Lib.hid (by have := hi.out; omega), fun j a => by
          by_cases hj : j = i
          · rw [hj]; exact Hok.out
          · exact hz j (by omega), hBW⟩
      · have hok : (l.getD i .nil).ok = false := by simpa using hok
        rw [hok] at hV
        have hF := Lib.hid (hF.out hok)
        clear hok
        go_wp2_with fail
        refine (hV _ (below_alloc _ _)).mono ?_
        rintro e w1 ⟨rfl, hb⟩
        have hBW := hBW.trans (((below_alloc _ _).trans (hb.mono (by simp))).mono hBW.size)
        go_wp2_with fail
        go_ret
        exact ⟨by rw [hF.out]; rfl, hBW⟩
    · have hin : i = n := by have := hi.out; omega
      subst hin
      have hT := Lib.hid (HT.out hz)
      clear HT HF
      by_cases hn0 : i = 0
      · subst hn0
        have : l = [] := List.eq_nil_of_length_eq_zero Hn.out.symm
        subst this
        go_wp2_with fail
        go_ret
        exact ⟨by rw [hT.out]; rfl, hBW⟩
      · have hP : IsPoly wr (.slice A i c) (l.map rawq) := ⟨A, c, by rw [List.length_map, ← Hn.out], (hA.below hBW).poly (fun j hj => hz j (by rw [Hn.out]; exact hj)), by rw [List.length_map, ← Hn.out]; exact hc⟩
        have hne : l.map rawq ≠ [] := by intro e; rw [List.map_eq_nil_iff] at e; rw [e] at Hn; exact hn0 Hn.out
        have hL := uni_lead _ _ wr hP hne (by rw [List.length_map, ← Hn.out]; exact hl)
        have hq : (cmpI (plead (l.map rawq)).num 0 = 0) ↔ val (l.getD (l.length - 1) .nil).xs = 0 := by
          have hj : l.length - 1 < l.length := by have := Hn.out; omega
          have e : plead (l.map rawq) = rawq (l.getD (l.length - 1) .nil) := by
            unfold plead
            rw [List.length_map]
            simp [List.getD_eq_getElem?_getD, List.getElem?_eq_getElem hj]
          rw [e, (rawq_parts (hz _ (by rw [Hn.out]; exact hj))).1]
          exact sgn_num
        have HL : Hid (l ≠ []) := Lib.hid (fun e => by rw [e] at Hn; exact hn0 Hn.out)
        have HQ := Lib.hid hq
        clear hq hne hP
        generalize plead (l.map rawq) = q at *
        have hcc : (cmpI q.num 0 != 0) = U := by
          rw [hT.out, decide_eq_false HL.out, Bool.false_or, Bool.eq_iff_iff]
          simp only [bne_iff_ne, ne_eq, decide_eq_true_eq]
          exact not_congr HQ.out
        have hSg := fun v W (h : IsRat W v q) => rat_sign v q W h
        generalize cmpI q.num 0 = cc at *
        clear hT
        have hn0' : 0 < i := Nat.pos_of_ne_zero hn0
        go_wp2_with fail
        refine hL.mono ?_
        rintro e w1 ⟨⟨v1, rfl, hv1⟩, hb⟩
        have hBW := hBW.trans (hb.mono hBW.size)
        go_wp2_with fail
        refine (hSg _ _ hv1).mono ?_
        rintro e w2 ⟨rfl, hb2⟩
        have hBW := hBW.trans (hb2.mono hBW.size)
        go_wp2_with fail
        go_ret
        refine ⟨?_, hBW⟩
        have e0 : ((i : Int) == 0) = false := by simp; omega
        show Ending.returned (.bool ((i : Int) == 0 || U)) = _
        rw [e0]; rfl

end Go.Proofs.YtlklgeidffjidaaGreat

/- Buffers of rational numbers: make, and copy. -/
namespace Go.Proofs.YtlklgeidffjidaaGreat
open Go.RowKit
set_option linter.unusedSimpArgs false

/-! ### Cells set one by one. -/
def Soft (u : Value) : Prop := ∀ k z, u ≠ .int k z
theorem IntP.setCells {g : Nat} {s A n c z} : ∀ (vs : List Value) (o : Nat) (w : World), (∀ j, j < vs.length → ∃ u, w.cell? ⟨g, o + j, none⟩ = some u ∧ Soft u) → IntP w s A n c z → IntP (w.setCells g o vs) s A n c z
  | [], _, _, _, h => h
  | v :: r, o, w, hc, h => by
    obtain ⟨u, hu, hs⟩ := hc 0 (by simp)
    refine IntP.setCells r (o + 1) _ (fun j hj => ?_) (h.setCell v hu hs)
    obtain ⟨u', hu', hs'⟩ := hc (j + 1) (by simp; omega)
    refine ⟨u', ?_, hs'⟩
    rw [World.cell?_setCell_other _ _ _ _ (addr_ne (by omega)), ← hu']
    congr 2; omega
theorem RatP.setCells {g : Nat} {s A n c t B m d q} (vs : List Value) (o : Nat) (w : World) (hc : ∀ j, j < vs.length → ∃ u, w.cell? ⟨g, o + j, none⟩ = some u ∧ Soft u) (h : RatP w s A n c t B m d q) : RatP (w.setCells g o vs) s A n c t B m d q :=
  ⟨h.1.setCells vs o w hc, h.2.setCells vs o w hc⟩
theorem setCells_size (g : Nat) : ∀ (vs : List Value) (o : Nat) (w : World), (w.setCells g o vs).heap.size = w.heap.size
  | [], _, _ => rfl
  | v :: r, o, w => by rw [World.setCells, setCells_size g r]; simp [World.setCell]
theorem below_setCells {B g : Nat} (hB : B ≤ g) (vs : List Value) (o : Nat) {w0 w : World} (h : Below B w0 w) : Below B w0 (w.setCells g o vs) := Lib.below_setCells g hB vs o h

/-- A block of N numbers, of which the first ones are written. -/
def BF (w : World) (g N : Nat) (p : List Rat) : Prop := p.length ≤ N ∧ (∀ j, j < N → Four w g (j * 4)) ∧ (∀ j, j < p.length → RatAt w g (j * 4) (p.getD j 0)) ∧ (∀ o, w.frozen? ⟨g, o, none⟩ = false) ∧ g < w.heap.size
theorem BF.full {w : World} {g : Nat} {p : List Rat} (h : BF w g p.length p) : PB w g p := ⟨h.2.2.1, h.2.2.2.1, h.2.2.2.2⟩
theorem PB.bf {w : World} {g : Nat} {p : List Rat} (h : PB w g p) : BF w g p.length p := ⟨Nat.le_refl _, fun j hj => (h.1 j hj).four, h.1, h.2.1, h.2.2⟩
theorem Four.below {w w' : World} {g o : Nat} (h : Four w g o) (hb : Below w.heap.size w w') : Four w' g o := by
  obtain ⟨u0, u1, u2, u3, h0, h1, h2, h3, k⟩ := h
  exact ⟨u0, u1, u2, u3, cell_below h0 hb, cell_below h1 hb, cell_below h2 hb, cell_below h3 hb, k⟩
theorem Four.other {w : World} {g o g' o' : Nat} {s A n c t B m d} (h : Four w g' o') (hne : g' ≠ g ∨ o' + 4 ≤ o ∨ o + 4 ≤ o') : Four (st4 w g o s A n c t B m d) g' o' := by
  obtain ⟨u0, u1, u2, u3, h0, h1, h2, h3, k⟩ := h
  exact ⟨u0, u1, u2, u3, (st4_other (by omega)).trans h0, (st4_other (by omega)).trans h1, (st4_other (by omega)).trans h2, (st4_other (by omega)).trans h3, k⟩
theorem BF.below {w w' : World} {g N : Nat} {p : List Rat} (h : BF w g N p) (hb : Below w.heap.size w w') : BF w' g N p :=
  ⟨h.1, fun j hj => (h.2.1 j hj).below hb, fun j hj => (h.2.2.1 j hj).below hb, fun o => ((kept_cells hb).2 _ _ h.2.2.2.2).trans (h.2.2.2.1 o), Nat.lt_of_lt_of_le h.2.2.2.2 hb.size⟩
theorem Four.soft {w : World} {g o : Nat} (h : Four w g o) (a : Nat) (ha : a < 4) : ∃ u, w.cell? ⟨g, o + a, none⟩ = some u ∧ Soft u := by
  obtain ⟨u0, u1, u2, u3, h0, h1, h2, h3, k0, k1, k2, k3⟩ := h
  match a, ha with
  | 0, _ => exact ⟨u0, h0, k0⟩
  | 1, _ => exact ⟨u1, h1, k1⟩
  | 2, _ => exact ⟨u2, h2, k2⟩
  | 3, _ => exact ⟨u3, h3, k3⟩
theorem BF.soft {w : World} {g N : Nat} {p : List Rat} (h : BF w g N p) (j : Nat) (hj : j < N * 4) : ∃ u, w.cell? ⟨g, j, none⟩ = some u ∧ Soft u := by
  have := (h.2.1 (j / 4) (by omega)).soft (j % 4) (Nat.mod_lt _ (by omega))
  rwa [show j / 4 * 4 + j % 4 = j by omega] at this
/-- The next number is written. -/
theorem BF.push {w : World} {g N : Nat} {p : List Rat} (h : BF w g N p) (hN : p.length < N) {q : Rat} {s A n c t B m d} (hq : RatP w s A n c t B m d q) : BF (st4 w g (p.length * 4) s A n c t B m d) g N (p ++ [q]) := by
  have hf := h.2.1 p.length hN
  refine ⟨by simp; omega, fun j hj => ?_, fun j hj => ?_, fun o => st4_frozen.trans (h.2.2.2.1 o), by rw [st4_size]; exact h.2.2.2.2⟩
  · by_cases e : j = p.length
    · subst e; exact (RatAt.put hf hq).four
    · exact (h.2.1 j hj).other (by omega)
  · by_cases e : j = p.length
    · subst e
      have : (p ++ [q]).getD p.length 0 = q := by simp [List.getD_eq_getElem?_getD]
      rw [this]; exact RatAt.put hf hq
    · have hj' : j < p.length := by simp at hj; omega
      have : (p ++ [q]).getD j 0 = p.getD j 0 := by rw [List.getD_eq_getElem?_getD, List.getD_eq_getElem?_getD, List.getElem?_append_left hj']
      rw [this]; exact (h.2.2.1 j hj').other hf (by omega)
theorem BF.other {w : World} {g g' o N : Nat} {p : List Rat} (h : BF w g N p) {s A n c t B m d} (hf : Four w g' o) (hne : g ≠ g') : BF (st4 w g' o s A n c t B m d) g N p :=
  ⟨h.1, fun j hj => (h.2.1 j hj).other (Or.inl hne), fun j hj => (h.2.2.1 j hj).other hf (Or.inl hne), fun o => st4_frozen.trans (h.2.2.2.1 o), by rw [st4_size]; exact h.2.2.2.2⟩

/-- The cells of a polynomial. -/
def CellsOf (w : World) (cs : List Value) (p : List Rat) : Prop := cs.length = p.length * 4 ∧ (∀ v ∈ cs, v.oneCell' = true) ∧ (∀ v ∈ cs, Soft v) ∧
  ∀ j, j < p.length → ∃ s A n c t B m d, cs[j * 4]? = some (.bool s) ∧ cs[j * 4 + 1]? = some (.slice A n c) ∧ cs[j * 4 + 2]? = some (.bool t) ∧ cs[j * 4 + 3]? = some (.slice B m d) ∧ RatP w s A n c t B m d (p.getD j 0)
theorem addr_add (b o j : Nat) : (⟨b, o, none⟩ : Addr).add j = ⟨b, o + j, none⟩ := by unfold Addr.add; split <;> simp_all
theorem PolyAt.cells {w : World} {b off : Nat} {p : List Rat} (h : PolyAt w (some ⟨b, off, none⟩) p) : ∃ cs, CellsOf w cs p ∧ ∀ j v, cs[j]? = some v → w.cell? ⟨b, off + j, none⟩ = some v := by
  have main : ∀ k, k ≤ p.length → ∃ cs, CellsOf w cs (p.take k) ∧ ∀ j v, cs[j]? = some v → w.cell? ⟨b, off + j, none⟩ = some v := by
    intro k
    induction k with
    | zero => intro _; exact ⟨[], ⟨by simp, by simp, by simp, by simp⟩, by simp⟩
    | succ k ih =>
      intro hk
      obtain ⟨cs, ⟨c1, c2, c3, c4⟩, hcs⟩ := ih (by omega)
      obtain ⟨b', off', e, h⟩ := h k (by omega)
      injection e with e; injection e with e1 e2; subst e1; subst e2
      obtain ⟨s, A, n, c, t, B, m, d, h1, h2, h3, h4, h5⟩ := h
      have hl : cs.length = k * 4 := by rw [c1, List.length_take]; congr 1; omega
      refine ⟨cs ++ [.bool s, .slice A n c, .bool t, .slice B m d], ⟨?_, ?_, ?_, ?_⟩, ?_⟩
      · simp [hl]; omega
      · intro v hv
        rcases List.mem_append.1 hv with hv | hv
        · exact c2 v hv
        · simp only [List.mem_cons, List.not_mem_nil, or_false] at hv
          rcases hv with rfl | rfl | rfl | rfl <;> rfl
      · intro v hv
        rcases List.mem_append.1 hv with hv | hv
        · exact c3 v hv
        · simp only [List.mem_cons, List.not_mem_nil, or_false] at hv
          rcases hv with rfl | rfl | rfl | rfl <;> intro k z <;> simp
      · intro j hj
        rw [List.length_take] at hj
        by_cases e : j = k
        · subst e
          refine ⟨s, A, n, c, t, B, m, d, ?_, ?_, ?_, ?_, ?_⟩
          · rw [List.getElem?_append_right (by omega), hl]; simp
          · rw [List.getElem?_append_right (by omega), hl]; simp
          · rw [List.getElem?_append_right (by omega), hl]; simp
          · rw [List.getElem?_append_right (by omega), hl]; simp
          · have : (p.take (j + 1)).getD j 0 = p.getD j 0 := by rw [List.getD_eq_getElem?_getD, List.getD_eq_getElem?_getD, List.getElem?_take_of_lt (by omega)]
            rw [this]; exact h5
        · obtain ⟨s, A, n, c, t, B, m, d, g1, g2, g3, g4, g5⟩ := c4 j (by rw [List.length_take]; omega)
          refine ⟨s, A, n, c, t, B, m, d, ?_, ?_, ?_, ?_, ?_⟩
          · rw [List.getElem?_append_left (by omega)]; exact g1
          · rw [List.getElem?_append_left (by omega)]; exact g2
          · rw [List.getElem?_append_left (by omega)]; exact g3
          · rw [List.getElem?_append_left (by omega)]; exact g4
          · have : (p.take (k + 1)).getD j 0 = (p.take k).getD j 0 := by rw [List.getD_eq_getElem?_getD, List.getD_eq_getElem?_getD, List.getElem?_take_of_lt (by omega), List.getElem?_take_of_lt (by omega)]
            rw [this]; exact g5
      · intro j v hj
        by_cases hjl : j < cs.length
        · rw [List.getElem?_append_left hjl] at hj; exact hcs j v hj
        · rw [List.getElem?_append_right (by omega), hl] at hj
          obtain ⟨a, rfl⟩ : ∃ a, j = k * 4 + a := ⟨j - k * 4, by omega⟩
          rw [Nat.add_sub_cancel_left] at hj
          rw [← Nat.add_assoc]
          match a, hj with
          | 0, hj => simp at hj; subst hj; exact h1
          | 1, hj => simp at hj; subst hj; exact h2
          | 2, hj => simp at hj; subst hj; exact h3
          | 3, hj => simp at hj; subst hj; exact h4
          | a + 4, hj => simp at hj
  have := main p.length (Nat.le_refl _)
  rwa [List.take_length] at this

/-- A polynomial is copied into the buffer, from the place i on. -/
theorem BF.copy {w : World} {g N : Nat} {p r : List Rat} {cs : List Value} (h : BF w g N p) (hc : CellsOf w cs r) (i : Nat) (hi : i ≤ p.length) (hN : i + r.length ≤ N) :
    BF (w.setCells g (i * 4) cs) g N (p.take i ++ r ++ p.drop (i + r.length)) := by
  obtain ⟨c1, c2, c3, c4⟩ := hc
  have hsoft : ∀ j, j < cs.length → ∃ u, w.cell? ⟨g, i * 4 + j, none⟩ = some u ∧ Soft u := fun j hj => h.soft _ (by omega)
  have hin := World.cell?_setCells_in g cs (i * 4) w (fun j hj => by obtain ⟨u, hu, _⟩ := hsoft j hj; rw [hu]; rfl)
  have hin' : ∀ j v, cs[j]? = some v → (w.setCells g (i * 4) cs).cell? ⟨g, i * 4 + j, none⟩ = some v := fun j v hv => by
    obtain ⟨hj, rfl⟩ := List.getElem?_eq_some_iff.1 hv; exact hin j hj
  have hout : ∀ o, o < i * 4 ∨ i * 4 + cs.length ≤ o → (w.setCells g (i * 4) cs).cell? ⟨g, o, none⟩ = w.cell? ⟨g, o, none⟩ := fun o ho => World.cell?_setCells_out g cs (i * 4) w _ (fun _ _ => ho)
  have hmid : ∀ j, j < r.length → RatAt (w.setCells g (i * 4) cs) g ((i + j) * 4) (r.getD j 0) := by
    intro j hj
    obtain ⟨s, A, n, c, t, B, m, d, g1, g2, g3, g4, g5⟩ := c4 j hj
    have e : ∀ a, (i + j) * 4 + a = i * 4 + (j * 4 + a) := by intro a; omega
    refine ⟨s, A, n, c, t, B, m, d, ?_, ?_, ?_, ?_, g5.setCells cs _ _ hsoft⟩
    · have := hin' _ _ g1; rwa [← Nat.add_mul] at this
    · rw [e]; exact hin' _ _ g2
    · rw [e]; exact hin' _ _ g3
    · rw [e]; exact hin' _ _ g4
  have hrest : ∀ j q, (j < i ∨ i + r.length ≤ j) → RatAt w g (j * 4) q → RatAt (w.setCells g (i * 4) cs) g (j * 4) q := by
    intro j q hj hq
    obtain ⟨s, A, n, c, t, B, m, d, g1, g2, g3, g4, g5⟩ := hq
    exact ⟨s, A, n, c, t, B, m, d, (hout _ (by omega)).trans g1, (hout _ (by omega)).trans g2, (hout _ (by omega)).trans g3, (hout _ (by omega)).trans g4, g5.setCells cs _ _ hsoft⟩
  have hp1 := h.1
  have hlen : (p.take i ++ r ++ p.drop (i + r.length)).length = i + r.length + (p.length - (i + r.length)) := by simp; omega
  refine ⟨by omega, fun j hj => ?_, fun j hj => ?_, fun o => (World.frozen?_setCells g cs (i * 4) w _).trans (h.2.2.2.1 o), by rw [setCells_size]; exact h.2.2.2.2⟩
  · by_cases h1 : i ≤ j ∧ j < i + r.length
    · have := (hmid (j - i) (by omega)).four
      rwa [show i + (j - i) = j by omega] at this
    · obtain ⟨u0, u1, u2, u3, h0, h1', h2, h3, k⟩ := h.2.1 j hj
      exact ⟨u0, u1, u2, u3, (hout _ (by omega)).trans h0, (hout _ (by omega)).trans h1', (hout _ (by omega)).trans h2, (hout _ (by omega)).trans h3, k⟩
  · rw [hlen] at hj
    by_cases h1 : j < i
    · have : (p.take i ++ r ++ p.drop (i + r.length)).getD j 0 = p.getD j 0 := by
        rw [List.append_assoc, List.getD_eq_getElem?_getD, List.getD_eq_getElem?_getD, List.getElem?_append_left (by simp; omega), List.getElem?_take_of_lt h1]
      rw [this]; exact hrest j _ (Or.inl h1) (h.2.2.1 j (by omega))
    · by_cases h2 : j < i + r.length
      · have : (p.take i ++ r ++ p.drop (i + r.length)).getD j 0 = r.getD (j - i) 0 := by
          rw [List.append_assoc, List.getD_eq_getElem?_getD, List.getD_eq_getElem?_getD, List.getElem?_append_right (by simp; omega), List.length_take, Nat.min_eq_left hi, List.getElem?_append_left (by omega)]
        rw [this]
        have := hmid (j - i) (by omega)
        rwa [show i + (j - i) = j by omega] at this
      · have : (p.take i ++ r ++ p.drop (i + r.length)).getD j 0 = p.getD j 0 := by
          rw [List.getD_eq_getElem?_getD, List.getD_eq_getElem?_getD, List.getElem?_append_right (by simp; omega), List.getElem?_drop]
          congr 2; simp; omega
        rw [this]; exact hrest j _ (Or.inr (by omega)) (h.2.2.1 j (by omega))

/-- copy, elements of k cells. -/
theorem run_copy_cellsK {P : Program} (w : World) (dT sT ty elem : TypeId) (k b o dLen dCap : Nat) (a : Addr) (sLen sCap : Nat) (cs : List Value)
    (hu : P.underlying dT = some (.slice elem)) (hs : (P.info? elem).map (·.size) = some k) (hn : cs.length = Nat.min sLen dLen * k)
    (hsrc : ∀ j v, cs[j]? = some v → w.cell? (a.add j) = some v) (hc : ∀ j, j < cs.length → (w.cell? ⟨b, o + j, none⟩).isSome = true) (hf : ∀ j, j < cs.length → w.frozen? ⟨b, o + j, none⟩ = false) (h1 : ∀ v ∈ cs, v.oneCell' = true) :
    (Builtin.copy_ #[dT, sT] ty #[.slice (some ⟨b, o, none⟩) dLen dCap, .slice (some a) sLen sCap]).run P w = .ok (goInt (Nat.min sLen dLen)) (w.setCells b o cs) := by
  have hl := run_loadCells_list (P := P) w a cs hsrc
  have hst := run_storeCells_cells (P := P) b o cs 0 w (by simpa using hc) (by simpa using hf) h1
  cases hq : P.info? elem with
  | none => simp [hq] at hs
  | some i =>
    have hi : i.size = k := by simpa [hq] using hs
    rw [hn] at hl
    simp [Builtin.copy_, run_underlying hu, Builtin.lenOf, Builtin.firstCells, sizeOf, typeInfo, hq, hi, hl, hst]

theorem BF.made (w : World) (T : TypeId) (n : Nat) : BF (w.alloc (.cells (madeCells #[.bool false, .slice none 0 0, .bool false, .slice none 0 0] (n * 4)) T)) w.heap.size n [] := by
  have hc : ∀ i, i < n * 4 → (w.alloc (.cells (madeCells #[Value.bool false, .slice none 0 0, .bool false, .slice none 0 0] (n * 4)) T)).cell? ⟨w.heap.size, i, none⟩ = some (#[Value.bool false, .slice none 0 0, .bool false, .slice none 0 0][i % 4]!) := by
    intro i hi
    simp [go_sem, madeCells, hi]
  refine ⟨Nat.zero_le _, fun j hj => ?_, fun j hj => by simp at hj, fun o => by simp [go_sem], by simp⟩
  refine ⟨.bool false, .slice none 0 0, .bool false, .slice none 0 0, ?_, ?_, ?_, ?_, by simp, by simp, by simp, by simp⟩
  · rw [hc _ (by omega), show j * 4 % 4 = 0 by omega]; rfl
  · rw [hc _ (by omega), show (j * 4 + 1) % 4 = 1 by omega]; rfl
  · rw [hc _ (by omega), show (j * 4 + 2) % 4 = 2 by omega]; rfl
  · rw [hc _ (by omega), show (j * 4 + 3) % 4 = 3 by omega]; rfl
theorem info_rat : (Tryz.prog.info? 31).map (fun i => (i.zero, i.size, i.bytes)) = some (some (.agg #[.bool false, .slice none 0 0, .bool false, .slice none 0 0]), 4, 64) := by kernel_rfl
/-- make of numbers. -/
theorem wp_make_rats {P : Program} {w : World} {ops : Array Oper} {rest : List Oper} {o : Oper} {a : Act} {Q : Exit → Act → World → Prop}
    (hg : o.guard = none) (l c : Operand) (t e : TypeId) (hop : o.op = Op.makeSlice t l c) (ht : P.underlying t = some (.slice e)) (hinfo : (P.info? e).map (fun i => (i.zero, i.size, i.bytes)) = some (some (.agg #[.bool false, .slice none 0 0, .bool false, .slice none 0 0]), 4, 64))
    (kl kc : IntKind) (L C : Int) (n : Nat) (hl : a.eval l = .int kl L) (hc : a.eval c = .int kc C) (hL : L = (n : Int)) (hC : C = (n : Int)) (hb : n ≤ 1000000)
    (hK : ∀ W, BF W w.heap.size n [] → Below w.heap.size w W → wpList P ops Q rest (a.put o.dst (.slice (some ⟨w.heap.size, 0, none⟩) n n)) W) :
    wpList P ops Q (o :: rest) a w := by
  refine wpList_plain hg fun K hK' => ?_
  obtain ⟨i, hi, hzz⟩ := Option.map_eq_some_iff.1 hinfo
  simp only [Prod.mk.injEq] at hzz
  obtain ⟨hz, hs, hby⟩ := hzz
  have hrun := run_make (P := P) w t e i _ ht hi hz kl kc (n : Int) (n : Int) (by omega) (Int.le_refl _) (by rw [hby]; omega) (by omega)
  simp only [Int.toNat_natCast, hs] at hrun
  have hcells : (Value.agg #[.bool false, .slice none 0 0, .bool false, .slice none 0 0]).cells = #[.bool false, .slice none 0 0, .bool false, .slice none 0 0] := rfl
  rw [hcells] at hrun
  subst hL
  subst hC
  unfold Oper.wp
  simp [execOp, hop, hl, hc, hrun, Result.andThen]
  exact hK' _ _ (hK _ (BF.made w e n) ((Below.refl _ _).alloc (Nat.le_refl _) _))
theorem size_rat : (Tryz.prog.info? 31).map (·.size) = some 4 := by kernel_rfl

theorem run_copy_noneK {P : Program} (w : World) (dT sT ty elem : TypeId) (k : Nat) (d a : Option Addr) (dLen dCap sLen sCap : Nat) (hu : P.underlying dT = some (.slice elem)) (hs : (P.info? elem).map (·.size) = some k) (hn : Nat.min sLen dLen = 0) :
    (Builtin.copy_ #[dT, sT] ty #[.slice d dLen dCap, .slice a sLen sCap]).run P w = .ok (.int .i64 0) w := by
  cases hq : P.info? elem with
  | none => simp [hq] at hs
  | some i =>
    have hl : ∀ (x : Addr), (loadCells x 0).run P w = .ok #[] w := fun x => by simpa using run_loadCells_list (P := P) w x [] (by simp)
    cases d <;> cases a <;> simp [Builtin.copy_, run_underlying hu, Builtin.lenOf, Builtin.firstCells, sizeOf, typeInfo, hq, hn, storeCells, hl, goInt]
/-- copy into a buffer. -/
theorem copy_bf {P : Program} {w : World} {g N : Nat} {p r : List Rat} (h : BF w g N p) (i dLen dCap : Nat) {b off : Nat} (hr : PolyAt w (some ⟨b, off, none⟩) r) (sLen sCap : Nat) (hl : r.length = Nat.min sLen dLen) (hi : i ≤ p.length) (hN : i + r.length ≤ N) (dT sT elem : TypeId)
    (hu : P.underlying dT = some (.slice elem)) (hs : (P.info? elem).map (·.size) = some 4) {B : Nat} (hB : B ≤ g) :
    ∃ w', (∀ ty, (Builtin.copy_ #[dT, sT] ty #[.slice (some ⟨g, i * 4, none⟩) dLen dCap, .slice (some ⟨b, off, none⟩) sLen sCap]).run P w = .ok (.int .i64 (r.length : Int)) w') ∧ BF w' g N (p.take i ++ r ++ p.drop (i + r.length)) ∧ Below B w w' := by
  obtain ⟨cs, hc, hcs⟩ := hr.cells
  have hsoft : ∀ j, j < cs.length → ∃ u, w.cell? ⟨g, i * 4 + j, none⟩ = some u ∧ Soft u := fun j hj => h.soft _ (by have := hc.1; omega)
  refine ⟨w.setCells g (i * 4) cs, fun ty => ?_, h.copy hc i hi hN, below_setCells hB _ _ (Below.refl _ _)⟩
  have := run_copy_cellsK (P := P) w dT sT ty elem 4 g (i * 4) dLen dCap ⟨b, off, none⟩ sLen sCap cs hu hs (by rw [hc.1, hl]) (fun j v hv => by rw [addr_add]; exact hcs j v hv)
    (fun j hj => by obtain ⟨u, hu, _⟩ := hsoft j hj; rw [hu]; rfl) (fun j hj => h.2.2.2.1 _) hc.2.1
  rw [this, hl]; rfl

end Go.Proofs.YtlklgeidffjidaaGreat

/- The walks of slices.Repeat for one coefficient, and of grown (package univariate). -/
namespace Go.Proofs.YtlklgeidffjidaaGreat
open Go.RowKit
set_option linter.unusedSimpArgs false

theorem and_mask {n : Nat} (h : n < 4294967296) : bits .and .u64 (n : Int) 4294967295 = (n : Int) := by
  have := u64_and_nat n 4294967295 (by omega) (by omega)
  rw [show ((4294967295 : Nat) : Int) = 4294967295 from rfl] at this
  rw [this]
  have e : n &&& 4294967295 = n := by
    have := Nat.and_two_pow_sub_one_of_lt_two_pow (n := 32) (x := n) (by omega)
    simpa using this
  rw [e]

set_option maxHeartbeats 1000000 in
theorem mul64_one (n : Nat) (w : World) (h : n < 4294967296) :
    Calls Tryz.prog 148 #[.int .u64 1, .int .u64 (n : Int)] w fun e w' => e = .returned (.tuple #[.int .u64 0, .int .u64 (n : Int)]) ∧ Below w.heap.size w w' := by
  have e1 := and_mask h
  have e2 : bits .and .u64 1 4294967295 = 1 := by decide
  have e3 : (n : Int) / 4294967296 = 0 := by omega
  have e4 : IntKind.u64.wrap (n : Int) = (n : Int) := u64_wrap_nat (by omega)
  have e5 : bits .and .u64 0 4294967295 = 0 := by decide
  have hb0 : Below w.heap.size w w := Below.refl _ _
  go_enter Tryz.func148, Tryz.ntmps148
  go_wp2
  exact bodyPost_ret (v := .tuple #[.int .u64 0, .int .u64 (n : Int)]) (by simp [results, Tryz.results148, go_sem]) rfl ⟨rfl, hb0⟩
set_option maxHeartbeats 1000000 in
theorem mul_one_u (n : Nat) (w : World) (h : n < 4294967296) :
    Calls Tryz.prog 127 #[.int .u64 1, .int .u64 (n : Int)] w fun e w' => e = .returned (.tuple #[.int .u64 0, .int .u64 (n : Int)]) ∧ Below w.heap.size w w' := by
  have hM := mul64_one n w h
  go_enter Tryz.func127, Tryz.ntmps127
  go_wp2_with fail
  refine hM.mono ?_
  rintro e w1 ⟨rfl, hb⟩
  go_wp2
  exact bodyPost_ret (v := .tuple #[.int .u64 0, .int .u64 (n : Int)]) (by simp [results, Tryz.results127, go_sem]) rfl ⟨rfl, hb⟩

set_option maxHeartbeats 2000000 in
theorem repeat_one (A : Option Addr) (n : Nat) (q : Rat) (w : World) (hA : PolyAt w A [q]) (h : n ≤ 1000000) :
    Calls Tryz.prog 103 #[.slice A 1 1, .int .i64 (n : Int)] w fun e w' => (∃ g, e = .returned (.slice (some ⟨g, 0, none⟩) n n) ∧ w.heap.size ≤ g ∧ PB w' g (List.replicate n q)) ∧ Below w.heap.size w w' := by
  have hM := mul_one_u n w (by omega)
  have e4 : IntKind.u64.wrap (n : Int) = (n : Int) := u64_wrap_nat (by omega)
  have e5 : IntKind.i64.wrap (n : Int) = (n : Int) := by simp [IntKind.wrap, IntKind.bits, IntKind.signed]; omega
  go_enter Tryz.func103, Tryz.ntmps103
  go_wp2_with fail
  refine hM.mono ?_
  rintro e w1 ⟨rfl, hb⟩
  have hA := hA.below hb
  go_wp2_with (at_make; refine wp_make_rats rfl _ _ 23 31 rfl Tryz.underlying23 info_rat .i64 .i64 _ _ n rfl rfl rfl rfl (by omega) ?_)
  intro W2 hB hb2
  have hA := hA.below hb2
  have hBW := hb.trans (hb2.mono hb.size)
  have hge : w.heap.size ≤ w1.heap.size := hb.size
  clear hb hb2
  generalize w1.heap.size = g at *
  by_cases hn : n = 0
  · subst hn
    have hr := fun ty => run_copy_noneK (P := Tryz.prog) W2 23 23 ty _ 4 (some ⟨g, 0, none⟩) A 0 0 1 1 Tryz.underlying23 size_rat (by decide)
    go_wp2_with (at_builtin; refine Lib.wpList_copy_run _ rfl _ _ 23 23 rfl _ _ rfl rfl (hr _) ?_)
    go_loopg [8] 0 (fun k s8 wr => s8 = .int .i64 0 ∧ BF wr g 0 [] ∧ Below w.heap.size w wr)
    case atStart => exact ⟨rfl, hB, hBW⟩
    case round =>
      clear hB hBW
      obtain ⟨rfl, hB, hBW⟩ := hrel
      go_wp2_with fail
      go_ret
      exact ⟨⟨g, rfl, hge, hB.full⟩, hBW⟩
  · obtain ⟨b, off, rfl, _⟩ := hA 0 (by simp)
    have hmin : Nat.min 1 n = 1 := Nat.min_eq_left (by omega)
    obtain ⟨W3, hr, hB3, hb3⟩ := copy_bf (P := Tryz.prog) hB 0 n n hA 1 1 (by rw [hmin]; rfl) (Nat.zero_le _) (by simp; omega) 23 23 _ Tryz.underlying23 size_rat hge
    have hr : ∀ ty, (Builtin.copy_ #[23, 23] ty #[.slice (some ⟨g, 0, none⟩) n n, .slice (some ⟨b, off, none⟩) 1 1]).run Tryz.prog W2 = .ok (.int .i64 1) W3 := fun ty => by simpa using hr ty
    have hB3 : BF W3 g n (List.replicate 1 q) := by simpa using hB3
    have hBW3 := hBW.trans hb3
    clear hA hB hb3 hBW
    go_wp2_with (at_builtin; refine Lib.wpList_copy_run _ rfl _ _ 23 23 rfl _ _ rfl rfl (hr _) ?_)
    go_loopg [8] (n - 1) (fun k s8 wr => ∃ m : Nat, s8 = .int .i64 (m : Int) ∧ 0 < m ∧ Hid (m + k = n) ∧ BF wr g n (List.replicate m q) ∧ Below w.heap.size w wr)
    case atStart => exact ⟨1, rfl, by omega, Lib.hid (by omega), hB3, hBW3⟩
    case round =>
      clear hB3 hBW3 hr
      obtain ⟨m, rfl, hm0, hmk, hB, hBW⟩ := hrel
      by_cases hmn : m < n
      · have hB' : BF wr.drew g n (List.replicate m q) := hB.below (below_drew' _)
        obtain ⟨mm, hmm, hml, hmr, hmp⟩ : ∃ mm, mm = Nat.min m (n - m) ∧ mm ≤ m ∧ mm ≤ n - m ∧ 0 < mm :=
          ⟨min m (n - m), rfl, Nat.min_le_left _ _, Nat.min_le_right _ _, by omega⟩
        have hA : PolyAt wr.drew (some ⟨g, 0, none⟩) (List.replicate mm q) := fun j hj => ⟨g, 0, rfl, by
          have h1 : j < m := by simp at hj; omega
          have := hB'.2.2.1 j (by simpa using h1)
          have e1 : (List.replicate m q).getD j 0 = q := by simp [List.getD_eq_getElem?_getD, h1]
          have e2 : (List.replicate mm q).getD j 0 = q := by simp at hj; simp [List.getD_eq_getElem?_getD, hj]
          rw [e1] at this; rw [e2, Nat.zero_add]; exact this⟩
        obtain ⟨W4, hr, hB4, hb4⟩ := copy_bf (P := Tryz.prog) hB' m (n - m) (n - m) hA m n (by rw [List.length_replicate]; exact hmm) (by simp) (by simp; omega) 23 23 _ Tryz.underlying23 size_rat hge
        have HB4 : Hid (BF W4 g n (List.replicate (m + mm) q)) := Lib.hid (by
          have e : (List.replicate m q).take m ++ List.replicate mm q ++ (List.replicate m q).drop (m + (List.replicate mm q).length) = List.replicate (m + mm) q := by
            simp [List.replicate_append_replicate]
          rwa [e] at hB4)
        rw [List.length_replicate] at hr
        have hBW4 := hBW.trans ((below_drew' _).trans hb4)
        clear hB hB' hA hB4 hmm
        have hle : m ≤ n := Nat.le_of_lt hmn
        have hne : ¬ n = m := by omega
        go_wp2_with fail
        go_region_held3 (fun w' => Below w.heap.size w w') (first | assumption | exact hBW.trans (below_drew' _) ) (refine Lib.wp_copy_run _ _ _ 23 23 rfl _ _ rfl rfl (hr _) ?_)
        have e6 : IntKind.i64.wrap ((m : Int) + (mm : Int)) = ((m + mm : Nat) : Int) := by simp [IntKind.wrap, IntKind.bits, IntKind.signed]; omega
        rw [e6]
        go_wp2_with fail
        go_roundg (gk - mm)
        case measure => have := hmk.out; omega
        case rel => exact ⟨m + mm, rfl, by omega, Lib.hid (by have := hmk.out; omega), HB4.out, hBW4⟩
      · have hin : m = n := by have := hmk.out; omega
        subst hin
        clear hn
        have hin : ¬ m < m := by omega
        go_wp2_with fail
        go_ret
        exact ⟨⟨g, rfl, hge, BF.full (by rw [List.length_replicate]; exact hB)⟩, hBW⟩

theorem polyAt_one {W : World} {g : Nat} {s A n c t B m d q} (h0 : W.cell? ⟨g, 0, none⟩ = some (.bool s)) (h1 : W.cell? ⟨g, 1, none⟩ = some (.slice A n c)) (h2 : W.cell? ⟨g, 2, none⟩ = some (.bool t)) (h3 : W.cell? ⟨g, 3, none⟩ = some (.slice B m d)) (h : RatP W s A n c t B m d q) : PolyAt W (some ⟨g, 0, none⟩) [q] := by
  intro j hj
  have : j = 0 := by simp at hj; exact hj
  subst this
  exact ⟨g, 0, rfl, s, A, n, c, t, B, m, d, h0, h1, h2, h3, h⟩

theorem slice_from_zero (W : World) (g n : Nat) : (Instr.slice 23 (.slice (some ⟨g, 0, none⟩) n n) (some (.int .i64 0)) none none).run Tryz.prog W = .ok (.slice (some ⟨g, 0, none⟩) n n) W := by
  have ht' : Tryz.prog.underlying 23 = some (.slice (Tryz.prog.elem 23)) := by simp [Program.elem, Tryz.underlying23]
  rw [run_slice_l W 23 _ _ _ ht' .i64 0 (by omega) (by omega)]
  have he : Tryz.prog.elem 23 = 31 := by simp [Program.elem, Tryz.underlying23]
  have hz : (sizeOf 31).run Tryz.prog W = .ok 4 W := by
    obtain ⟨i, hi, hz⟩ := Option.map_eq_some_iff.1 size_rat
    simp [sizeOf, typeInfo, hi, hz]
  rw [he, hz]
  simp [Result.andThen, sliced, Addr.add]

set_option maxHeartbeats 2000000 in
theorem uni_grown (A : Option Addr) (k c n : Nat) (a : List Rat) (w : World) (hA : PolyAt w A a) (hk : k = a.length) (hn : k ≤ n) (h : n ≤ 1000000) :
    Calls Tryz.prog 61 #[.slice A k c, .int .i64 (n : Int), .int .i64 0] w fun e w' => (∃ g, e = .returned (.slice (some ⟨g, 0, none⟩) n n) ∧ w.heap.size ≤ g ∧ PB w' g (a ++ List.replicate (n - k) 0)) ∧ Below w.heap.size w w' := by
  have hZ := fun W => uni_zero W
  go_enter Tryz.func61, Tryz.ntmps61
  go_wp2_with fail
  refine (hZ _).mono ?_
  rintro e w1 ⟨⟨_, rfl, s, A1, n1, c1, t, B, m, d, rfl, hq⟩, hb⟩
  have hA := hA.below hb
  go_wp2_with fail
  generalize hE : World.alloc _ _ = W2
  have hb2 : Below w1.heap.size w1 W2 := by rw [← hE]; exact below_alloc _ _
  have hone : PolyAt W2 (some ⟨w1.heap.size, 0, none⟩) [0] := polyAt_one (s := s) (A := A1) (n := n1) (c := c1) (t := t) (B := B) (m := m) (d := d) (by rw [← hE]; simp [go_sem]) (by rw [← hE]; simp [go_sem]) (by rw [← hE]; simp [go_sem]) (by rw [← hE]; simp [go_sem]) (hq.below hb2)
  clear hE
  have hA := hA.below hb2
  have hBW := hb.trans (hb2.mono hb.size)
  have hsz := hb.size
  clear hb hb2 hq hZ
  generalize w1.heap.size = g1 at *
  refine (repeat_one _ n 0 W2 hone h).mono ?_
  rintro e w3 ⟨⟨g, rfl, hg, hP⟩, hb⟩
  have hBW3 := hBW.trans (hb.mono hBW.size)
  have hge : w.heap.size ≤ g := Nat.le_trans hBW.size hg
  have hA := hA.below hb
  have hsl := fun W => slice_from_zero W g n
  clear hb hone hBW
  by_cases hk0 : k = 0
  · have ha : a = [] := List.eq_nil_of_length_eq_zero (by omega)
    subst ha
    subst hk0
    have hr := fun ty => run_copy_noneK (P := Tryz.prog) w3 23 23 ty _ 4 (some ⟨g, 0, none⟩) A n n 0 c Tryz.underlying23 size_rat (Nat.zero_min n)
    have HP : Hid (PB w3 g ([] ++ List.replicate (n - 0) 0)) := Lib.hid hP
    clear hA hP hk hn
    go_wp2_with (at_builtin; refine Lib.wpList_copy_run _ rfl _ _ 23 23 rfl _ _ rfl rfl (hr _) ?_)
    go_ret
    exact ⟨⟨g, rfl, hge, HP.out⟩, hBW3⟩
  · obtain ⟨b, off, rfl, _⟩ := hA 0 (by omega)
    have hB : BF w3 g n (List.replicate n 0) := by have := hP.bf; rwa [List.length_replicate] at this
    have hmin : Nat.min k n = k := Nat.min_eq_left hn
    obtain ⟨W4, hr, hB4, hb4⟩ := copy_bf (P := Tryz.prog) hB 0 n n hA k c (by rw [hmin, hk]) (Nat.zero_le _) (by omega) 23 23 _ Tryz.underlying23 size_rat hge
    have hr : ∀ ty, (Builtin.copy_ #[23, 23] ty #[.slice (some ⟨g, 0, none⟩) n n, .slice (some ⟨b, off, none⟩) k c]).run Tryz.prog w3 = .ok (.int .i64 (k : Int)) W4 := fun ty => by rw [hk] at *; simpa using hr ty
    have HP : Hid (PB W4 g (a ++ List.replicate (n - k) 0)) := Lib.hid (by
      refine BF.full ?_
      have e : (List.replicate n (0 : Rat)).take 0 ++ a ++ (List.replicate n (0 : Rat)).drop (0 + a.length) = a ++ List.replicate (n - k) 0 := by
        rw [List.take_zero, List.nil_append, Nat.zero_add, List.drop_replicate, hk]
      rw [e] at hB4
      have e2 : (a ++ List.replicate (n - k) (0 : Rat)).length = n := by simp; omega
      rw [e2]; exact hB4)
    have hBW4 := hBW3.trans hb4
    clear hA hP hB hB4 hb4 hmin
    have Hk := Lib.hid hk
    rw [← hk]
    clear hk
    go_wp2_with (at_builtin; refine Lib.wpList_copy_run _ rfl _ _ 23 23 rfl _ _ rfl rfl (hr _) ?_)
    go_ret
    exact ⟨⟨g, rfl, hge, HP.out⟩, hBW4⟩

end Go.Proofs.YtlklgeidffjidaaGreat

/- The walks of Add and Scale (package univariate). -/
namespace Go.Proofs.YtlklgeidffjidaaGreat
open Go.RowKit
set_option linter.unusedSimpArgs false

/-- No coefficient is so large that a sum or a product could not be made. -/
def Sz (p : List Rat) : Prop := ∀ j, rsz (p.getD j 0) ≤ 68719476736
theorem uni_grown' (A : Option Addr) (k c n : Nat) (z : Int) (a : List Rat) (w : World) (hA : PolyAt w A a) (hk : k = a.length) (hn : k ≤ n) (h : n ≤ 1000000) (hz : z = (n : Int)) :
    Calls Tryz.prog 61 #[.slice A k c, .int .i64 z, .int .i64 0] w fun e w' => (∃ g, e = .returned (.slice (some ⟨g, 0, none⟩) n n) ∧ w.heap.size ≤ g ∧ PB w' g (a ++ List.replicate (n - k) 0)) ∧ Below w.heap.size w w' := by
  subst hz; exact uni_grown A k c n a w hA hk hn h
theorem getD_pad (p : List Rat) (k j : Nat) : (p ++ List.replicate k 0).getD j 0 = p.getD j 0 := by
  by_cases h : j < p.length
  · rw [List.getD_eq_getElem?_getD, List.getD_eq_getElem?_getD, List.getElem?_append_left h]
  · rw [getD_past p (by omega), List.getD_eq_getElem?_getD, List.getElem?_append_right (by omega)]
    by_cases h2 : j - p.length < k <;> simp [h2]
theorem padd_coef {l p q : List Rat} (h : ∀ j, l.getD j 0 = p.getD j 0 + q.getD j 0) : ptrim l = padd p q :=
  (ptrim_PC l).ext_coef (padd_PC p q) fun i => by rw [ptrim_getD, h]; unfold padd; rw [ptrim_getD, zadd_getD]

theorem ptrim_self (l : List Rat) : l.take (ptrim l).length = ptrim l :=
  ptrim_take _ (ptrim_length_le l) (fun k hk _ => by rw [← ptrim_getD]; exact getD_past _ hk) (fun k hk => by rw [← ptrim_getD]; exact ptrim_PC l k hk)
theorem uni_norm_pb (g N : Nat) (l : List Rat) (w : World) (hP : PB w g l) (hl : l.length = N) (hN : N ≤ 1099511627776) :
    Calls Tryz.prog 63 #[.slice (some ⟨g, 0, none⟩) N N] w fun e w' => (∃ v, e = .returned v ∧ IsPoly w' v (ptrim l)) ∧ Below w.heap.size w w' := by
  refine (uni_norm (some ⟨g, 0, none⟩) N N l w hP.poly hl.symm (Nat.le_refl _) hN).mono ?_
  rintro e w1 ⟨rfl, hb⟩
  refine ⟨⟨_, rfl, _, _, rfl, ?_, by rw [← hl]; exact ptrim_length_le l⟩, hb⟩
  have := (hP.below hb).poly.take (ptrim l).length
  rwa [ptrim_self] at this

/-- A polynomial whose block is none of the first B blocks. -/
def IsNew (B : Nat) (w : World) (v : Value) (p : List Rat) : Prop := ∃ A c, v = .slice A p.length c ∧ PolyAt w A p ∧ p.length ≤ c ∧ ∀ a, A = some a → p ≠ [] → B ≤ a.block ∧ a.off = 0
theorem IsNew.poly {B : Nat} {w : World} {v : Value} {p : List Rat} (h : IsNew B w v p) : IsPoly w v p := by
  obtain ⟨A, c, e, h1, h2, _⟩ := h; exact ⟨A, c, e, h1, h2⟩
theorem IsNew.below {B : Nat} {w w' : World} {v : Value} {p : List Rat} (h : IsNew B w v p) (hb : Below w.heap.size w w') : IsNew B w' v p := by
  obtain ⟨A, c, e, h1, h2, h3⟩ := h; exact ⟨A, c, e, h1.below hb, h2, h3⟩
theorem IsNew.mono {B C : Nat} {w : World} {v : Value} {p : List Rat} (h : IsNew B w v p) (hC : C ≤ B) : IsNew C w v p := by
  obtain ⟨A, c, e, h1, h2, h3⟩ := h; exact ⟨A, c, e, h1, h2, fun a ha h0 => ⟨Nat.le_trans hC (h3 a ha h0).1, (h3 a ha h0).2⟩⟩
theorem IsNew.nil (B : Nat) (w : World) (c : Nat) : IsNew B w (.slice none 0 c) [] := ⟨none, c, rfl, PolyAt.nil w none, Nat.zero_le _, fun a h _ => by cases h⟩
theorem uni_norm_new (B g N : Nat) (l : List Rat) (w : World) (hP : PB w g l) (hl : l.length = N) (hN : N ≤ 1099511627776) (hB : B ≤ g) :
    Calls Tryz.prog 63 #[.slice (some ⟨g, 0, none⟩) N N] w fun e w' => (∃ v, e = .returned v ∧ IsNew B w' v (ptrim l)) ∧ Below w.heap.size w w' := by
  refine (uni_norm (some ⟨g, 0, none⟩) N N l w hP.poly hl.symm (Nat.le_refl _) hN).mono ?_
  rintro e w1 ⟨rfl, hb⟩
  refine ⟨⟨_, rfl, _, _, rfl, ?_, by rw [← hl]; exact ptrim_length_le l, fun a ha _ => by cases ha; exact ⟨hB, rfl⟩⟩, hb⟩
  have := (hP.below hb).poly.take (ptrim l).length
  rwa [ptrim_self] at this

set_option maxRecDepth 100000 in
set_option maxHeartbeats 4000000 in
theorem uni_add (u v : Value) (p q : List Rat) (w : World) (hu : IsPoly w u p) (hv : IsPoly w v q) (hlp : p.length ≤ 1000000) (hlq : q.length ≤ 1000000) (hsp : Sz p) (hsq : Sz q) :
    Calls Tryz.prog 16 #[u, v] w fun e w' => (∃ v, e = .returned v ∧ IsPoly w' v (padd p q)) ∧ Below w.heap.size w w' := by
  obtain ⟨A, c, rfl, hA, hc⟩ := hu
  obtain ⟨B, d, rfl, hB, hd⟩ := hv
  have hG := fun z hz => uni_grown' A p.length c (max p.length q.length) z p w hA rfl (by omega) (by omega) hz
  have HP : ∀ l, Hid ((∀ j, l.getD j 0 = if j < q.length then p.getD j 0 + q.getD j 0 else p.getD j 0) → ptrim l = padd p q) := fun l => Lib.hid (fun h => padd_coef fun j => by
    rw [h]; split
    · rfl
    · rw [getD_past q (by omega)]; grind)
  obtain ⟨n, Hn⟩ : ∃ n, Hid (n = p.length) := ⟨_, Lib.hid rfl⟩
  obtain ⟨m, Hm⟩ : ∃ m, Hid (m = q.length) := ⟨_, Lib.hid rfl⟩
  obtain ⟨N, HN⟩ : ∃ N, Hid (N = max p.length q.length) := ⟨_, Lib.hid rfl⟩
  rw [← HN.out] at hG
  rw [← Hn.out] at hG hlp hc ⊢
  rw [← Hm.out] at hlq hd ⊢
  have HNm : Hid (m ≤ N ∧ N ≤ 1000000) := Lib.hid (by have := HN.out; have := Hn.out; have := Hm.out; omega)
  have hG := hG (max (n : Int) (m : Int)) (by have := HN.out; have := Hn.out; have := Hm.out; omega)
  go_enter Tryz.func16, Tryz.ntmps16
  go_wp2_with fail
  refine hG.mono ?_
  rintro e w1 ⟨⟨g, rfl, hge, hP⟩, hb⟩
  clear hG hA
  have hP0 : ∀ j, (p ++ List.replicate (N - n) 0).getD j 0 = if j < 0 then p.getD j 0 + q.getD j 0 else p.getD j 0 := fun j => by rw [getD_pad, if_neg (by omega)]
  have hPl : (p ++ List.replicate (N - n) (0 : Rat)).length = N := by have := HN.out; have := Hn.out; simp; omega
  generalize p ++ List.replicate (N - n) (0 : Rat) = l0 at *
  have HP0 := Lib.hid hP0
  have HPl := Lib.hid hPl
  clear hP0 hPl
  obtain ⟨hmN, hNb⟩ := HNm.out
  go_wp2_with fail
  go_loopg [17] m (fun k s17 wr => ∃ (i : Nat) (l : List Rat), s17 = .int .i64 (i : Int) ∧ Hid (i + k = m) ∧ PB wr g l ∧ Hid (l.length = N) ∧ Hid (∀ j, l.getD j 0 = if j < i then p.getD j 0 + q.getD j 0 else p.getD j 0) ∧ Below w.heap.size w wr)
  case atStart => exact ⟨0, l0, rfl, Lib.hid (by omega), hP, HPl, HP0, hb⟩
  case round =>
    clear hP HP0 HPl hb
    obtain ⟨i, l, rfl, hik, hP, Hl, HL, hBW⟩ := hrel
    by_cases h0 : i < m
    · have hiN : i < N := by omega
      obtain ⟨b, off, rfl, h⟩ := (hB.below hBW) i (by rw [← Hm.out]; exact h0)
      have hO := hP.1 i (by rw [Hl.out]; exact hiN)
      have hlt := h.lt
      have hgl := hO.lt
      obtain ⟨s1, A1, n1, c1, t1, B1, m1, d1, h1, h2, h3, h4, h5⟩ := h
      obtain ⟨s2, A2, n2, c2, t2, B2, m2, d2, k1, k2, k3, k4, k5⟩ := hO
      have hfz := hP.2.1
      have HF := Lib.hid (hP.2.1)
      go_wp2_with fail
      generalize hW : World.alloc _ _ = W
      have hBa : Below wr.heap.size wr W := by rw [← hW]; exact below_alloc _ _
      have j1 : W.cell? ⟨wr.heap.size, 0, none⟩ = some (.bool s1) := by rw [← hW]; simp [go_sem]
      have j2 : W.cell? ⟨wr.heap.size, 1, none⟩ = some (.slice A1 n1 c1) := by rw [← hW]; simp [go_sem]
      have j3 : W.cell? ⟨wr.heap.size, 2, none⟩ = some (.bool t1) := by rw [← hW]; simp [go_sem]
      have j4 : W.cell? ⟨wr.heap.size, 3, none⟩ = some (.slice B1 m1 d1) := by rw [← hW]; simp [go_sem]
      clear hW
      have k1 := cell_below k1 hBa
      have k2 := cell_below k2 hBa
      have k3 := cell_below k3 hBa
      have k4 := cell_below k4 hBa
      have hfz : ∀ o, W.frozen? ⟨g, o, none⟩ = false := fun o => ((kept_cells hBa).2 _ _ hgl).trans (hfz o)
      have hP := hP.below hBa
      have hBW := hBW.trans (hBa.mono hBW.size)
      have hli : l.getD i 0 = p.getD i 0 := by rw [HL.out i, if_neg (by omega)]
      rw [hli] at k5
      clear hli
      have hadd := fun W' (hW' : Below W.heap.size W W') => rat_Add _ _ (p.getD i 0) (q.getD i 0) W' (RatP.is ((k5.below hBa).below hW')) (RatP.is ((h5.below hBa).below hW')) (hsp i) (hsq i)
      clear k5 h5 h1 h2 h3 h4 HF
      obtain ⟨Z, HZ⟩ : ∃ Z, Hid (Z = p.getD i 0 + q.getD i 0) := ⟨_, Lib.hid rfl⟩
      rw [← HZ.out] at hadd
      clear hBa
      have hgl := hP.2.2
      go_region_law (first | (go_simp; go_at_call 62; refine (hadd _ (below_drew' _)).mono ?_; rintro e w2 ⟨⟨_, rfl, s3, A3, n3, c3, t3, B3, m3, d3, rfl, hq⟩, hb2⟩; have hb3 : Below W.heap.size W w2 := (below_drew' _).trans hb2; have i1 := cell_below k1 hb3; have i2 := cell_below k2 hb3; have i3 := cell_below k3 hb3; have i4 := cell_below k4 hb3; have hfz2 : ∀ o, w2.frozen? ⟨g, o, none⟩ = false := fun o => ((kept_cells hb3).2 _ _ hgl).trans (hfz o)))
      all_goals
        have hP2 := (hP.below hb3).set (i := i) (by rw [Hl.out]; exact hiN) hq
        have hBW2 := hBW.trans ((hb3.mono hBW.size).trans (below_st4 (g := g) hge (i * 4) (s := s3) (A := A3) (n := n3) (c := c3) (t := t3) (B := B3) (m := m3) (d := d3)))
        clear k1 k2 k3 k4 j1 j2 j3 j4 i1 i2 i3 i4 hfz hfz2
        go_wp2_with fail
        go_roundg (gk - 1)
        case measure => have := hik.out; omega
        case rel => exact ⟨i + 1, l.set i Z, by simp, Lib.hid (by have := hik.out; omega), hP2, Lib.hid (by rw [List.length_set]; exact Hl.out), Lib.hid (fun j => by
          rw [getD_set]
          have hL := HL.out j
          by_cases hj : i = j
          · subst hj
            rw [if_pos ⟨rfl, by rw [Hl.out]; exact hiN⟩, if_pos (by omega), HZ.out]
          · rw [if_neg (by omega), hL]
            by_cases hj2 : j < i
            · rw [if_pos hj2, if_pos (by omega)]
            · rw [if_neg hj2, if_neg (by omega)]), hBW2⟩
    · have hin : i = m := by have := hik.out; omega
      subst hin
      have hT := (HP l).out (fun j => by rw [HL.out j, Hm.out])
      have hN := fun W' (hW' : Below wr.heap.size wr W') => uni_norm_pb g N l W' (hP.below hW') Hl.out (by omega)
      rw [hT] at hN
      clear hT
      go_wp2_with fail
      refine (hN _ (Below.refl _ _)).mono ?_
      rintro e w2 ⟨⟨v, rfl, hres⟩, hb2⟩
      have hBW2 := hBW.trans (hb2.mono hBW.size)
      go_wp2_with fail
      go_ret
      exact ⟨⟨_, rfl, hres⟩, hBW2⟩

theorem take_succ_getD {p : List Rat} {i : Nat} (h : i < p.length) : p.take (i + 1) = p.take i ++ [p.getD i 0] := by
  rw [List.take_succ_eq_append_getElem h]; simp [List.getD_eq_getElem?_getD, List.getElem?_eq_getElem h]

set_option maxRecDepth 100000 in
set_option maxHeartbeats 4000000 in
theorem uni_scale (u v : Value) (x : Rat) (q : List Rat) (w : World) (hu : IsRat w u x) (hv : IsPoly w v q) (hlq : q.length ≤ 1000000) (hsx : rsz x ≤ 68719476736) (hsq : Sz q) :
    Calls Tryz.prog 21 #[u, v] w fun e w' => (∃ v, e = .returned v ∧ IsPoly w' v (pscale x q)) ∧ Below w.heap.size w w' := by
  obtain ⟨s, A, n, c, t, B, k, d, rfl, hx⟩ := hu
  obtain ⟨C, f, rfl, hC, hf⟩ := hv
  have HP : ∀ l : List Rat, Hid (l = (q.take q.length).map (x * ·) → ptrim l = pscale x q) := fun l => Lib.hid (fun h => by rw [h, List.take_length]; rfl)
  obtain ⟨m, Hm⟩ : ∃ m, Hid (m = q.length) := ⟨_, Lib.hid rfl⟩
  rw [← Hm.out] at hlq hf HP ⊢
  go_enter Tryz.func21, Tryz.ntmps21
  go_wp2_with (at_make; refine wp_make_rats rfl _ _ 23 31 rfl Tryz.underlying23 info_rat .i64 .i64 _ _ m rfl rfl rfl rfl (by omega) ?_)
  intro W2 hB hb2
  have hBW : Below w.heap.size w W2 := (below_alloc _ _).trans (hb2.mono (by omega))
  have hX : RatAt W2 w.heap.size 0 x := RatAt.below ⟨s, A, n, c, t, B, k, d, by simp [go_sem], by simp [go_sem], by simp [go_sem], by simp [go_sem], hx.below (below_alloc _ _)⟩ (hb2.mono (by simp))
  have hge : w.heap.size < w.heap.size + 1 := by omega
  clear hb2 hx
  generalize w.heap.size + 1 = g at *
  go_wp2_with fail
  go_loopg [13] m (fun k s13 wr => ∃ (i : Nat), s13 = .int .i64 (i : Int) ∧ Hid (i + k = m) ∧ BF wr g m ((q.take i).map (x * ·)) ∧ RatAt wr w.heap.size 0 x ∧ Below w.heap.size w wr)
  case atStart => exact ⟨0, rfl, Lib.hid (by omega), hB, hX, hBW⟩
  case round =>
    clear hB hX hBW
    obtain ⟨i, rfl, hik, hB, hX, hBW⟩ := hrel
    by_cases h0 : i < m
    · obtain ⟨b, off, rfl, h⟩ := (hC.below hBW) i (by rw [← Hm.out]; exact h0)
      have hO := (hB.2.1 i h0)
      have hlt := h.lt
      have hgl := hB.2.2.2.2
      obtain ⟨s1, A1, n1, c1, t1, B1, m1, d1, h1, h2, h3, h4, h5⟩ := h
      have hxl := hX.lt
      obtain ⟨s, A, n, c, t, B, k, d, x1, x2, x3, x4, x5⟩ := id hX
      obtain ⟨u0, u1, u2, u3, k1, k2, k3, k4, _⟩ := hO
      simp only [Nat.zero_add] at x1 x2 x3 x4
      have hfz := hB.2.2.2.1
      have hmul := fun W' (hW' : Below wr.heap.size wr W') => rat_Mul _ _ x (q.getD i 0) W' (RatP.is (x5.below hW')) (RatP.is (h5.below hW')) hsx (hsq i)
      obtain ⟨Z, HZ⟩ : ∃ Z, Hid (Z = x * q.getD i 0) := ⟨_, Lib.hid rfl⟩
      rw [← HZ.out] at hmul
      clear x5 h5
      go_wp2_with fail
      refine (hmul _ (below_alloc _ _)).mono ?_
      rintro e w2 ⟨⟨_, rfl, s3, A3, n3, c3, t3, B3, m3, d3, rfl, hq⟩, hb2⟩
      have hb3 : Below wr.heap.size wr w2 := (below_alloc _ _).trans (hb2.mono (by simp))
      have k1 := cell_below k1 hb3
      have k2 := cell_below k2 hb3
      have k3 := cell_below k3 hb3
      have k4 := cell_below k4 hb3
      have hfz : ∀ o, w2.frozen? ⟨g, o, none⟩ = false := fun o => ((kept_cells hb3).2 _ _ hgl).trans (hfz o)
      have hB3 := hB.below hb3
      have hlen : ((q.take i).map (x * ·)).length = i := by rw [List.length_map, List.length_take]; have := Hm.out; omega
      have hB2 := hB3.push (by rw [hlen]; exact h0) hq
      have hX2 := (hX.below hb3).other (s := s3) (A := A3) (n := n3) (c := c3) (t := t3) (B := B3) (m := m3) (d := d3) (hB3.2.1 i h0) (Or.inl (by omega))
      have HB2 : Hid (BF (st4 w2 g (i * 4) s3 A3 n3 c3 t3 B3 m3 d3) g m ((q.take (i + 1)).map (x * ·))) := Lib.hid (by
        rw [hlen] at hB2
        rw [take_succ_getD (by rw [← Hm.out]; exact h0), List.map_append, List.map_cons, List.map_nil, ← HZ.out]
        exact hB2)
      have hBW2 := hBW.trans ((hb3.mono hBW.size).trans (below_st4 (g := g) (by omega) (i * 4) (s := s3) (A := A3) (n := n3) (c := c3) (t := t3) (B := B3) (m := m3) (d := d3)))
      clear hB hB2 hB3 hX hlen x1 x2 x3 x4 h1 h2 h3 h4
      go_wp2_with fail
      go_roundg (gk - 1)
      case measure => have := hik.out; omega
      case rel => exact ⟨i + 1, by simp, Lib.hid (by have := hik.out; omega), HB2.out, hX2, hBW2⟩
    · have hin : i = m := by have := hik.out; omega
      subst hin
      have hlen : ((q.take i).map (x * ·)).length = i := by rw [List.length_map, List.length_take]; have := Hm.out; omega
      have hPB : PB wr g ((q.take i).map (x * ·)) := BF.full (by rw [hlen]; exact hB)
      have hN := uni_norm_pb g i _ wr hPB hlen (by omega)
      rw [(HP _).out rfl] at hN
      clear HP hB hX hPB hlen
      go_wp2_with fail
      refine hN.mono ?_
      rintro e w2 ⟨⟨v, rfl, hres⟩, hb2⟩
      have hBW2 := hBW.trans (hb2.mono hBW.size)
      go_wp2_with fail
      go_ret
      exact ⟨⟨_, rfl, hres⟩, hBW2⟩

end Go.Proofs.YtlklgeidffjidaaGreat

/- The walks of Mul and Sub (package univariate). -/
namespace Go.Proofs.YtlklgeidffjidaaGreat
open Go.RowKit
set_option linter.unusedSimpArgs false

theorem set4_other {W : World} {g b o p0 p1 p2 p3 : Nat} {u0 u1 u2 u3 : Value} (h : b ≠ g) : ((((W.setCell ⟨g, p0, none⟩ u0).setCell ⟨g, p1, none⟩ u1).setCell ⟨g, p2, none⟩ u2).setCell ⟨g, p3, none⟩ u3).cell? ⟨b, o, none⟩ = W.cell? ⟨b, o, none⟩ := by
  rw [World.cell?_setCell_other _ _ _ _ (addr_ne (by omega)), World.cell?_setCell_other _ _ _ _ (addr_ne (by omega)), World.cell?_setCell_other _ _ _ _ (addr_ne (by omega)), World.cell?_setCell_other _ _ _ _ (addr_ne (by omega))]
theorem keepO4 {B g p0 p1 p2 p3 : Nat} {w0 W : World} {u0 u1 u2 u3 : Value} {b0 o0 b1 o1 b2 o2 b3 o3 : Nat} {v0 v1 v2 v3 : Value} (hB : B ≤ g) (l0 : b0 ≠ g) (l1 : b1 ≠ g) (l2 : b2 ≠ g) (l3 : b3 ≠ g)
    (h : Below B w0 W ∧ W.cell? ⟨b0, o0, none⟩ = some v0 ∧ W.cell? ⟨b1, o1, none⟩ = some v1 ∧ W.cell? ⟨b2, o2, none⟩ = some v2 ∧ W.cell? ⟨b3, o3, none⟩ = some v3) :
    Below B w0 ((((W.setCell ⟨g, p0, none⟩ u0).setCell ⟨g, p1, none⟩ u1).setCell ⟨g, p2, none⟩ u2).setCell ⟨g, p3, none⟩ u3) ∧ ((((W.setCell ⟨g, p0, none⟩ u0).setCell ⟨g, p1, none⟩ u1).setCell ⟨g, p2, none⟩ u2).setCell ⟨g, p3, none⟩ u3).cell? ⟨b0, o0, none⟩ = some v0 ∧ ((((W.setCell ⟨g, p0, none⟩ u0).setCell ⟨g, p1, none⟩ u1).setCell ⟨g, p2, none⟩ u2).setCell ⟨g, p3, none⟩ u3).cell? ⟨b1, o1, none⟩ = some v1 ∧ ((((W.setCell ⟨g, p0, none⟩ u0).setCell ⟨g, p1, none⟩ u1).setCell ⟨g, p2, none⟩ u2).setCell ⟨g, p3, none⟩ u3).cell? ⟨b2, o2, none⟩ = some v2 ∧ ((((W.setCell ⟨g, p0, none⟩ u0).setCell ⟨g, p1, none⟩ u1).setCell ⟨g, p2, none⟩ u2).setCell ⟨g, p3, none⟩ u3).cell? ⟨b3, o3, none⟩ = some v3 :=
  ⟨h.1.trans (below_set4 hB _ _ _ _ _ _ _ _), (set4_other l0).trans h.2.1, (set4_other l1).trans h.2.2.1, (set4_other l2).trans h.2.2.2.1, (set4_other l3).trans h.2.2.2.2⟩
theorem keepO8 {B g p0 p1 p2 p3 : Nat} {w0 W : World} {u0 u1 u2 u3 : Value} {b0 o0 b1 o1 b2 o2 b3 o3 b4 o4 b5 o5 b6 o6 b7 o7 : Nat} {v0 v1 v2 v3 v4 v5 v6 v7 : Value} (hB : B ≤ g) (l0 : b0 ≠ g) (l1 : b1 ≠ g) (l2 : b2 ≠ g) (l3 : b3 ≠ g) (l4 : b4 ≠ g) (l5 : b5 ≠ g) (l6 : b6 ≠ g) (l7 : b7 ≠ g)
    (h : Below B w0 W ∧ W.cell? ⟨b0, o0, none⟩ = some v0 ∧ W.cell? ⟨b1, o1, none⟩ = some v1 ∧ W.cell? ⟨b2, o2, none⟩ = some v2 ∧ W.cell? ⟨b3, o3, none⟩ = some v3 ∧ W.cell? ⟨b4, o4, none⟩ = some v4 ∧ W.cell? ⟨b5, o5, none⟩ = some v5 ∧ W.cell? ⟨b6, o6, none⟩ = some v6 ∧ W.cell? ⟨b7, o7, none⟩ = some v7) :
    Below B w0 ((((W.setCell ⟨g, p0, none⟩ u0).setCell ⟨g, p1, none⟩ u1).setCell ⟨g, p2, none⟩ u2).setCell ⟨g, p3, none⟩ u3) ∧ ((((W.setCell ⟨g, p0, none⟩ u0).setCell ⟨g, p1, none⟩ u1).setCell ⟨g, p2, none⟩ u2).setCell ⟨g, p3, none⟩ u3).cell? ⟨b0, o0, none⟩ = some v0 ∧ ((((W.setCell ⟨g, p0, none⟩ u0).setCell ⟨g, p1, none⟩ u1).setCell ⟨g, p2, none⟩ u2).setCell ⟨g, p3, none⟩ u3).cell? ⟨b1, o1, none⟩ = some v1 ∧ ((((W.setCell ⟨g, p0, none⟩ u0).setCell ⟨g, p1, none⟩ u1).setCell ⟨g, p2, none⟩ u2).setCell ⟨g, p3, none⟩ u3).cell? ⟨b2, o2, none⟩ = some v2 ∧ ((((W.setCell ⟨g, p0, none⟩ u0).setCell ⟨g, p1, none⟩ u1).setCell ⟨g, p2, none⟩ u2).setCell ⟨g, p3, none⟩ u3).cell? ⟨b3, o3, none⟩ = some v3 ∧ ((((W.setCell ⟨g, p0, none⟩ u0).setCell ⟨g, p1, none⟩ u1).setCell ⟨g, p2, none⟩ u2).setCell ⟨g, p3, none⟩ u3).cell? ⟨b4, o4, none⟩ = some v4 ∧ ((((W.setCell ⟨g, p0, none⟩ u0).setCell ⟨g, p1, none⟩ u1).setCell ⟨g, p2, none⟩ u2).setCell ⟨g, p3, none⟩ u3).cell? ⟨b5, o5, none⟩ = some v5 ∧ ((((W.setCell ⟨g, p0, none⟩ u0).setCell ⟨g, p1, none⟩ u1).setCell ⟨g, p2, none⟩ u2).setCell ⟨g, p3, none⟩ u3).cell? ⟨b6, o6, none⟩ = some v6 ∧ ((((W.setCell ⟨g, p0, none⟩ u0).setCell ⟨g, p1, none⟩ u1).setCell ⟨g, p2, none⟩ u2).setCell ⟨g, p3, none⟩ u3).cell? ⟨b7, o7, none⟩ = some v7 :=
  ⟨h.1.trans (below_set4 hB _ _ _ _ _ _ _ _), (set4_other l0).trans h.2.1, (set4_other l1).trans h.2.2.1, (set4_other l2).trans h.2.2.2.1, (set4_other l3).trans h.2.2.2.2.1, (set4_other l4).trans h.2.2.2.2.2.1, (set4_other l5).trans h.2.2.2.2.2.2.1, (set4_other l6).trans h.2.2.2.2.2.2.2.1, (set4_other l7).trans h.2.2.2.2.2.2.2.2⟩
theorem keepO12 {B g p0 p1 p2 p3 : Nat} {w0 W : World} {u0 u1 u2 u3 : Value} {b0 o0 b1 o1 b2 o2 b3 o3 b4 o4 b5 o5 b6 o6 b7 o7 b8 o8 b9 o9 b10 o10 b11 o11 : Nat} {v0 v1 v2 v3 v4 v5 v6 v7 v8 v9 v10 v11 : Value} (hB : B ≤ g) (l0 : b0 ≠ g) (l1 : b1 ≠ g) (l2 : b2 ≠ g) (l3 : b3 ≠ g) (l4 : b4 ≠ g) (l5 : b5 ≠ g) (l6 : b6 ≠ g) (l7 : b7 ≠ g) (l8 : b8 ≠ g) (l9 : b9 ≠ g) (l10 : b10 ≠ g) (l11 : b11 ≠ g)
    (h : Below B w0 W ∧ W.cell? ⟨b0, o0, none⟩ = some v0 ∧ W.cell? ⟨b1, o1, none⟩ = some v1 ∧ W.cell? ⟨b2, o2, none⟩ = some v2 ∧ W.cell? ⟨b3, o3, none⟩ = some v3 ∧ W.cell? ⟨b4, o4, none⟩ = some v4 ∧ W.cell? ⟨b5, o5, none⟩ = some v5 ∧ W.cell? ⟨b6, o6, none⟩ = some v6 ∧ W.cell? ⟨b7, o7, none⟩ = some v7 ∧ W.cell? ⟨b8, o8, none⟩ = some v8 ∧ W.cell? ⟨b9, o9, none⟩ = some v9 ∧ W.cell? ⟨b10, o10, none⟩ = some v10 ∧ W.cell? ⟨b11, o11, none⟩ = some v11) :
    Below B w0 ((((W.setCell ⟨g, p0, none⟩ u0).setCell ⟨g, p1, none⟩ u1).setCell ⟨g, p2, none⟩ u2).setCell ⟨g, p3, none⟩ u3) ∧ ((((W.setCell ⟨g, p0, none⟩ u0).setCell ⟨g, p1, none⟩ u1).setCell ⟨g, p2, none⟩ u2).setCell ⟨g, p3, none⟩ u3).cell? ⟨b0, o0, none⟩ = some v0 ∧ ((((W.setCell ⟨g, p0, none⟩ u0).setCell ⟨g, p1, none⟩ u1).setCell ⟨g, p2, none⟩ u2).setCell ⟨g, p3, none⟩ u3).cell? ⟨b1, o1, none⟩ = some v1 ∧ ((((W.setCell ⟨g, p0, none⟩ u0).setCell ⟨g, p1, none⟩ u1).setCell ⟨g, p2, none⟩ u2).setCell ⟨g, p3, none⟩ u3).cell? ⟨b2, o2, none⟩ = some v2 ∧ ((((W.setCell ⟨g, p0, none⟩ u0).setCell ⟨g, p1, none⟩ u1).setCell ⟨g, p2, none⟩ u2).setCell ⟨g, p3, none⟩ u3).cell? ⟨b3, o3, none⟩ = some v3 ∧ ((((W.setCell ⟨g, p0, none⟩ u0).setCell ⟨g, p1, none⟩ u1).setCell ⟨g, p2, none⟩ u2).setCell ⟨g, p3, none⟩ u3).cell? ⟨b4, o4, none⟩ = some v4 ∧ ((((W.setCell ⟨g, p0, none⟩ u0).setCell ⟨g, p1, none⟩ u1).setCell ⟨g, p2, none⟩ u2).setCell ⟨g, p3, none⟩ u3).cell? ⟨b5, o5, none⟩ = some v5 ∧ ((((W.setCell ⟨g, p0, none⟩ u0).setCell ⟨g, p1, none⟩ u1).setCell ⟨g, p2, none⟩ u2).setCell ⟨g, p3, none⟩ u3).cell? ⟨b6, o6, none⟩ = some v6 ∧ ((((W.setCell ⟨g, p0, none⟩ u0).setCell ⟨g, p1, none⟩ u1).setCell ⟨g, p2, none⟩ u2).setCell ⟨g, p3, none⟩ u3).cell? ⟨b7, o7, none⟩ = some v7 ∧ ((((W.setCell ⟨g, p0, none⟩ u0).setCell ⟨g, p1, none⟩ u1).setCell ⟨g, p2, none⟩ u2).setCell ⟨g, p3, none⟩ u3).cell? ⟨b8, o8, none⟩ = some v8 ∧ ((((W.setCell ⟨g, p0, none⟩ u0).setCell ⟨g, p1, none⟩ u1).setCell ⟨g, p2, none⟩ u2).setCell ⟨g, p3, none⟩ u3).cell? ⟨b9, o9, none⟩ = some v9 ∧ ((((W.setCell ⟨g, p0, none⟩ u0).setCell ⟨g, p1, none⟩ u1).setCell ⟨g, p2, none⟩ u2).setCell ⟨g, p3, none⟩ u3).cell? ⟨b10, o10, none⟩ = some v10 ∧ ((((W.setCell ⟨g, p0, none⟩ u0).setCell ⟨g, p1, none⟩ u1).setCell ⟨g, p2, none⟩ u2).setCell ⟨g, p3, none⟩ u3).cell? ⟨b11, o11, none⟩ = some v11 :=
  ⟨h.1.trans (below_set4 hB _ _ _ _ _ _ _ _), (set4_other l0).trans h.2.1, (set4_other l1).trans h.2.2.1, (set4_other l2).trans h.2.2.2.1, (set4_other l3).trans h.2.2.2.2.1, (set4_other l4).trans h.2.2.2.2.2.1, (set4_other l5).trans h.2.2.2.2.2.2.1, (set4_other l6).trans h.2.2.2.2.2.2.2.1, (set4_other l7).trans h.2.2.2.2.2.2.2.2.1, (set4_other l8).trans h.2.2.2.2.2.2.2.2.2.1, (set4_other l9).trans h.2.2.2.2.2.2.2.2.2.2.1, (set4_other l10).trans h.2.2.2.2.2.2.2.2.2.2.2.1, (set4_other l11).trans h.2.2.2.2.2.2.2.2.2.2.2.2⟩
theorem rat_pow_add (x : Rat) (i o : Nat) : x ^ (i + o) = x ^ i * x ^ o := by
  induction o with
  | zero => rw [Nat.add_zero, Rat.pow_zero, Rat.mul_one]
  | succ o ih => rw [← Nat.add_assoc, Rat.pow_succ, ih, Rat.pow_succ, Rat.mul_assoc]
theorem rsz_num_zero {q : Rat} (h : q = 0) : rsz q = 1 := by rw [h]; exact rsz_zero

set_option maxRecDepth 100000 in
set_option maxHeartbeats 8000000 in
theorem uni_mul_pos (u v : Value) (p q : List Rat) (w : World) (hu : IsPoly w u p) (hv : IsPoly w v q) (hlp : p.length ≤ 400000) (hlq : q.length ≤ 400000) (hp0 : 0 < p.length) (hq0 : 0 < q.length) (S T : Nat) (hsp : SzB p S) (hsq : SzB q T) (hst : 1 + p.length * (S + T + 1) ≤ 68719476736) :
    Calls Tryz.prog 17 #[u, v] w fun e w' => (∃ v, e = .returned v ∧ IsNew w.heap.size w' v (pmul p q)) ∧ Below w.heap.size w w' := by
  obtain ⟨A, c, rfl, hA, hc⟩ := hu
  obtain ⟨B, d, rfl, hB, hd⟩ := hv
  have hG := fun z hz => uni_grown' none 0 0 (p.length + q.length - 1) z [] w (PolyAt.nil w none) rfl (by omega) (by omega) hz
  have HP : ∀ l : List Rat, Hid ((∀ x, ev l x = ev (p.take p.length) x * ev q x) → ptrim l = pmul p q) := fun l => Lib.hid (fun h => by
    rw [List.take_length] at h
    exact ptrim_eq (pmul_PC p q) (fun x => by rw [ev_pmul]; exact h x))
  obtain ⟨n, Hn⟩ : ∃ n, Hid (n = p.length) := ⟨_, Lib.hid rfl⟩
  obtain ⟨m, Hm⟩ : ∃ m, Hid (m = q.length) := ⟨_, Lib.hid rfl⟩
  obtain ⟨N, HN⟩ : ∃ N, Hid (N = p.length + q.length - 1) := ⟨_, Lib.hid rfl⟩
  have hG := hG ((n : Int) + (m : Int) - 1) (by have := Hn.out; have := Hm.out; omega)
  rw [← HN.out] at hG
  rw [← Hn.out] at HP hlp hc hp0 hst ⊢
  rw [← Hm.out] at hlq hd hq0 ⊢
  have hNe : N + 1 = n + m := by have := HN.out; have := Hn.out; have := Hm.out; omega
  have HNe := Lib.hid hNe
  have HST := Lib.hid hst
  clear hst hNe
  have en : ((n : Int) == 0) = false := by rw [beq_eq_false_iff_ne]; omega
  have em : ((m : Int) == 0) = false := by rw [beq_eq_false_iff_ne]; omega
  go_enter Tryz.func17, Tryz.ntmps17
  go_wp2_with fail
  refine hG.mono ?_
  rintro e w1 ⟨⟨g, rfl, hge, hP⟩, hb⟩
  clear hG
  rw [List.nil_append] at hP
  have HP0 : Hid (∀ x, ev (List.replicate (N - 0) 0) x = ev (p.take 0) x * ev q x) := Lib.hid (fun x => by rw [ev_replicate, List.take_zero]; simp [ev])
  have HPl : Hid ((List.replicate (N - 0) (0 : Rat)).length = N) := Lib.hid (by simp)
  have HPs : Hid (∀ j, rsz ((List.replicate (N - 0) (0 : Rat)).getD j 0) ≤ 1 + 0 * (S + T + 1)) := Lib.hid (fun j => by
    have : (List.replicate (N - 0) (0 : Rat)).getD j 0 = 0 := by
      rw [List.getD_eq_getElem?_getD, List.getElem?_replicate]; split <;> rfl
    rw [this, rsz_zero]; omega)
  generalize List.replicate (N - 0) (0 : Rat) = l0 at *
  go_wp2_with fail
  go_loopg [27] n (fun k s27 wr => ∃ (i : Nat) (l : List Rat), s27 = .int .i64 (i : Int) ∧ Hid (i + k = n) ∧ PB wr g l ∧ Hid (l.length = N) ∧ Hid (∀ x, ev l x = ev (p.take i) x * ev q x) ∧ Hid (∀ j, rsz (l.getD j 0) ≤ 1 + i * (S + T + 1)) ∧ Below w.heap.size w wr)
  case atStart => exact ⟨0, l0, rfl, Lib.hid (by omega), hP, HPl, HP0, HPs, hb⟩
  case round =>
    clear hP HP0 HPl HPs hb
    obtain ⟨i, l, rfl, hik, hP, Hl, HL, HS, hBW⟩ := hrel
    by_cases h0 : i < n
    · obtain ⟨b, off, rfl, h⟩ := (hA.below hBW) i (by rw [← Hn.out]; exact h0)
      have hlt := h.lt
      obtain ⟨s1, A1, n1, c1, t1, B1, m1, d1, h1, h2, h3, h4, h5⟩ := h
      go_wp2_with fail
      generalize hW : World.alloc _ _ = W
      have hBa : Below wr.heap.size wr W := by rw [← hW]; exact below_alloc _ _
      have hC : RatAt W wr.heap.size 0 (p.getD i 0) := ⟨s1, A1, n1, c1, t1, B1, m1, d1, by rw [← hW]; simp [go_sem], by rw [← hW]; simp [go_sem], by rw [← hW]; simp [go_sem], by rw [← hW]; simp [go_sem], h5.below hBa⟩
      clear hW h1 h2 h3 h4 h5
      have hgc : g < wr.heap.size := hP.2.2
      have hP := hP.below hBa
      have hBW := hBW.trans (hBa.mono hBW.size)
      clear hBa hlt
      generalize wr.heap.size = gc at *
      have HL0 : Hid (∀ x, ev l x = ev (p.take i) x * ev q x + x ^ i * (p.getD i 0 * ev (q.take 0) x)) := Lib.hid (fun x => by rw [HL.out x, List.take_zero]; simp [ev]; grind)
      have HS0 : Hid (∀ j, rsz (l.getD j 0) ≤ 1 + (i + 1) * (S + T + 1) ∧ (i + 0 ≤ j → rsz (l.getD j 0) ≤ 1 + i * (S + T + 1))) := Lib.hid (fun j => by
        have := HS.out j
        have e : (i + 1) * (S + T + 1) = i * (S + T + 1) + (S + T + 1) := by rw [Nat.add_mul, Nat.one_mul]
        exact ⟨by omega, fun _ => this⟩)
      clear HL HS
      go_loopg [34] m (fun k s34 wr => ∃ (o : Nat) (l : List Rat), s34 = .int .i64 (o : Int) ∧ Hid (o + k = m) ∧ PB wr g l ∧ Hid (l.length = N) ∧ Hid (∀ x, ev l x = ev (p.take i) x * ev q x + x ^ i * (p.getD i 0 * ev (q.take o) x)) ∧ Hid (∀ j, rsz (l.getD j 0) ≤ 1 + (i + 1) * (S + T + 1) ∧ (i + o ≤ j → rsz (l.getD j 0) ≤ 1 + i * (S + T + 1))) ∧ RatAt wr gc 0 (p.getD i 0) ∧ Below w.heap.size w wr)
      case atStart => exact ⟨0, l, rfl, Lib.hid (by omega), hP, Hl, HL0, HS0, hC, hBW⟩
      case round =>
        clear hP Hl HL0 HS0 hC hBW
        obtain ⟨o, l, rfl, hok, hP, Hl, HL, HS, hC, hBW⟩ := hrel
        by_cases h1 : o < m
        · have hNN := HNe.out
          have hiN : i + o < N := by omega
          obtain ⟨b2, off2, rfl, h⟩ := (hB.below hBW) o (by rw [← Hm.out]; exact h1)
          have hO := hP.1 (i + o) (by rw [Hl.out]; exact hiN)
          have hlt := h.lt
          have hcl := hC.lt
          have hgl := hP.2.2
          obtain ⟨s2, A2, n2, c2, t2, B2, m2, d2, h1', h2, h3, h4, h5⟩ := h
          obtain ⟨s3, A3, n3, c3, t3, B3, m3, d3, k1, k2, k3, k4, k5⟩ := hO
          obtain ⟨s4, A4, n4, c4, t4, B4, m4, d4, r1, r2, r3, r4, r5⟩ := id hC
          simp only [Nat.zero_add] at r1 r2 r3 r4
          have hfz := hP.2.1
          have hiN' : ((i : Int) + (o : Int)) < (N : Int) := by omega
          have hiN0 : 0 ≤ ((i : Int) + (o : Int)) := by omega
          have hiNw : IntKind.i64.wrap ((i : Int) + (o : Int)) = (i : Int) + (o : Int) := by simp [IntKind.wrap, IntKind.bits, IntKind.signed]; omega
          have hiNt : ((i : Int) + (o : Int)).toNat = i + o := by omega
          go_wp2_with fail
          generalize hW : World.alloc _ _ = W
          have hBa : Below wr.heap.size wr W := by rw [← hW]; exact below_alloc _ _
          have j1 : W.cell? ⟨wr.heap.size, 0, none⟩ = some (.bool s2) := by rw [← hW]; simp [go_sem]
          have j2 : W.cell? ⟨wr.heap.size, 1, none⟩ = some (.slice A2 n2 c2) := by rw [← hW]; simp [go_sem]
          have j3 : W.cell? ⟨wr.heap.size, 2, none⟩ = some (.bool t2) := by rw [← hW]; simp [go_sem]
          have j4 : W.cell? ⟨wr.heap.size, 3, none⟩ = some (.slice B2 m2 d2) := by rw [← hW]; simp [go_sem]
          clear hW
          have k1 := cell_below k1 hBa
          have k2 := cell_below k2 hBa
          have k3 := cell_below k3 hBa
          have k4 := cell_below k4 hBa
          have r1 := cell_below r1 hBa
          have r2 := cell_below r2 hBa
          have r3 := cell_below r3 hBa
          have r4 := cell_below r4 hBa
          have hfz : ∀ o, W.frozen? ⟨g, o, none⟩ = false := fun o => ((kept_cells hBa).2 _ _ hgl).trans (hfz o)
          have hP := hP.below hBa
          have hC := hC.below hBa
          have hBW := hBW.trans (hBa.mono hBW.size)
          obtain ⟨Y, HY⟩ : ∃ Y, Hid (Y = p.getD i 0 * q.getD o 0) := ⟨_, Lib.hid rfl⟩
          obtain ⟨Z, HZ⟩ : ∃ Z, Hid (Z = l.getD (i + o) 0 + Y) := ⟨_, Lib.hid rfl⟩
          have hst := HST.out
          have hni : (i + 1) * (S + T + 1) ≤ n * (S + T + 1) := Nat.mul_le_mul_right _ (by omega)
          have hii : (i + 1) * (S + T + 1) = i * (S + T + 1) + (S + T + 1) := by rw [Nat.add_mul, Nat.one_mul]
          have hY : rsz Y ≤ S + T := by rw [HY.out]; exact Nat.le_trans (rsz_mul _ _) (Nat.add_le_add (hsp i) (hsq o))
          have hl1 := (HS.out (i + o)).2 (Nat.le_refl _)
          have hZ : rsz Z ≤ 1 + (i + 1) * (S + T + 1) := by
            rw [HZ.out]; have := rsz_add (l.getD (i + o) 0) Y; omega
          have HZs := Lib.hid hZ
          have hmul := fun W' (hW' : Below W.heap.size W W') => rat_Mul _ _ (p.getD i 0) (q.getD o 0) W' (RatP.is ((r5.below hBa).below hW')) (RatP.is ((h5.below hBa).below hW')) (by have := hsp i; omega) (by have := hsq o; omega)
          rw [← HY.out] at hmul
          have hadd := fun W' v (hv : IsRat W' v Y) (hW' : Below W.heap.size W W') => rat_Add _ _ (l.getD (i + o) 0) Y W' (RatP.is ((k5.below hBa).below hW')) hv (by omega) (by omega)
          rw [← HZ.out] at hadd
          clear k5 h5 r5 h1' h2 h3 h4 hst hni hii hY hl1 hZ hBa
          have hgl := hP.2.2
          have ng1 : gc ≠ g := by omega
          have ng2 : wr.heap.size ≠ g := by omega
          have hwl := Nat.le_refl w.heap.size
          go_region_held3 (fun w' => Below w.heap.size w w' ∧ w'.cell? ⟨gc, 0, none⟩ = some (.bool s4) ∧ w'.cell? ⟨gc, 1, none⟩ = some (.slice A4 n4 c4) ∧ w'.cell? ⟨gc, 2, none⟩ = some (.bool t4) ∧ w'.cell? ⟨gc, 3, none⟩ = some (.slice B4 m4 d4) ∧ w'.cell? ⟨wr.heap.size, 0, none⟩ = some (.bool s2) ∧ w'.cell? ⟨wr.heap.size, 1, none⟩ = some (.slice A2 n2 c2) ∧ w'.cell? ⟨wr.heap.size, 2, none⟩ = some (.bool t2) ∧ w'.cell? ⟨wr.heap.size, 3, none⟩ = some (.slice B2 m2 d2))
            (((try dsimp only); first | with_reducible assumption | with_reducible exact keepO8 hge ng1 ng1 ng1 ng1 ng2 ng2 ng2 ng2 (by assumption) | with_reducible exact keepC8 hwl (by assumption) (by assumption) | exact ⟨hBW.trans (below_drew' _), r1, r2, r3, r4, j1, j2, j3, j4⟩))
            (first
            | (go_at_call 64
               refine (hmul _ (below_drew' _)).mono ?_
               rintro e wa ⟨⟨_, rfl, s5, A5, n5, c5, t5, B5, m5, d5, rfl, hm⟩, hba⟩
               have hbA : Below W.heap.size W wa := (below_drew' _).trans hba
               have k1 := cell_below k1 hbA
               have k2 := cell_below k2 hbA
               have k3 := cell_below k3 hbA
               have k4 := cell_below k4 hbA)
            | (go_at_call 62
               refine (hadd _ _ (RatP.is hm) hbA).mono ?_
               rintro e w2 ⟨⟨_, rfl, s6, A6, n6, c6, t6, B6, m6, d6, rfl, hq⟩, hb2⟩
               have hb3 : Below W.heap.size W w2 := hbA.trans (hb2.mono hbA.size)
               have i1 := cell_below k1 hb2
               have i2 := cell_below k2 hb2
               have i3 := cell_below k3 hb2
               have i4 := cell_below k4 hb2
               have hfz2 : ∀ o, w2.frozen? ⟨g, o, none⟩ = false := fun o => ((kept_cells hb3).2 _ _ hgl).trans (hfz o)))
          all_goals
            have hP2 := (hP.below hb3).set (i := i + o) (by rw [Hl.out]; exact hiN) hq
            have hC2 := (hC.below hb3).other (g := g) (o := (i + o) * 4) (s := s6) (A := A6) (n := n6) (c := c6) (t := t6) (B := B6) (m := m6) (d := d6) ((hP.below hb3).1 (i + o) (by rw [Hl.out]; exact hiN)).four (Or.inl (by omega))
            have hBW2 := hBW.trans ((hb3.mono hBW.size).trans (below_st4 (g := g) hge ((i + o) * 4) (s := s6) (A := A6) (n := n6) (c := c6) (t := t6) (B := B6) (m := m6) (d := d6)))
            have HL2 : Hid (∀ x, ev (l.set (i + o) Z) x = ev (p.take i) x * ev q x + x ^ i * (p.getD i 0 * ev (q.take (o + 1)) x)) := Lib.hid (fun x => by
              rw [ev_set _ _ _ (by rw [Hl.out]; exact hiN), HL.out x, ev_take_succ _ _ (by rw [← Hm.out]; exact h1), HZ.out, HY.out, rat_pow_add]
              grind)
            have HS2 : Hid (∀ j, rsz ((l.set (i + o) Z).getD j 0) ≤ 1 + (i + 1) * (S + T + 1) ∧ (i + (o + 1) ≤ j → rsz ((l.set (i + o) Z).getD j 0) ≤ 1 + i * (S + T + 1))) := Lib.hid (fun j => by
              rw [getD_set]
              have := HS.out j
              split
              · exact ⟨HZs.out, fun _ => by omega⟩
              · exact ⟨this.1, fun _ => this.2 (by omega)⟩)
            clear k1 k2 k3 k4 j1 j2 j3 j4 r1 r2 r3 r4 i1 i2 i3 i4 hfz hfz2 hP hC hBW
            go_wp2_with fail
            go_roundg (gk - 1)
            case measure => have := hok.out; omega
            case rel => exact ⟨o + 1, l.set (i + o) Z, by simp, Lib.hid (by have := hok.out; omega), hP2, Lib.hid (by rw [List.length_set]; exact Hl.out), HL2, HS2, hC2, hBW2⟩
        · have hom : o = m := by have := hok.out; omega
          subst hom
          have HL2 : Hid (∀ x, ev l x = ev (p.take (i + 1)) x * ev q x) := Lib.hid (fun x => by
            have e : q.take o = q := by rw [Hm.out, List.take_length]
            rw [HL.out x, e, ev_take_succ _ _ (by rw [← Hn.out]; exact h0)]
            grind)
          have HS2 : Hid (∀ j, rsz (l.getD j 0) ≤ 1 + (i + 1) * (S + T + 1)) := Lib.hid (fun j => (HS.out j).1)
          go_wp2_with fail
          go_roundg (n - (i + 1))
          case measure => have := hik.out; omega
          case rel => exact ⟨i + 1, l, by simp, Lib.hid (by omega), hP, Hl, HL2, HS2, hBW⟩
    · have hin : i = n := by have := hik.out; omega
      subst hin
      have hT := (HP l).out HL.out
      have hN := uni_norm_new w.heap.size g N l wr hP Hl.out (by have := HNe.out; omega) hge
      rw [hT] at hN
      clear hT hP
      go_wp2_with fail
      refine hN.mono ?_
      rintro e w2 ⟨⟨v, rfl, hres⟩, hb2⟩
      have hBW2 := hBW.trans (hb2.mono hBW.size)
      go_wp2_with fail
      go_ret
      exact ⟨⟨_, rfl, hres⟩, hBW2⟩

set_option maxHeartbeats 1000000 in
theorem uni_mul_left (n m c d : Nat) (A B : Option Addr) (w : World) (h : n = 0) :
    Calls Tryz.prog 17 #[.slice A n c, .slice B m d] w fun e w' => e = .returned (.slice none 0 0) ∧ Below w.heap.size w w' := by
  subst h
  have hb0 := Below.refl w.heap.size w
  go_enter Tryz.func17, Tryz.ntmps17
  go_wp2_with fail
  go_ret
  exact ⟨rfl, hb0⟩
set_option maxHeartbeats 1000000 in
theorem uni_mul_right (n m c d : Nat) (A B : Option Addr) (w : World) (h : m = 0) (hn : n ≠ 0) :
    Calls Tryz.prog 17 #[.slice A n c, .slice B m d] w fun e w' => e = .returned (.slice none 0 0) ∧ Below w.heap.size w w' := by
  subst h
  have hb0 := Below.refl w.heap.size w
  have en : ((n : Int) == 0) = false := by rw [beq_eq_false_iff_ne]; omega
  go_enter Tryz.func17, Tryz.ntmps17
  go_wp2_with fail
  go_ret
  exact ⟨rfl, hb0⟩
theorem uni_mulN (u v : Value) (p q : List Rat) (w : World) (hu : IsPoly w u p) (hv : IsPoly w v q) (hlp : p.length ≤ 400000) (hlq : q.length ≤ 400000) (S T : Nat) (hsp : SzB p S) (hsq : SzB q T) (hst : 1 + p.length * (S + T + 1) ≤ 68719476736) :
    Calls Tryz.prog 17 #[u, v] w fun e w' => (∃ v, e = .returned v ∧ IsNew w.heap.size w' v (pmul p q)) ∧ Below w.heap.size w w' := by
  by_cases hp : p = []
  · subst hp
    obtain ⟨A, c, rfl, _⟩ := hu
    obtain ⟨B, d, rfl, _⟩ := hv
    refine (uni_mul_left _ _ _ _ _ _ w rfl).mono ?_
    rintro e w1 ⟨rfl, hb⟩
    exact ⟨⟨_, rfl, IsNew.nil _ _ _⟩, hb⟩
  · by_cases hq : q = []
    · subst hq
      obtain ⟨A, c, rfl, _⟩ := hu
      obtain ⟨B, d, rfl, _⟩ := hv
      refine (uni_mul_right _ _ _ _ _ _ w rfl (fun h => hp (List.eq_nil_of_length_eq_zero h))).mono ?_
      rintro e w1 ⟨rfl, hb⟩
      rw [pmul_nil_right]
      exact ⟨⟨_, rfl, IsNew.nil _ _ _⟩, hb⟩
    · exact uni_mul_pos u v p q w hu hv hlp hlq (List.length_pos_iff.2 hp) (List.length_pos_iff.2 hq) S T hsp hsq hst

theorem uni_mul (u v : Value) (p q : List Rat) (w : World) (hu : IsPoly w u p) (hv : IsPoly w v q) (hlp : p.length ≤ 400000) (hlq : q.length ≤ 400000) (S T : Nat) (hsp : SzB p S) (hsq : SzB q T) (hst : 1 + p.length * (S + T + 1) ≤ 68719476736) :
    Calls Tryz.prog 17 #[u, v] w fun e w' => (∃ v, e = .returned v ∧ IsPoly w' v (pmul p q)) ∧ Below w.heap.size w w' := by
  refine (uni_mulN u v p q w hu hv hlp hlq S T hsp hsq hst).mono ?_
  rintro e w1 ⟨⟨x, rfl, h⟩, hb⟩
  exact ⟨⟨_, rfl, h.poly⟩, hb⟩

theorem psub_scale (p q : List Rat) : padd p (pscale (-1) q) = psub p q :=
  (padd_PC _ _).ext (psub_PC _ _) (fun x => by rw [ev_padd, ev_pscale, ev_psub]; grind)
theorem rsz_neg_one : rsz (-1) = 1 := by decide +kernel
set_option maxHeartbeats 1000000 in
theorem uni_sub (u v : Value) (p q : List Rat) (w : World) (hu : IsPoly w u p) (hv : IsPoly w v q) (hlp : p.length ≤ 1000000) (hlq : q.length ≤ 1000000) (hsp : Sz p) (hsq : SzB q 68719476735) :
    Calls Tryz.prog 18 #[u, v] w fun e w' => (∃ v, e = .returned v ∧ IsPoly w' v (psub p q)) ∧ Below w.heap.size w w' := by
  have hW := fun W => rat_int (-1) W (by omega) (by omega)
  have e1 : (((-1 : Int)) : Rat) = -1 := rfl
  rw [e1] at hW
  have hS := fun W x (hx : IsRat W x (-1)) (hW : Below w.heap.size w W) => uni_scale x v (-1) q W hx (hv.below hW) hlq (by rw [rsz_neg_one]; omega) (fun j => Nat.le_trans (hsq j) (by omega))
  have hA := fun W v' (hv' : IsPoly W v' (pscale (-1) q)) (hW : Below w.heap.size w W) => uni_add u v' p (pscale (-1) q) W (hu.below hW) hv' hlp (Nat.le_trans (by unfold pscale; have := ptrim_length_le (q.map ((-1) * ·)); rw [List.length_map] at this; exact this) hlq) hsp (fun j => by
    have := (SzB.scale (c := -1) hsq (T := 1) (by rw [rsz_neg_one]; omega)) j; omega)
  rw [psub_scale] at hA
  generalize psub p q = P at *
  generalize pscale (-1) q = Q at *
  generalize (-1 : Rat) = o at *
  clear e1
  obtain ⟨A, c, rfl, _⟩ := hu
  obtain ⟨B, d, rfl, _⟩ := hv
  have hb0 := Below.refl w.heap.size w
  generalize p.length = n at *
  generalize q.length = m at *
  go_enter Tryz.func18, Tryz.ntmps18
  go_wp2_with fail
  refine (hW _).mono ?_
  rintro e w1 ⟨⟨v1, rfl, hv1⟩, hb1⟩
  go_wp2_with fail
  refine (hS _ _ hv1 hb1).mono ?_
  rintro e w2 ⟨⟨v2, rfl, hv2⟩, hb2⟩
  have hbb := hb1.trans (hb2.mono hb1.size)
  go_wp2_with fail
  refine (hA _ _ hv2 hbb).mono ?_
  rintro e w3 ⟨⟨v3, rfl, hv3⟩, hb3⟩
  have hbb := hbb.trans (hb3.mono hbb.size)
  go_wp2_with fail
  go_ret
  exact ⟨⟨_, rfl, hv3⟩, hbb⟩

end Go.Proofs.YtlklgeidffjidaaGreat

/- The walk of slices.Clone at polynomials, and the small functions of package univariate. -/
namespace Go.Proofs.YtlklgeidffjidaaGreat
open Go.RowKit
set_option linter.unusedSimpArgs false

theorem CellsOf.below {w w' : World} {cs : List Value} {p : List Rat} (h : CellsOf w cs p) (hb : Below w.heap.size w w') : CellsOf w' cs p := by
  obtain ⟨h1, h2, h3, h4⟩ := h
  refine ⟨h1, h2, h3, fun j hj => ?_⟩
  obtain ⟨s, A, n, c, t, B, m, d, g1, g2, g3, g4, g5⟩ := h4 j hj
  exact ⟨s, A, n, c, t, B, m, d, g1, g2, g3, g4, g5.below hb⟩
theorem pb_of_own {w : World} {B T : Nat} {v : Value} {n : Nat} {cs : List Value} {p : List Rat} (h : w.ownsRow B T 4 v n cs) (hc : CellsOf w cs p) (hn : n = p.length) :
    ∃ A c, v = .slice A n c ∧ n ≤ c ∧ (0 < n → ∃ g, A = some ⟨g, 0, none⟩ ∧ PB w g p ∧ B ≤ g) := by
  subst hn
  rcases h.2 with ⟨hv, h0⟩ | ⟨g, cap, cur, hv, hb, hg, hcap, hm, hs, ht⟩
  · exact ⟨none, 0, by rw [hv, h0], by omega, fun h => by omega⟩
  · refine ⟨_, cap, hv, hcap, fun _ => ⟨g, rfl, ⟨fun j hj => ?_, fun o => ?_, (Array.getElem?_eq_some_iff.1 hg).1⟩, hb⟩⟩
    · have hcell : ∀ k u, cs[k]? = some u → w.cell? ⟨g, k, none⟩ = some u := by
        intro k u hk
        have := h.cells (g := g) (by rw [hv]; rfl) k u hk
        rw [addr_add, Nat.zero_add] at this
        exact this
      obtain ⟨s, A, n, c, t, B, m, d, g1, g2, g3, g4, g5⟩ := hc.2.2.2 j hj
      exact ⟨s, A, n, c, t, B, m, d, hcell _ _ g1, hcell _ _ g2, hcell _ _ g3, hcell _ _ g4, g5⟩
    · simp [World.frozen?, hg]

set_option maxHeartbeats 1000000 in
theorem uni_clone (v : Value) (p : List Rat) (w : World) (hv : IsPoly w v p) (hl : p.length ≤ 1000000) :
    Calls Tryz.prog 68 #[v] w fun e w' => (∃ A c, e = .returned (.slice A p.length c) ∧ p.length ≤ c ∧ (0 < p.length → ∃ g, A = some ⟨g, 0, none⟩ ∧ PB w' g p ∧ w.heap.size ≤ g)) ∧ Below w.heap.size w w' := by
  obtain ⟨A, c, rfl, hA, hc⟩ := hv
  have hnil := fun (w : World) (a : Option Addr) (l c : Nat) => Lib.run_eql_slice_nil (P := Tryz.prog) w 23 31 a l c 0 0 Tryz.underlying23
  obtain ⟨i0, hi, hz0, hz1, hz2⟩ := info_parts info_rat
  cases A with
  | none =>
    have hp : p = [] := by
      apply Classical.byContradiction; intro hne
      obtain ⟨b, off, e, _⟩ := hA 0 (List.length_pos_iff.2 hne)
      cases e
    subst hp
    go_enter Tryz.func68, Tryz.ntmps68
    go_wp2
    go_ret
    exact ⟨⟨none, 0, rfl, Nat.le_refl _, fun h => by simp at h⟩, Below.refl _ _⟩
  | some ad =>
    have hcs : ∃ cs, CellsOf w cs p ∧ ∀ j u, cs[j]? = some u → w.cell? (ad.add j) = some u := by
      by_cases hp : p = []
      · subst hp; exact ⟨[], ⟨rfl, by simp, by simp, by simp⟩, by simp⟩
      · obtain ⟨b, off, e, _⟩ := hA 0 (List.length_pos_iff.2 hp)
        injection e with e
        subst e
        obtain ⟨cs, h1, h2⟩ := hA.cells
        exact ⟨cs, h1, fun j u hj => by rw [addr_add]; exact h2 j u hj⟩
    obtain ⟨cs, hcs, hnews⟩ := hcs
    have hown := World.ownsRow_made (e := 31) (size := 4) w #[] 0 (Nat.le_refl w.heap.size) (by unfold maxLen; omega) (by simp)
    have hb := (Below.refl w.heap.size w).alloc (Nat.le_refl _) (.cells #[] 31)
    have hcs1 := hcs.below hb
    have hnews1 : ∀ j u, cs[j]? = some u → (w.alloc (.cells #[] 31)).cell? (ad.add j) = some u := fun j u hj => (hb.cell (World.block_lt_of_cell? _ _ (hnews j u hj))).trans (hnews j u hj)
    have h1 := hcs.2.1
    have hcl := Lib.hid hcs.1
    have Hcs := Lib.hid hcs
    generalize HN : p.length = n at *
    have HN := Lib.hid HN
    clear hnews hcs hcs1 hA
    go_enter Tryz.func68, Tryz.ntmps68
    go_wp2_with (at_builtin; refine wpList_append_own _ rfl (.tmp 5) (.tmp 6) 23 rfl w.heap.size 31 i0 _ 4 64 Tryz.underlying23 hi hz0 hz1 hz2 rfl (by decide) _ 0 [] rfl hown ad n c cs rfl hcl.out hnews1 h1 (by unfold maxLen; omega) (by omega) (by simp) ?_)
    intro v' w1 hown1 hgrow _
    have hb0 := hb.grown hgrow (by simp) (fun k hk => by simp [Value.ownBlock] at hk; omega)
    obtain ⟨A', c', rfl, hcc, hg⟩ := pb_of_own hown1 (Hcs.out.below hb0) HN.out.symm
    clear hown hown1 hgrow hb hnews1 h1
    go_wp2
    go_ret
    exact ⟨⟨A', c', rfl, hcc, hg⟩, hb0⟩

set_option maxHeartbeats 1000000 in
theorem uni_reciprocal (v : Value) (p : List Rat) (w : World) (hv : IsPoly w v p) (hp : p ≠ []) (hl : p.length ≤ 1000000) (h0 : plead p ≠ 0) (hs : rsz (plead p) ≤ 68719476736) :
    Calls Tryz.prog 73 #[v] w fun e w' => (∃ v, e = .returned v ∧ IsPoly w' v [(plead p)⁻¹]) ∧ Below w.heap.size w w' := by
  have hL := uni_lead v p w hv hp (by omega)
  have hI := fun W u (hu : IsRat W u (plead p)) => rat_Inv u (plead p) W hu hs h0
  generalize (plead p)⁻¹ = y at *
  generalize plead p = x at *
  obtain ⟨A, c, rfl, _⟩ := hv
  generalize p.length = n at *
  clear hp h0
  go_enter Tryz.func73, Tryz.ntmps73
  go_wp2_with fail
  refine hL.mono ?_
  rintro e w1 ⟨⟨v1, rfl, hv1⟩, hb1⟩
  go_wp2_with fail
  refine (hI _ _ hv1).mono ?_
  rintro e w2 ⟨⟨_, rfl, s, A1, n1, c1, t, B, m, d, rfl, hq⟩, hb2⟩
  have hbb := hb1.trans (hb2.mono hb1.size)
  clear hI hL hb1 hb2
  go_wp2_with fail
  go_ret
  have hb3 := fun X Y => (below_alloc w2 X).trans ((below_alloc (w2.alloc X) Y).mono (by simp))
  exact ⟨⟨_, rfl, _, _, rfl, polyAt_one (s := s) (A := A1) (n := n1) (c := c1) (t := t) (B := B) (m := m) (d := d) (by simp [go_sem]) (by simp [go_sem]) (by simp [go_sem]) (by simp [go_sem]) (hq.below (hb3 _ _)), Nat.le_refl _⟩, hbb.trans ((hb3 _ _).mono hbb.size)⟩

theorem pmonic_mul {p : List Rat} (hp : p ≠ []) : pmul [(plead p)⁻¹] p = pmonic p := by
  have e : pmonic p = pscale (plead p)⁻¹ p := by unfold pmonic; rw [if_neg hp]
  rw [e]
  exact (pmul_PC _ _).ext (pscale_PC _ _) (fun x => by rw [ev_pmul, ev_pscale]; simp [ev]; grind)
theorem SzB.one {c : Rat} {S : Nat} (h : rsz c ≤ S) : SzB [c] S := fun j => by
  cases j with
  | zero => simpa using h
  | succ j => have := rsz_pos c; simp [rsz_zero]; omega
theorem plead_sz {p : List Rat} {S : Nat} (h : SzB p S) : rsz (plead p) ≤ S := h _
theorem SzB.monic {p : List Rat} {S : Nat} (hp : PC p) (h : SzB p S) : SzB (pmonic p) (2 * S) := by
  unfold pmonic
  split
  · exact SzB.nil (by have := h.pos; omega)
  · rename_i h0
    have := SzB.scale h (c := (plead p)⁻¹) (T := S) (Nat.le_trans (rsz_inv (hp.lead_ne h0)) (plead_sz h))
    exact this.mono (by omega)

set_option maxHeartbeats 1000000 in
theorem uni_monic_nil (A : Option Addr) (c n : Nat) (w : World) (hn : n = 0) :
    Calls Tryz.prog 32 #[.slice A n c] w fun e w' => e = .returned (.slice none 0 0) ∧ Below w.heap.size w w' := by
  subst hn
  have hb0 := Below.refl w.heap.size w
  go_enter Tryz.func32, Tryz.ntmps32
  go_wp2_with fail
  go_ret
  exact ⟨rfl, hb0⟩
set_option maxHeartbeats 1000000 in
theorem uni_monicN (v : Value) (p : List Rat) (w : World) (hv : IsPoly w v p) (hp : PC p) (hl : p.length ≤ 400000) (S : Nat) (hs : SzB p S) (hS : 2 * S + 2 ≤ 68719476736) :
    Calls Tryz.prog 32 #[v] w fun e w' => (∃ v, e = .returned v ∧ IsNew w.heap.size w' v (pmonic p)) ∧ Below w.heap.size w w' := by
  by_cases h0 : p = []
  · subst h0
    obtain ⟨A, c, rfl, _⟩ := hv
    refine (uni_monic_nil A c _ w rfl).mono ?_
    rintro e w1 ⟨rfl, hb⟩
    exact ⟨⟨_, rfl, IsNew.nil _ _ _⟩, hb⟩
  · have hne := hp.lead_ne h0
    have hR := uni_reciprocal v p w hv h0 (by omega) hne (Nat.le_trans (plead_sz hs) (by omega))
    have hM := fun W u (hu : IsPoly W u [(plead p)⁻¹]) (hW : Below w.heap.size w W) => uni_mulN u v [(plead p)⁻¹] p W hu (hv.below hW) (by simp) hl S S (SzB.one (Nat.le_trans (rsz_inv hne) (plead_sz hs))) hs (by simp; omega)
    rw [pmonic_mul h0] at hM
    generalize pmonic p = Q at *
    obtain ⟨A, c, rfl, _⟩ := hv
    have hn0 : p.length ≠ 0 := fun e => h0 (List.eq_nil_of_length_eq_zero e)
    generalize [(plead p)⁻¹] = R at *
    clear hne hp h0
    generalize p.length = n at *
    have en : ((n : Int) == 0) = false := by rw [beq_eq_false_iff_ne]; omega
    go_enter Tryz.func32, Tryz.ntmps32
    go_wp2_with fail
    refine hR.mono ?_
    rintro e w1 ⟨⟨v1, rfl, hv1⟩, hb1⟩
    go_wp2_with fail
    refine (hM _ _ hv1 hb1).mono ?_
    rintro e w2 ⟨⟨v2, rfl, hv2⟩, hb2⟩
    have hbb := hb1.trans (hb2.mono hb1.size)
    go_wp2_with fail
    go_ret
    exact ⟨⟨_, rfl, hv2.mono hb1.size⟩, hbb⟩
set_option maxHeartbeats 1000000 in
theorem uni_monic (v : Value) (p : List Rat) (w : World) (hv : IsPoly w v p) (hp : PC p) (hl : p.length ≤ 400000) (S : Nat) (hs : SzB p S) (hS : 2 * S + 2 ≤ 68719476736) :
    Calls Tryz.prog 32 #[v] w fun e w' => (∃ v, e = .returned v ∧ IsPoly w' v (pmonic p)) ∧ Below w.heap.size w w' := by
  refine (uni_monicN v p w hv hp hl S hs hS).mono ?_
  rintro e w1 ⟨⟨x, rfl, h⟩, hb⟩
  exact ⟨⟨_, rfl, h.poly⟩, hb⟩

end Go.Proofs.YtlklgeidffjidaaGreat
