/- The walk of DivMod (package univariate). -/
import Derived.Test.YtlklgeidffjidaaGreatMUnivariateRing3
import Derived.Laws.AppendOwn
import Derived.RangeFuncNested
import Derived.RangeFuncBound
import Derived.RangeFuncCalls
import Derived.RangeFuncLeaves
import Derived.Shelf.Abstract
import Derived.Shelf.RegionOpen
import Derived.WalkKit
import Derived.OwnWalkIn
import Derived.TacticsInMore
import Derived.LoopNIn
import Derived.LoopIn
import Derived.RangeFuncBox
namespace Go.Proofs.YtlklgeidffjidaaGreat
open Go.RowKit
set_option linter.unusedSimpArgs false

set_option maxRecDepth 100000 in
set_option maxHeartbeats 8000000 in
theorem uni_divmod_long (u v : Value) (p q : List Rat) (w : World) (hu : IsPoly w u p) (hv : IsPoly w v q) (hlp : p.length ≤ 400000) (hlq : q.length ≤ 400000) (hq : PC q) (hq0 : q ≠ []) (N S T : Nat) (hN : N + q.length = p.length + 1) (hN0 : 0 < N)
    (hS : ∀ i, i ≤ N → SzB (dst p q N i).1 S) (hT : SzB q T) (hST : S + 2 * T ≤ 68719476736) :
    Calls Tryz.prog 23 #[u, v] w fun e w' => (∃ x y, e = .returned (.tuple #[x, y, .int .i64 0]) ∧ IsNew w.heap.size w' x (pquo p q) ∧ IsNew w.heap.size w' y (pmod p q)) ∧ Below w.heap.size w w' := by
  have hC := uni_clone u p w hu (by omega)
  obtain ⟨A, c, rfl, hA, hc⟩ := hu
  have hQ := fun W (hW : Below w.heap.size w W) => hv.below hW
  obtain ⟨B, d, rfl, hB, hd⟩ := hv
  have hG := fun z W hz => uni_grown' none 0 0 N z [] W (PolyAt.nil W none) rfl (by omega) (by omega) hz
  have hspec := fun i hi => dst_spec hq hq0 hN i hi
  have Hspec := Lib.hid hspec
  have Hend := Lib.hid (dst_end hq hq0 hN)
  have Hne := Lib.hid (hq.lead_ne hq0)
  have Hdqc : Hid (∀ i, i ≤ N → rsz (dqc p q N i) ≤ S + T) := Lib.hid (fun i hi => dqc_size hq hq0 (hS i hi) hT)
  obtain ⟨n, Hn⟩ : ∃ n, Hid (n = p.length) := ⟨_, Lib.hid rfl⟩
  obtain ⟨m, Hm⟩ : ∃ m, Hid (m = q.length) := ⟨_, Lib.hid rfl⟩
  have Hq0 := Lib.hid hq0
  have hm0 : 0 < m := by rw [Hm.out]; exact List.length_pos_iff.2 hq0
  have hn0 : 0 < n := by have := Hn.out; have := Hm.out; omega
  have hNe : N + m = n + 1 := by have := Hn.out; have := Hm.out; omega
  have HNe := Lib.hid hNe
  have hNb : N ≤ 400000 := by have := Hn.out; have := Hm.out; omega
  have hG := fun W => hG (max ((n : Int) - (m : Int) + 1) 0) W (by omega)
  rw [← Hn.out] at hlp hc hC ⊢
  rw [← Hm.out] at hlq hd hQ ⊢
  have em : ((m : Int) == 0) = false := by rw [beq_eq_false_iff_ne]; omega
  clear hN hq hq0 hspec hNe
  go_enter Tryz.func23, Tryz.ntmps23
  go_wp2_with fail
  refine hC.mono ?_
  rintro e w1 ⟨⟨A', c', rfl, hcc, hg⟩, hb⟩
  obtain ⟨gr, rfl, hPr, hgr⟩ := hg hn0
  clear hg hC
  go_wp2_with fail
  refine (hG _).mono ?_
  rintro e w2 ⟨⟨gq, rfl, hgq, hPq⟩, hb2⟩
  have hne : gr < gq := Nat.lt_of_lt_of_le hPr.2.2 hgq
  have hPr := hPr.below hb2
  have hBW := hb.trans (hb2.mono hb.size)
  have hgqw : w.heap.size ≤ gq := Nat.le_trans hb.size hgq
  clear hG hb hb2 hgq
  rw [List.nil_append] at hPq
  have HPr : PB w2 gr (dst p q N 0).1 := hPr
  have HPq : PB w2 gq (dst p q N 0).2 := hPq
  clear hPr hPq
  go_wp2_with fail
  go_loopg [28] N (fun k s28 wr => ∃ (i : Nat), s28 = .int .i64 (i : Int) ∧ Hid (i + k = N) ∧ PB wr gr (dst p q N i).1 ∧ PB wr gq (dst p q N i).2 ∧ Below w.heap.size w wr)
  case atStart => exact ⟨0, rfl, Lib.hid (by omega), HPr, HPq, hBW⟩
  case round =>
    clear HPr HPq hBW
    obtain ⟨i, rfl, hik, hPr, hPq, hBW⟩ := hrel
    by_cases h0 : i < N
    · have Hk : Hid (gk = N - i) := Lib.hid (by have := hik.out; omega)
      obtain ⟨kk, hkk⟩ : ∃ kk : Nat, kk + 1 + i = N := ⟨N - 1 - i, by omega⟩
      obtain ⟨tt, htt⟩ : ∃ tt : Nat, tt + 1 = kk + m := ⟨kk + m - 1, by omega⟩
      have e1 : (N : Int) - 1 - (i : Int) = (kk : Int) := by omega
      have e2 : (kk : Int) + (m : Int) - 1 = (tt : Int) := by omega
      have e3 : IntKind.i64.wrap ((kk : Int) + (m : Int)) = (kk : Int) + (m : Int) := by simp [IntKind.wrap, IntKind.bits, IntKind.signed]; omega
      have e4 : IntKind.i64.wrap (tt : Int) = (tt : Int) := by simp [IntKind.wrap, IntKind.bits, IntKind.signed]; omega
      have hkN : kk < N := by omega
      have hkb : kk ≤ 400000 := by omega
      have hib : i ≤ 400000 := by omega
      have htn : tt < n := by have := HNe.out; omega
      obtain ⟨s1, s2, s3, s4, s5⟩ := Hspec.out i (by omega)
      have Hl1 : Hid ((dst p q N i).1.length = n) := Lib.hid (by rw [s1, ← Hn.out])
      have Hl2 : Hid ((dst p q N i).2.length = N) := Lib.hid s2
      have ek : N - 1 - i = kk := by omega
      have et : N - 1 - i + q.length - 1 = tt := by rw [← Hm.out]; omega
      have Hs : Hid (dst p q N (i + 1) = (dsub (dst p q N i).1 kk (dqc p q N i) q, (dst p q N i).2.set kk (dqc p q N i))) := Lib.hid (by rw [dst_succ, ek])
      have Hc : Hid (dqc p q N i = (dst p q N i).1.getD tt 0 / plead q) := Lib.hid (by unfold dqc; rw [et])
      have hcs := Hdqc.out i (by omega)
      have hSi := hS i (by omega)
      have hO := hPr.1 tt (by rw [Hl1.out]; exact htn)
      have hX := hPq.1 kk (by rw [Hl2.out]; exact hkN)
      clear s1 s2 s3 s4 s5 ek et
      generalize dqc p q N i = C at *
      generalize (dst p q N i).1 = R at *
      generalize (dst p q N i).2 = Q at *
      obtain ⟨s1, A1, n1, c1, t1, B1, m1, d1, a1, a2, a3, a4, a5⟩ := hO
      obtain ⟨s2, A2, n2, c2, t2, B2, m2, d2, b1, b2, b3, b4, _⟩ := hX
      have hfz := hPq.2.1
      have hgl := hPq.2.2
      have hlead := fun W (hW : Below wr.heap.size wr W) => uni_lead _ q W (hQ W (hBW.trans (hW.mono hBW.size))) Hq0.out (by rw [← Hm.out]; omega)
      have hdiv := fun W v (hv : IsRat W v (plead q)) (hW : Below wr.heap.size wr W) => rat_Div _ _ (R.getD tt 0) (plead q) W (RatP.is (a5.below hW)) hv (by have := hSi tt; omega) (by have := plead_sz hT; omega) Hne.out
      rw [← Hc.out] at hdiv
      clear a5
      go_wp2_with fail
      have nrq : gr ≠ gq := by omega
      have hwl := Nat.le_refl w.heap.size
      go_region_held3 (fun w' => Below w.heap.size w w' ∧ w'.cell? ⟨gr, tt * 4, none⟩ = some (.bool s1) ∧ w'.cell? ⟨gr, tt * 4 + 1, none⟩ = some (.slice A1 n1 c1) ∧ w'.cell? ⟨gr, tt * 4 + 2, none⟩ = some (.bool t1) ∧ w'.cell? ⟨gr, tt * 4 + 3, none⟩ = some (.slice B1 m1 d1))
        (((try dsimp only); first | with_reducible assumption | with_reducible exact keepO4 hgqw nrq nrq nrq nrq (by assumption) | with_reducible exact keepC4 hwl (by assumption) (by assumption) | exact ⟨hBW.trans (below_drew' _), a1, a2, a3, a4⟩))
        (first
        | (go_at_call 59
           refine (hlead _ (below_drew' _)).mono ?_
           rintro e wa ⟨⟨va, rfl, hva⟩, hba⟩
           have hbA : Below wr.heap.size wr wa := (below_drew' _).trans hba)
        | (go_at_call 69
           refine (hdiv _ _ hva hbA).mono ?_
           rintro e wb ⟨⟨_, rfl, s6, A6, n6, c6, t6, B6, m6, d6, rfl, hq⟩, hbb⟩
           have hb3 : Below wr.heap.size wr wb := hbA.trans (hbb.mono hbA.size)
           have i1 := cell_below b1 hb3
           have i2 := cell_below b2 hb3
           have i3 := cell_below b3 hb3
           have i4 := cell_below b4 hb3
           have hfz2 : ∀ o, wb.frozen? ⟨gq, o, none⟩ = false := fun o => ((kept_cells hb3).2 _ _ hgl).trans (hfz o)))
      all_goals
        have hPq2 := (hPq.below hb3).set (i := kk) (by rw [Hl2.out]; exact hkN) hq
        have hPr2 := (hPr.below hb3).other (g' := gq) (o := kk * 4) (s := s6) (A := A6) (n := n6) (c := c6) (t := t6) (B := B6) (m := m6) (d := d6) ((hPq.below hb3).1 kk (by rw [Hl2.out]; exact hkN)).four nrq
        have hBW2 := hBW.trans ((hb3.mono hBW.size).trans (below_st4 (g := gq) hgqw (kk * 4) (s := s6) (A := A6) (n := n6) (c := c6) (t := t6) (B := B6) (m := m6) (d := d6)))
        clear a1 a2 a3 a4 b1 b2 b3 b4 i1 i2 i3 i4 hfz hfz2 hPq hPr hBW hlead hdiv hva
        go_wp2_with fail
        dsimp only [st4] at hPq2 hPr2 hBW2
        generalize World.setCell (World.setCell (World.setCell (World.setCell _ _ _) _ _) _ _) _ _ = W3 at *
        have HL0 : Hid (∀ t, R.getD t 0 = if kk ≤ t ∧ t < kk + 0 then R.getD t 0 - C * q.getD (t - kk) 0 else R.getD t 0) := Lib.hid (fun t => by rw [if_neg (by omega)])
        go_loopg [55] m (fun k s55 wr => ∃ (o : Nat) (l : List Rat), s55 = .int .i64 (o : Int) ∧ Hid (o + k = m) ∧ PB wr gr l ∧ Hid (l.length = n) ∧ Hid (∀ t, l.getD t 0 = if kk ≤ t ∧ t < kk + o then R.getD t 0 - C * q.getD (t - kk) 0 else R.getD t 0) ∧ PB wr gq (Q.set kk C) ∧ Below w.heap.size w wr)
        case atStart => exact ⟨0, R, rfl, Lib.hid (by omega), hPr2, Hl1, HL0, hPq2, hBW2⟩
        case round =>
          clear hPr2 hPq2 hBW2 HL0
          obtain ⟨o, l, rfl, hok, hPr, Hl, HL, hPq, hBW⟩ := hrel
          by_cases h1 : o < m
          · have hon : kk + o < n := by have := HNe.out; omega
            have hob : o ≤ 400000 := by omega
            have hon' : ((kk : Int) + (o : Int)) < (n : Int) := by omega
            have hon0 : 0 ≤ ((kk : Int) + (o : Int)) := by omega
            have honw : IntKind.i64.wrap ((kk : Int) + (o : Int)) = (kk : Int) + (o : Int) := by simp [IntKind.wrap, IntKind.bits, IntKind.signed]; omega
            have hont : ((kk : Int) + (o : Int)).toNat = kk + o := by omega
            obtain ⟨b2, off2, rfl, h⟩ := (hB.below hBW) o (by rw [← Hm.out]; exact h1)
            have hO := hPr.1 (kk + o) (by rw [Hl.out]; exact hon)
            have hX := hPq.1 kk (by rw [List.length_set, Hl2.out]; exact hkN)
            have hlt := h.lt
            have hgrl := hPr.2.2
            have hgql := hPq.2.2
            have hCq : (Q.set kk C).getD kk 0 = C := by rw [getD_set, if_pos ⟨rfl, by rw [Hl2.out]; exact hkN⟩]
            have hRl : l.getD (kk + o) 0 = R.getD (kk + o) 0 := by rw [HL.out, if_neg (by omega)]
            rw [hCq] at hX
            rw [hRl] at hO
            clear hCq hRl
            obtain ⟨s2, A2, n2, c2, t2, B2, m2, d2, h1', h2, h3, h4, h5⟩ := h
            obtain ⟨s3, A3, n3, c3, t3, B3, m3, d3, k1, k2, k3, k4, k5⟩ := hO
            obtain ⟨s4, A4, n4, c4, t4, B4, m4, d4, r1, r2, r3, r4, r5⟩ := hX
            have hfz := hPr.2.1
            go_wp2_with fail
            generalize hW : World.alloc _ _ = W
            have hBa : Below wr.heap.size wr W := by rw [← hW]; exact below_alloc _ _
            have j1 : W.cell? ⟨wr.heap.size, 0, none⟩ = some (.bool s2) := by rw [← hW]; simp [go_sem]
            have j2 : W.cell? ⟨wr.heap.size, 1, none⟩ = some (.slice A2 n2 c2) := by rw [← hW]; simp [go_sem]
            have j3 : W.cell? ⟨wr.heap.size, 2, none⟩ = some (.bool t2) := by rw [← hW]; simp [go_sem]
            have j4 : W.cell? ⟨wr.heap.size, 3, none⟩ = some (.slice B2 m2 d2) := by rw [← hW]; simp [go_sem]
            clear hW
            have k1 := cell_below k1 hBa
            have k2 := cell_below k2 hBa
            have k3 := cell_below k3 hBa
            have k4 := cell_below k4 hBa
            have r1 := cell_below r1 hBa
            have r2 := cell_below r2 hBa
            have r3 := cell_below r3 hBa
            have r4 := cell_below r4 hBa
            have hfz : ∀ o, W.frozen? ⟨gr, o, none⟩ = false := fun o => ((kept_cells hBa).2 _ _ hgrl).trans (hfz o)
            have hPr := hPr.below hBa
            have hPq := hPq.below hBa
            have hBW := hBW.trans (hBa.mono hBW.size)
            obtain ⟨Y, HY⟩ : ∃ Y, Hid (Y = C * q.getD o 0) := ⟨_, Lib.hid rfl⟩
            obtain ⟨Z, HZ⟩ : ∃ Z, Hid (Z = R.getD (kk + o) 0 - Y) := ⟨_, Lib.hid rfl⟩
            have hY : rsz Y ≤ S + T + T := by rw [HY.out]; exact Nat.le_trans (rsz_mul _ _) (Nat.add_le_add hcs (hT o))
            have hmul := fun W' (hW' : Below W.heap.size W W') => rat_Mul _ _ C (q.getD o 0) W' (RatP.is ((r5.below hBa).below hW')) (RatP.is ((h5.below hBa).below hW')) (by omega) (by have := hT o; omega)
            rw [← HY.out] at hmul
            have hsub := fun W' v (hv : IsRat W' v Y) (hW' : Below W.heap.size W W') => rat_Sub _ _ (R.getD (kk + o) 0) Y W' (RatP.is ((k5.below hBa).below hW')) hv (by have := hSi (kk + o); omega) (by omega)
            rw [← HZ.out] at hsub
            clear k5 h5 r5 h1' h2 h3 h4 hY hBa
            have hgrl := hPr.2.2
            have ng1 : gq ≠ gr := by omega
            have ng2 : wr.heap.size ≠ gr := by omega
            go_region_held3 (fun w' => Below w.heap.size w w' ∧ w'.cell? ⟨gq, kk * 4, none⟩ = some (.bool s4) ∧ w'.cell? ⟨gq, kk * 4 + 1, none⟩ = some (.slice A4 n4 c4) ∧ w'.cell? ⟨gq, kk * 4 + 2, none⟩ = some (.bool t4) ∧ w'.cell? ⟨gq, kk * 4 + 3, none⟩ = some (.slice B4 m4 d4) ∧ w'.cell? ⟨wr.heap.size, 0, none⟩ = some (.bool s2) ∧ w'.cell? ⟨wr.heap.size, 1, none⟩ = some (.slice A2 n2 c2) ∧ w'.cell? ⟨wr.heap.size, 2, none⟩ = some (.bool t2) ∧ w'.cell? ⟨wr.heap.size, 3, none⟩ = some (.slice B2 m2 d2))
              (((try dsimp only); first | with_reducible assumption | with_reducible exact keepO8 hgr ng1 ng1 ng1 ng1 ng2 ng2 ng2 ng2 (by assumption) | with_reducible exact keepC8 hwl (by assumption) (by assumption) | exact ⟨hBW.trans (below_drew' _), r1, r2, r3, r4, j1, j2, j3, j4⟩))
              (first
              | (go_at_call 64
                 refine (hmul _ (below_drew' _)).mono ?_
                 rintro e wa ⟨⟨_, rfl, s5, A5, n5, c5, t5, B5, m5, d5, rfl, hm⟩, hba⟩
                 have hbA : Below W.heap.size W wa := (below_drew' _).trans hba
                 have k1 := cell_below k1 hbA
                 have k2 := cell_below k2 hbA
                 have k3 := cell_below k3 hbA
                 have k4 := cell_below k4 hbA)
              | (go_at_call 70
                 refine (hsub _ _ (RatP.is hm) hbA).mono ?_
                 rintro e w2 ⟨⟨_, rfl, s6, A6, n6, c6, t6, B6, m6, d6, rfl, hq⟩, hb2⟩
                 have hb3 : Below W.heap.size W w2 := hbA.trans (hb2.mono hbA.size)
                 have i1 := cell_below k1 hb2
                 have i2 := cell_below k2 hb2
                 have i3 := cell_below k3 hb2
                 have i4 := cell_below k4 hb2
                 have hfz2 : ∀ o, w2.frozen? ⟨gr, o, none⟩ = false := fun o => ((kept_cells hb3).2 _ _ hgrl).trans (hfz o)))
            all_goals
              have hfour := ((hPr.below hb3).1 (kk + o) (by rw [Hl.out]; exact hon)).four
              have hPr2 := (hPr.below hb3).set (i := kk + o) (by rw [Hl.out]; exact hon) hq
              have hPq2 := (hPq.below hb3).other (s := s6) (A := A6) (n := n6) (c := c6) (t := t6) (B := B6) (m := m6) (d := d6) hfour ng1
              have hBW2 := hBW.trans ((hb3.mono hBW.size).trans (below_st4 (g := gr) hgr ((kk + o) * 4) (s := s6) (A := A6) (n := n6) (c := c6) (t := t6) (B := B6) (m := m6) (d := d6)))
              have HL2 : Hid (∀ t, (l.set (kk + o) Z).getD t 0 = if kk ≤ t ∧ t < kk + (o + 1) then R.getD t 0 - C * q.getD (t - kk) 0 else R.getD t 0) := Lib.hid (fun t => by
                rw [getD_set]
                have hL := HL.out t
                by_cases ht : kk + o = t
                · subst ht
                  rw [if_pos ⟨rfl, by rw [Hl.out]; exact hon⟩, if_pos ⟨by omega, by omega⟩, HZ.out, HY.out, Nat.add_sub_cancel_left]
                · rw [if_neg (by omega), hL]
                  by_cases h2 : kk ≤ t ∧ t < kk + o
                  · rw [if_pos h2, if_pos ⟨h2.1, by omega⟩]
                  · rw [if_neg h2, if_neg (by omega)])
              clear k1 k2 k3 k4 j1 j2 j3 j4 r1 r2 r3 r4 i1 i2 i3 i4 hfz hfz2 hPr hPq hBW hfour
              go_wp2_with fail
              go_roundg (gk - 1)
              case measure => have := hok.out; omega
              case rel => exact ⟨o + 1, l.set (kk + o) Z, by simp, Lib.hid (by have := hok.out; omega), hPr2, Lib.hid (by rw [List.length_set]; exact Hl.out), HL2, hPq2, hBW2⟩
          · have hom : o = m := by have := hok.out; omega
            subst hom
            have Hd : Hid (l = dsub R kk C q) := Lib.hid (by
              have hk := HNe.out
              refine ext_getD (by rw [Hl.out, dsub_length (by rw [Hl1.out, ← Hm.out]; omega), Hl1.out]) (fun t => ?_)
              rw [HL.out t, dsub_getD, ← Hm.out])
            go_wp2_with fail
            go_roundg (N - (i + 1))
            case measure => have := hik.out; omega
            case rel => exact ⟨i + 1, by simp, Lib.hid (by omega), by rw [Hs.out, ← Hd.out]; exact hPr, by rw [Hs.out]; exact hPq, hBW⟩
    · have hin : i = N := by have := hik.out; omega
      subst hin
      obtain ⟨s1, s2, s3, s4, s5⟩ := Hspec.out i (Nat.le_refl _)
      have hN1 := fun W (hW : Below wr.heap.size wr W) => uni_norm_new w.heap.size gq i _ W (hPq.below hW) s2 (by omega) hgqw
      have hN2 := fun W (hW : Below wr.heap.size wr W) => uni_norm (some ⟨gr, 0, none⟩) n c' _ W (hPr.below hW).poly (by rw [s1, Hn.out]) hcc (by omega)
      rw [Hend.out.1] at hN1
      have hres : IsNew w.heap.size wr (.slice (some ⟨gr, 0, none⟩) (ptrim (dst p q i i).1).length c') (pmod p q) := by
        rw [← Hend.out.2]
        refine ⟨_, _, rfl, ?_, Nat.le_trans (ptrim_length_le _) (by rw [s1, ← Hn.out]; exact hcc), fun a ha _ => by cases ha; exact ⟨hgr, rfl⟩⟩
        have := hPr.poly.take (ptrim (dst p q i i).1).length
        rwa [ptrim_self] at this
      clear s1 s2 s3 s4 s5 hPr hPq
      generalize (ptrim (dst p q i i).1).length = r at *
      go_wp2_with fail
      refine (hN1 _ (Below.refl _ _)).mono ?_
      rintro e w3 ⟨⟨v3, rfl, hv3⟩, hb3⟩
      go_wp2_with fail
      refine (hN2 _ hb3).mono ?_
      rintro e w4 ⟨rfl, hb4⟩
      have hbb := hb3.trans (hb4.mono hb3.size)
      have hBW4 := hBW.trans (hbb.mono hBW.size)
      have hres := hres.below hbb
      have hv3 := hv3.below hb4
      go_wp2_with fail
      exact bodyPost_ret (v := .tuple #[v3, .slice (some ⟨gr, 0, none⟩) r c', .int .i64 0]) (by simp [results, Tryz.results23, go_sem]) rfl ⟨⟨_, _, rfl, hv3, hres⟩, hBW4⟩

end Go.Proofs.YtlklgeidffjidaaGreat

/- Division for all degrees; quo and mod (package univariate). -/
namespace Go.Proofs.YtlklgeidffjidaaGreat
open Go.RowKit
set_option linter.unusedSimpArgs false

set_option maxRecDepth 100000 in
set_option maxHeartbeats 4000000 in
theorem uni_divmod_short (u v : Value) (p q : List Rat) (w : World) (hu : IsPoly w u p) (hv : IsPoly w v q) (hlp : p.length ≤ 400000) (hlq : q.length ≤ 400000) (hq : PC q) (hq0 : q ≠ []) (hN : p.length < q.length) :
    Calls Tryz.prog 23 #[u, v] w fun e w' => (∃ x y, e = .returned (.tuple #[x, y, .int .i64 0]) ∧ IsNew w.heap.size w' x (pquo p q) ∧ IsNew w.heap.size w' y (pmod p q)) ∧ Below w.heap.size w w' := by
  have hC := uni_clone u p w hu (by omega)
  obtain ⟨A, c, rfl, hA, hc⟩ := hu
  obtain ⟨B, d, rfl, hB, hd⟩ := hv
  have hG := fun z W hz => uni_grown' none 0 0 0 z [] W (PolyAt.nil W none) rfl (by omega) (by omega) hz
  obtain ⟨he1, he2⟩ := dst_short hq hq0 hN
  rw [he1, he2]
  obtain ⟨n, Hn⟩ : ∃ n, Hid (n = p.length) := ⟨_, Lib.hid rfl⟩
  obtain ⟨m, Hm⟩ : ∃ m, Hid (m = q.length) := ⟨_, Lib.hid rfl⟩
  have hm0 : 0 < m := by rw [Hm.out]; exact List.length_pos_iff.2 hq0
  have hnm : n < m := by have := Hn.out; have := Hm.out; omega
  have hG := fun W => hG (max ((n : Int) - (m : Int) + 1) 0) W (by omega)
  rw [← Hn.out] at hlp hc hC ⊢
  rw [← Hm.out] at hlq hd ⊢
  have em : ((m : Int) == 0) = false := by rw [beq_eq_false_iff_ne]; omega
  clear hN hq hq0 he1 he2
  go_enter Tryz.func23, Tryz.ntmps23
  go_wp2_with fail
  refine hC.mono ?_
  rintro e w1 ⟨⟨A', c', rfl, hcc, hg⟩, hb⟩
  have hAn : ∀ a, A' = some a → 0 < n → w.heap.size ≤ a.block ∧ a.off = 0 := fun a ha h0 => by
    obtain ⟨g, rfl, _, h⟩ := hg h0; cases ha; exact ⟨h, rfl⟩
  have hPr : PolyAt w1 A' p := by
    by_cases h0 : 0 < n
    · obtain ⟨g, rfl, h, _⟩ := hg h0; exact h.poly
    · have : p = [] := List.eq_nil_of_length_eq_zero (by have := Hn.out; omega)
      rw [this]; exact PolyAt.nil _ _
  clear hg hC
  go_wp2_with fail
  refine (hG _).mono ?_
  rintro e w2 ⟨⟨gq, rfl, hgq, hPq⟩, hb2⟩
  have hPr := hPr.below hb2
  have hBW := hb.trans (hb2.mono hb.size)
  have hgqw : w.heap.size ≤ gq := Nat.le_trans hb.size hgq
  clear hG hb hb2 hgq
  have hPq : PB w2 gq [] := hPq
  go_wp2_with fail
  go_loopg [28] 0 (fun k s28 wr => s28 = .int .i64 0 ∧ PB wr gq [] ∧ PolyAt wr A' p ∧ Below w.heap.size w wr)
  case atStart => exact ⟨rfl, hPq, hPr, hBW⟩
  case round =>
    clear hPq hPr hBW
    obtain ⟨rfl, hPq, hPr, hBW⟩ := hrel
    have hN1 := fun W (hW : Below wr.heap.size wr W) => uni_norm_new w.heap.size gq 0 [] W (hPq.below hW) rfl (by omega) hgqw
    have hN2 := fun W (hW : Below wr.heap.size wr W) => uni_norm A' n c' _ W (hPr.below hW) Hn.out hcc (by omega)
    have e0 : ptrim ([] : List Rat) = [] := rfl
    rw [e0] at hN1
    have hres : IsNew w.heap.size wr (.slice A' (ptrim p).length c') (ptrim p) := by
      refine ⟨_, _, rfl, ?_, Nat.le_trans (ptrim_length_le _) (by rw [← Hn.out]; exact hcc), fun a ha h0 => hAn a ha (by
        have h1 := ptrim_length_le p
        have h2 := List.length_pos_iff.2 h0
        have := Hn.out; omega)⟩
      have := hPr.take (ptrim p).length
      rwa [ptrim_self] at this
    clear hPr hPq e0
    generalize (ptrim p).length = r at *
    go_wp2_with fail
    refine (hN1 _ (Below.refl _ _)).mono ?_
    rintro e w3 ⟨⟨v3, rfl, hv3⟩, hb3⟩
    go_wp2_with fail
    refine (hN2 _ hb3).mono ?_
    rintro e w4 ⟨rfl, hb4⟩
    have hbb := hb3.trans (hb4.mono hb3.size)
    have hBW4 := hBW.trans (hbb.mono hBW.size)
    have hres := hres.below hbb
    have hv3 := hv3.below hb4
    go_wp2_with fail
    exact bodyPost_ret (v := .tuple #[v3, .slice A' r c', .int .i64 0]) (by simp [results, Tryz.results23, go_sem]) rfl ⟨⟨_, _, rfl, hv3, hres⟩, hBW4⟩

set_option maxHeartbeats 1000000 in
theorem uni_divmod_zero (A B : Option Addr) (n m c d : Nat) (w : World) (hm : m = 0) :
    Calls Tryz.prog 23 #[.slice A n c, .slice B m d] w fun e w' => e = .returned (.tuple #[.slice none 0 0, .slice none 0 0, .int .i64 10]) ∧ Below w.heap.size w w' := by
  subst hm
  have hb0 := Below.refl w.heap.size w
  go_enter Tryz.func23, Tryz.ntmps23
  go_wp2_with fail
  exact bodyPost_ret (v := .tuple #[.slice none 0 0, .slice none 0 0, .int .i64 10]) (by simp [results, Tryz.results23, go_sem]) rfl ⟨rfl, hb0⟩

/-- What is asked of the sizes in a division: they stay small step by step. -/
def DivOK (p q : List Rat) : Prop := p.length ≤ 400000 ∧ q.length ≤ 400000 ∧ ∃ S T, (∀ i, i ≤ p.length + 1 - q.length → SzB (dst p q (p.length + 1 - q.length) i).1 S) ∧ SzB q T ∧ S + 2 * T ≤ 68719476736
theorem uni_divmod (u v : Value) (p q : List Rat) (w : World) (hu : IsPoly w u p) (hv : IsPoly w v q) (hq : PC q) (hq0 : q ≠ []) (hok : DivOK p q) :
    Calls Tryz.prog 23 #[u, v] w fun e w' => (∃ x y, e = .returned (.tuple #[x, y, .int .i64 0]) ∧ IsNew w.heap.size w' x (pquo p q) ∧ IsNew w.heap.size w' y (pmod p q)) ∧ Below w.heap.size w w' := by
  obtain ⟨hlp, hlq, S, T, hS, hT, hST⟩ := hok
  by_cases h : p.length < q.length
  · exact uni_divmod_short u v p q w hu hv hlp hlq hq hq0 h
  · exact uni_divmod_long u v p q w hu hv hlp hlq hq hq0 (p.length + 1 - q.length) S T (by omega) (by omega) hS hT hST

set_option maxHeartbeats 1000000 in
theorem uni_quo (u v : Value) (p q : List Rat) (w : World) (hu : IsPoly w u p) (hv : IsPoly w v q) (hq : PC q) (hq0 : q ≠ []) (hok : DivOK p q) :
    Calls Tryz.prog 76 #[u, v] w fun e w' => (∃ x, e = .returned x ∧ IsNew w.heap.size w' x (pquo p q)) ∧ Below w.heap.size w w' := by
  have hD := uni_divmod u v p q w hu hv hq hq0 hok
  go_enter Tryz.func76, Tryz.ntmps76
  go_wp2_with fail
  refine hD.mono ?_
  rintro e w1 ⟨⟨x, y, rfl, hx, hy⟩, hb⟩
  go_wp2_with fail
  go_ret
  exact ⟨⟨_, rfl, hx⟩, hb⟩
set_option maxHeartbeats 1000000 in
theorem uni_mod (u v : Value) (p q : List Rat) (w : World) (hu : IsPoly w u p) (hv : IsPoly w v q) (hq : PC q) (hq0 : q ≠ []) (hok : DivOK p q) :
    Calls Tryz.prog 75 #[u, v] w fun e w' => (∃ x, e = .returned x ∧ IsNew w.heap.size w' x (pmod p q)) ∧ Below w.heap.size w w' := by
  have hD := uni_divmod u v p q w hu hv hq hq0 hok
  go_enter Tryz.func75, Tryz.ntmps75
  go_wp2_with fail
  refine hD.mono ?_
  rintro e w1 ⟨⟨x, y, rfl, hx, hy⟩, hb⟩
  go_wp2_with fail
  go_ret
  exact ⟨⟨_, rfl, hy⟩, hb⟩

end Go.Proofs.YtlklgeidffjidaaGreat

/- The walks of power and Derive (package univariate). -/
namespace Go.Proofs.YtlklgeidffjidaaGreat
open Go.RowKit
set_option linter.unusedSimpArgs false

theorem rsz_one : rsz 1 = 1 := by decide +kernel
theorem rsz_nat {k : Nat} (h : k < base) : rsz (k : Rat) ≤ 1 := by
  unfold rsz
  rw [Rat.num_natCast, Rat.den_natCast, isz_nat]
  have h1 : sz k ≤ 1 := words_length_le (by rw [Nat.pow_one]; exact h)
  have h2 : sz 1 ≤ 1 := words_length_le (by rw [Nat.pow_one]; unfold base; omega)
  omega
theorem rsz_pow {x : Rat} {X : Nat} (h : rsz x ≤ X) (k : Nat) : rsz (x ^ k) ≤ 1 + k * X := by
  induction k with
  | zero => rw [Rat.pow_zero, rsz_one]; omega
  | succ k ih =>
    rw [Rat.pow_succ]
    have := rsz_mul (x ^ k) x
    have e : (k + 1) * X = k * X + X := by rw [Nat.add_mul, Nat.one_mul]
    omega
theorem keepC0 {B : Nat} {w0 W w1 : World} (hz : B ≤ w0.heap.size) (h : Below B w0 W) (hb : Below W.heap.size W w1) : Below B w0 w1 := h.trans (hb.mono (Nat.le_trans hz h.size))
theorem keepO0 {B g p0 p1 p2 p3 : Nat} {w0 W : World} {u0 u1 u2 u3 : Value} (hB : B ≤ g) (h : Below B w0 W) : Below B w0 ((((W.setCell ⟨g, p0, none⟩ u0).setCell ⟨g, p1, none⟩ u1).setCell ⟨g, p2, none⟩ u2).setCell ⟨g, p3, none⟩ u3) := h.trans (below_set4 hB _ _ _ _ _ _ _ _)

set_option maxRecDepth 100000 in
set_option maxHeartbeats 4000000 in
theorem uni_power (u : Value) (x : Rat) (n : Nat) (z : Int) (w : World) (hu : IsRat w u x) (X : Nat) (hX : rsz x ≤ X) (hz : z = (n : Int)) (hn : n ≤ 400000) (hs : 1 + n * X + X ≤ 68719476736) :
    Calls Tryz.prog 91 #[u, .int .i64 z] w fun e w' => (∃ v, e = .returned v ∧ IsRat w' v (x ^ n)) ∧ Below w.heap.size w w' := by
  subst hz
  have hW := fun W => rat_int 1 W (by omega) (by omega)
  have e1 : ((1 : Int) : Rat) = x ^ 0 := by rw [Rat.pow_zero]; rfl
  rw [e1] at hW
  clear e1
  have HP : ∀ k, k ≤ n → Hid (rsz (x ^ k) ≤ 68719476736) := fun k hk => Lib.hid (by
    have := rsz_pow hX k
    have : k * X ≤ n * X := Nat.mul_le_mul_right _ hk
    omega)
  have hXX : rsz x ≤ 68719476736 := by omega
  clear hs hX
  obtain ⟨s0, A0, n0, c0, t0, B0, m0, d0, rfl, hx⟩ := hu
  go_enter Tryz.func91, Tryz.ntmps91
  go_wp2_with fail
  generalize hE : World.alloc _ _ = W
  have hBW : Below w.heap.size w W := by rw [← hE]; exact (below_alloc _ _).trans ((below_alloc _ _).mono (by simp))
  have rX : RatAt W w.heap.size 0 x := ⟨s0, A0, n0, c0, t0, B0, m0, d0, by rw [← hE]; simp [go_sem], by rw [← hE]; simp [go_sem], by rw [← hE]; simp [go_sem], by rw [← hE]; simp [go_sem], hx.below hBW⟩
  have rR : RC4 W (w.heap.size + 1) := by rw [← hE]; exact ⟨by simp [go_sem], by simp [go_sem], by simp [go_sem], by simp [go_sem], by simp [go_sem], by simp⟩
  clear hE
  refine (hW _).mono ?_
  rintro e w1 ⟨⟨_, rfl, s, A1, n1, c1, t, B1, m1, d1, rfl, hq⟩, hb1⟩
  have hBW := hBW.trans (hb1.mono hBW.size)
  have rX := rX.below hb1
  have rR := rR.below hb1
  clear hb1
  go_wp2_with fail
  generalize hE : World.alloc _ _ = W2
  have hb2 : Below w1.heap.size w1 W2 := by rw [← hE]; exact below_alloc _ _
  have rS : RatAt W2 w1.heap.size 0 (x ^ 0) := ⟨s, A1, n1, c1, t, B1, m1, d1, by rw [← hE]; simp [go_sem], by rw [← hE]; simp [go_sem], by rw [← hE]; simp [go_sem], by rw [← hE]; simp [go_sem], hq.below hb2⟩
  have fS : ∀ o, W2.frozen? ⟨w1.heap.size, o, none⟩ = false := by rw [← hE]; simp [go_sem]
  clear hE
  have hBW := hBW.trans (hb2.mono hBW.size)
  have hgx : w.heap.size + 1 < w1.heap.size := rR.2.2.2.2.2
  have rX := rX.below hb2
  have rR := rR.below hb2
  clear hb2 hq hx
  generalize w1.heap.size = g at *
  go_loopg [8] n (fun k s8 wr => ∃ i : Nat, s8 = .int .i64 (i : Int) ∧ Hid (i + k = n) ∧ RatAt wr w.heap.size 0 x ∧ RC4 wr (w.heap.size + 1) ∧ RatAt wr g 0 (x ^ i) ∧ (∀ o, wr.frozen? ⟨g, o, none⟩ = false) ∧ Below w.heap.size w wr)
  case atStart => exact ⟨0, rfl, Lib.hid (by omega), rX, rR, rS, fS, hBW⟩
  case round =>
    clear rX rR rS fS hBW
    obtain ⟨i, rfl, hik, rX, rR, rS, fS, hBW⟩ := hrel
    by_cases h0 : i < n
    · obtain ⟨s2, A2, n2, c2, t2, B2, m2, d2, x1, x2, x3, x4, x5⟩ := id rX
      obtain ⟨s3, A3, n3, c3, t3, B3, m3, d3, k1, k2, k3, k4, k5⟩ := id rS
      simp only [Nat.zero_add] at x1 x2 x3 x4 k1 k2 k3 k4
      have hgl := rS.lt
      have hmul := rat_Mul _ _ (x ^ i) x wr (RatP.is k5) (RatP.is x5) (HP i (by omega)).out hXX
      rw [← Rat.pow_succ] at hmul
      clear x5 k5
      go_wp2_with fail
      refine hmul.mono ?_
      rintro e w2 ⟨⟨_, rfl, s6, A6, n6, c6, t6, B6, m6, d6, rfl, hq⟩, hb⟩
      have k1 := cell_below k1 hb
      have k2 := cell_below k2 hb
      have k3 := cell_below k3 hb
      have k4 := cell_below k4 hb
      have fS : ∀ o, w2.frozen? ⟨g, o, none⟩ = false := fun o => ((kept_cells hb).2 _ _ hgl).trans (fS o)
      have hF := (rS.below hb).four
      have e3 : RatAt (st4 w2 g 0 s6 A6 n6 c6 t6 B6 m6 d6) g 0 (x ^ (i + 1)) := RatAt.put hF hq
      have e4 : RatAt (st4 w2 g 0 s6 A6 n6 c6 t6 B6 m6 d6) w.heap.size 0 x := (rX.below hb).other hF (Or.inl (by omega))
      have e5 : RC4 (st4 w2 g 0 s6 A6 n6 c6 t6 B6 m6 d6) (w.heap.size + 1) := (rR.below hb).belowB (below_st4 (Nat.le_refl g) 0) hgx
      have e6 := (hb.mono hBW.size).trans (below_st4 (w := w2) (g := g) (B0 := w.heap.size) (by omega) 0 (s := s6) (A := A6) (n := n6) (c := c6) (t := t6) (B := B6) (m := m6) (d := d6))
      have e7 := hBW.trans e6
      go_wp2_with fail
      go_roundg (gk - 1)
      case measure => have := hik.out; omega
      case rel => exact ⟨i + 1, by simp, Lib.hid (by have := hik.out; omega), e4, e5, e3, fun o => st4_frozen.trans (fS o), e7⟩
    · have hin : i = n := by have := hik.out; omega
      subst hin
      obtain ⟨s3, A3, n3, c3, t3, B3, m3, d3, k1, k2, k3, k4, k5⟩ := id rS
      simp only [Nat.zero_add] at k1 k2 k3 k4
      have hP := rat_put' hBW (g := w.heap.size + 1) (by omega) rR k5
      obtain ⟨r1, r2, r3, r4, rf, rl⟩ := rR
      clear k5
      go_wp2_with fail
      exact bodyPost_ret (v := .agg #[.bool s3, .slice A3 n3 c3, .bool t3, .slice B3 m3 d3]) (by simp [results, Tryz.results91, go_sem, r1, r2, r3, r4]) rfl ⟨⟨_, rfl, RatP.is hP.1⟩, hP.2⟩

set_option maxHeartbeats 1000000 in
theorem uni_derive_nil (A : Option Addr) (n c : Nat) (w : World) (h : n = 0) :
    Calls Tryz.prog 31 #[.slice A n c] w fun e w' => e = .returned (.slice none 0 0) ∧ Below w.heap.size w w' := by
  subst h
  have hb0 := Below.refl w.heap.size w
  go_enter Tryz.func31, Tryz.ntmps31
  go_wp2_with fail
  go_ret
  exact ⟨rfl, hb0⟩
theorem slice_tail (W : World) (b off n c : Nat) (hn : 1 ≤ n) (hc : c ≠ 1) : (Instr.slice 23 (.slice (some ⟨b, off, none⟩) n c) (some (.int .i64 1)) none none).run Tryz.prog W = .ok (.slice (some ⟨b, off + 4, none⟩) (n - 1) (c - 1)) W := by
  have ht' : Tryz.prog.underlying 23 = some (.slice (Tryz.prog.elem 23)) := by simp [Program.elem, Tryz.underlying23]
  rw [run_slice_l W 23 _ _ _ ht' .i64 1 (by omega) (by omega)]
  have he : Tryz.prog.elem 23 = 31 := by simp [Program.elem, Tryz.underlying23]
  have hz : (sizeOf 31).run Tryz.prog W = .ok 4 W := by
    obtain ⟨i, hi, hz⟩ := Option.map_eq_some_iff.1 size_rat
    simp [sizeOf, typeInfo, hi, hz]
  rw [he, hz]
  simp [Result.andThen, sliced, Addr.add, hc]

theorem slice_tail_poly {w : World} {A : Option Addr} {n c : Nat} {p : List Rat} (hA : PolyAt w A p) (hn : n = p.length) (h1 : 1 ≤ n) (hc : n ≤ c) :
    ∃ A', (∀ W, (Instr.slice 23 (.slice A n c) (some (.int .i64 1)) none none).run Tryz.prog W = .ok (.slice A' (n - 1) (c - 1)) W) ∧ PolyAt w A' p.tail := by
  by_cases h2 : n = 1
  · subst h2
    have ht : p.tail = [] := List.eq_nil_of_length_eq_zero (by rw [List.length_tail]; omega)
    refine ⟨if c = 1 then A else A.map (·.add (1 * 4)), fun W => ?_, by rw [ht]; exact PolyAt.nil _ _⟩
    have ht' : Tryz.prog.underlying 23 = some (.slice (Tryz.prog.elem 23)) := by simp [Program.elem, Tryz.underlying23]
    rw [run_slice_l W 23 _ _ _ ht' .i64 1 (by omega) (by omega)]
    have he : Tryz.prog.elem 23 = 31 := by simp [Program.elem, Tryz.underlying23]
    have hz : (sizeOf 31).run Tryz.prog W = .ok 4 W := by
      obtain ⟨i, hi, hz⟩ := Option.map_eq_some_iff.1 size_rat
      simp [sizeOf, typeInfo, hi, hz]
    rw [he, hz]
    rfl
  · obtain ⟨b, off, rfl, _⟩ := hA 0 (by omega)
    refine ⟨some ⟨b, off + 4, none⟩, fun W => slice_tail W b off n c h1 (by omega), fun j hj => ?_⟩
    rw [List.length_tail] at hj
    obtain ⟨b', off', e, h⟩ := hA (j + 1) (by omega)
    injection e with e; injection e with e1 e2; subst e1; subst e2
    refine ⟨b, off + 4, rfl, ?_⟩
    have e3 : off + 4 + j * 4 = off + (j + 1) * 4 := by omega
    have e4 : p.tail.getD j 0 = p.getD (j + 1) 0 := by cases p <;> simp
    rw [e3, e4]; exact h

set_option maxRecDepth 100000 in
set_option maxHeartbeats 4000000 in
theorem uni_derive_pos (A : Option Addr) (n c : Nat) (p : List Rat) (w : World) (hA : PolyAt w A p) (hn : n = p.length) (h1 : 1 ≤ n) (hc : n ≤ c) (hl : n ≤ 400000) (hT : SzB p 68719476736) :
    Calls Tryz.prog 31 #[.slice A n c] w fun e w' => (∃ v, e = .returned v ∧ IsPoly w' v (pder p)) ∧ Below w.heap.size w w' := by
  obtain ⟨A', hsl, hA'⟩ := slice_tail_poly hA hn h1 hc
  have htl : p.tail.length = n - 1 := by rw [List.length_tail]; omega
  have hC := uni_clone (.slice A' (n - 1) (c - 1)) p.tail w ⟨A', c - 1, by rw [htl], hA', by rw [htl]; omega⟩ (by omega)
  rw [htl] at hC
  have hWh := fun (i : Nat) W (hi : i ≤ 400000) => rat_int ((i : Int) + 1) W (by omega) (by omega)
  have Hp0 : ∀ t, p.tail.getD t 0 = p.getD (t + 1) 0 := fun t => by cases p <;> simp
  have HL0 : Hid (∀ t, p.tail.getD t 0 = if t < 0 then p.getD (t + 1) 0 * ((t + 1 : Nat) : Rat) else p.getD (t + 1) 0) := Lib.hid (fun t => by rw [if_neg (by omega)]; exact Hp0 t)
  have HE : ∀ l : List Rat, Hid (l.length = n - 1 → (∀ t, l.getD t 0 = if t < n - 1 then p.getD (t + 1) 0 * ((t + 1 : Nat) : Rat) else p.getD (t + 1) 0) → l = pder p) := fun l => Lib.hid (fun h1 h2 => by
    refine ext_getD (by rw [h1, pder_length, hn]) (fun t => ?_)
    rw [h2 t, pder_getD]
    split
    · rfl
    · rw [getD_past p (by omega)]; grind)
  have Htl := Lib.hid htl
  have en : ((n : Int) == 0) = false := by rw [beq_eq_false_iff_ne]; omega
  have hm : (((n - 1 : Nat) : Int)) = (n : Int) - 1 := by omega
  obtain ⟨m, hmn⟩ : ∃ m, n - 1 = m := ⟨_, rfl⟩
  have hml : m ≤ 400000 := by omega
  rw [hmn] at hC HE htl Htl hsl
  clear hn hA hA' htl hm
  go_enter Tryz.func31, Tryz.ntmps31
  go_wp2_with fail
  refine hC.mono ?_
  rintro e w1 ⟨⟨A2, c2, rfl, hcc, hg⟩, hb⟩
  clear hC
  by_cases hm0 : m = 0
  · subst hm0
    have hpd : pder p = [] := List.eq_nil_of_length_eq_zero (by rw [pder_length]; have := Htl.out; rw [List.length_tail] at this; omega)
    have Hpd := Lib.hid hpd
    clear hg HE hmn hpd
    go_wp2_with fail
    go_loopg [13] 0 (fun k s13 wr => s13 = .int .i64 0 ∧ Below w.heap.size w wr)
    case atStart => exact ⟨rfl, hb⟩
    case round =>
      clear hb
      obtain ⟨rfl, hBW⟩ := hrel
      go_wp2_with fail
      go_ret
      exact ⟨⟨_, rfl, by rw [Hpd.out]; exact IsPoly.nil _ _ _⟩, hBW⟩
  · obtain ⟨g, rfl, hP, hge⟩ := hg (Nat.pos_of_ne_zero hm0)
    clear hg hmn
    go_wp2_with fail
    go_loopg [13] m (fun k s13 wr => ∃ (i : Nat) (l : List Rat), s13 = .int .i64 (i : Int) ∧ Hid (i + k = m) ∧ PB wr g l ∧ Hid (l.length = m) ∧ Hid (∀ t, l.getD t 0 = if t < i then p.getD (t + 1) 0 * ((t + 1 : Nat) : Rat) else p.getD (t + 1) 0) ∧ Below w.heap.size w wr)
    case atStart => exact ⟨0, _, rfl, Lib.hid (by omega), hP, Htl, HL0, hb⟩
    case round =>
      clear hP HL0 hb
      obtain ⟨i, l, rfl, hik, hP, Hl, HL, hBW⟩ := hrel
      by_cases h0 : i < m
      · have hib : i ≤ 400000 := by omega
        have hO := hP.1 i (by rw [Hl.out]; exact h0)
        have hgl := hP.2.2
        have hfz := hP.2.1
        have hli : l.getD i 0 = p.getD (i + 1) 0 := by rw [HL.out, if_neg (by omega)]
        rw [hli] at hO
        obtain ⟨s3, A3, n3, c3, t3, B3, m3, d3, k1, k2, k3, k4, k5⟩ := hO
        have ei : (((i : Int) + 1 : Int) : Rat) = ((i + 1 : Nat) : Rat) := by norm_cast
        have hWi := fun W => hWh i W hib
        rw [ei] at hWi
        obtain ⟨Y, HY⟩ : ∃ Y : Rat, Hid (Y = ((i + 1 : Nat) : Rat)) := ⟨_, Lib.hid rfl⟩
        obtain ⟨Z, HZ⟩ : ∃ Z : Rat, Hid (Z = p.getD (i + 1) 0 * Y) := ⟨_, Lib.hid rfl⟩
        rw [← HY.out] at hWi
        have hYs : rsz Y ≤ 68719476736 := by rw [HY.out]; exact Nat.le_trans (rsz_nat (by unfold base; omega)) (by omega)
        have ew : IntKind.i64.wrap ((i : Int) + 1) = (i : Int) + 1 := by simp [IntKind.wrap, IntKind.bits, IntKind.signed]; omega
        have hmul := fun W' v (hv : IsRat W' v Y) (hW' : Below wr.heap.size wr W') => rat_Mul _ _ (p.getD (i + 1) 0) Y W' (RatP.is (k5.below hW')) hv (hT _) hYs
        rw [← HZ.out] at hmul
        clear k5 hli ei
        have hwl := Nat.le_refl w.heap.size
        go_wp2_with fail
        go_region_held3 (fun w' => Below w.heap.size w w')
          (((try dsimp only); first | with_reducible assumption | with_reducible exact keepO0 hge (by assumption) | with_reducible exact keepC0 hwl (by assumption) (by assumption) | exact hBW.trans (below_drew' _)))
          (first
          | (go_at_call 65
             refine (hWi _).mono ?_
             rintro e wa ⟨⟨va, rfl, hm⟩, hba⟩
             have hbA : Below wr.heap.size wr wa := (below_drew' _).trans hba
             have k1 := cell_below k1 hbA
             have k2 := cell_below k2 hbA
             have k3 := cell_below k3 hbA
             have k4 := cell_below k4 hbA)
          | (go_at_call 64
             refine (hmul _ _ hm hbA).mono ?_
             rintro e w2 ⟨⟨_, rfl, s6, A6, n6, c6, t6, B6, m6, d6, rfl, hq⟩, hb2⟩
             have hb3 : Below wr.heap.size wr w2 := hbA.trans (hb2.mono hbA.size)
             have i1 := cell_below k1 hb2
             have i2 := cell_below k2 hb2
             have i3 := cell_below k3 hb2
             have i4 := cell_below k4 hb2
             have hfz2 : ∀ o, w2.frozen? ⟨g, o, none⟩ = false := fun o => ((kept_cells hb3).2 _ _ hgl).trans (hfz o)))
        all_goals
          have hP2 := (hP.below hb3).set (i := i) (by rw [Hl.out]; exact h0) hq
          have hBW2 := hBW.trans ((hb3.mono hBW.size).trans (below_st4 (g := g) hge (i * 4) (s := s6) (A := A6) (n := n6) (c := c6) (t := t6) (B := B6) (m := m6) (d := d6)))
          have HL2 : Hid (∀ t, (l.set i Z).getD t 0 = if t < i + 1 then p.getD (t + 1) 0 * ((t + 1 : Nat) : Rat) else p.getD (t + 1) 0) := Lib.hid (fun t => by
            rw [getD_set]
            have hL := HL.out t
            by_cases ht : i = t
            · subst ht
              rw [if_pos ⟨rfl, by rw [Hl.out]; exact h0⟩, if_pos (by omega), HZ.out, HY.out]
            · rw [if_neg (by omega), hL]
              by_cases h2 : t < i
              · rw [if_pos h2, if_pos (by omega)]
              · rw [if_neg h2, if_neg (by omega)])
          clear k1 k2 k3 k4 i1 i2 i3 i4 hfz hfz2 hP hBW
          go_wp2_with fail
          go_roundg (gk - 1)
          case measure => have := hik.out; omega
          case rel => exact ⟨i + 1, l.set i Z, by simp, Lib.hid (by have := hik.out; omega), hP2, Lib.hid (by rw [List.length_set]; exact Hl.out), HL2, hBW2⟩
      · have hin : i = m := by have := hik.out; omega
        subst hin
        have he := (HE l).out Hl.out HL.out
        have Hres : Hid (IsPoly wr (.slice (some ⟨g, 0, none⟩) i c2) (pder p)) := Lib.hid (by rw [← he]; exact ⟨_, _, by rw [Hl.out], hP.poly, by rw [Hl.out]; exact hcc⟩)
        clear he hP
        go_wp2_with fail
        go_ret
        exact ⟨⟨_, rfl, Hres.out⟩, hBW⟩
theorem uni_derive (v : Value) (p : List Rat) (w : World) (hv : IsPoly w v p) (hl : p.length ≤ 400000) (hT : SzB p 68719476736) :
    Calls Tryz.prog 31 #[v] w fun e w' => (∃ v, e = .returned v ∧ IsPoly w' v (pder p)) ∧ Below w.heap.size w w' := by
  obtain ⟨A, c, rfl, hA, hc⟩ := hv
  by_cases h : p = []
  · subst h
    refine (uni_derive_nil A _ c w rfl).mono ?_
    rintro e w1 ⟨rfl, hb⟩
    exact ⟨⟨_, rfl, IsPoly.nil _ _ _⟩, hb⟩
  · exact uni_derive_pos A _ c p w hA rfl (List.length_pos_iff.2 h) hc hl hT

end Go.Proofs.YtlklgeidffjidaaGreat

/- The walk of Resultant (package univariate). -/
namespace Go.Proofs.YtlklgeidffjidaaGreat
open Go.RowKit
set_option linter.unusedSimpArgs false

/-- The sign of a step. -/
def rsgn (a b : List Rat) (o : Rat) : Rat := if (a.length - 1) % 2 = 1 ∧ (b.length - 1) % 2 = 1 then -o else o
/-- What a step makes of the product. -/
def rnext (a b : List Rat) (o : Rat) : Rat := rsgn a b o * plead b ^ ((a.length - 1) - ((pmod a b).length - 1))
/-- The loop of the resultant. -/
def presF : Nat → List Rat → List Rat → Rat → Rat
  | 0, _, _, _ => 0
  | f + 1, a, b, o => if b.length ≤ 1 then o * (b.getD 0 0) ^ (a.length - 1) else if pmod a b = [] then 0 else presF f b (pmod a b) (rnext a b o)
def PowOK (x o : Rat) (n : Nat) : Prop := n ≤ 400000 ∧ rsz o ≤ 68719476736 ∧ ∃ X, rsz x ≤ X ∧ 1 + n * X + X ≤ 68719476736
/-- What is asked of the sizes, step by step. -/
def ResOK : Nat → List Rat → List Rat → Rat → Prop
  | 0, _, _, _ => True
  | f + 1, a, b, o => if b.length ≤ 1 then PowOK (b.getD 0 0) o (a.length - 1) else DivOK a b ∧ (pmod a b = [] ∨ (PowOK (plead b) o ((a.length - 1) - ((pmod a b).length - 1)) ∧ ResOK f b (pmod a b) (rnext a b o)))
def pres (a b : List Rat) : Rat := if a = [] ∨ b = [] then 0 else presF b.length a b 1
theorem PowOK.pow {x o : Rat} {n : Nat} (h : PowOK x o n) : rsz (x ^ n) ≤ 68719476736 := by
  obtain ⟨_, _, X, h1, h2⟩ := h
  have := rsz_pow h1 n; omega
theorem parity (m n : Nat) : ((m &&& n) &&& 1 = 1) ↔ (m % 2 = 1 ∧ n % 2 = 1) := by
  rw [Nat.and_one_is_mod, Nat.mod_two_eq_one_iff_testBit_zero, Nat.mod_two_eq_one_iff_testBit_zero, Nat.mod_two_eq_one_iff_testBit_zero, Nat.testBit_and]; simp
theorem rsz_rsgn (a b : List Rat) (o : Rat) : rsz (rsgn a b o) = rsz o := by unfold rsgn; split <;> simp [rsz_neg]

set_option maxHeartbeats 1000000 in
theorem uni_resultant_nil (A B : Option Addr) (n m c d : Nat) (w : World) (h : ((n : Int) == 0 || (m : Int) == 0) = true) :
    Calls Tryz.prog 46 #[.slice A n c, .slice B m d] w fun e w' => (∃ v, e = .returned v ∧ IsRat w' v 0) ∧ Below w.heap.size w w' := by
  have hZ := fun W => uni_zero W
  generalize (0 : Rat) = z at *
  by_cases hn : ((n : Int) == 0) = true
  all_goals
    first
      | (have hm : ((n : Int) == 0) = true := hn
         go_enter Tryz.func46, Tryz.ntmps46
         go_wp2_with fail
         generalize hE : World.alloc _ _ = W
         have hBW : Below w.heap.size w W := by rw [← hE]; exact below_alloc _ _
         have hR : RC4 W w.heap.size := by rw [← hE]; exact ⟨by simp [go_sem], by simp [go_sem], by simp [go_sem], by simp [go_sem], by simp [go_sem], by simp⟩
         clear hE
         refine (hZ _).mono ?_
         rintro e w1 ⟨⟨_, rfl, s3, A3, n3, m3, t3, B3, k3, l3, rfl, hq⟩, hb⟩
         have hBW := hBW.trans (hb.mono hBW.size)
         have hR := hR.below hb
         have hP := rat_put' hBW (by omega) hR hq
         obtain ⟨r0, r1, r2, r3, rf, rl⟩ := hR
         go_wp2
         exact bodyPost_ret (v := .agg #[.bool s3, .slice A3 n3 m3, .bool t3, .slice B3 k3 l3]) (by simp [results, Tryz.results46, go_sem, r0, r1, r2, r3]) rfl ⟨⟨_, rfl, RatP.is hP.1⟩, hP.2⟩)
      | (have hn : ((n : Int) == 0) = false := by simpa using hn
         have hm : ((m : Int) == 0) = true := by rw [hn] at h; simpa using h
         go_enter Tryz.func46, Tryz.ntmps46
         go_wp2_with fail
         generalize hE : World.alloc _ _ = W
         have hBW : Below w.heap.size w W := by rw [← hE]; exact below_alloc _ _
         have hR : RC4 W w.heap.size := by rw [← hE]; exact ⟨by simp [go_sem], by simp [go_sem], by simp [go_sem], by simp [go_sem], by simp [go_sem], by simp⟩
         clear hE
         refine (hZ _).mono ?_
         rintro e w1 ⟨⟨_, rfl, s3, A3, n3, m3, t3, B3, k3, l3, rfl, hq⟩, hb⟩
         have hBW := hBW.trans (hb.mono hBW.size)
         have hR := hR.below hb
         have hP := rat_put' hBW (by omega) hR hq
         obtain ⟨r0, r1, r2, r3, rf, rl⟩ := hR
         go_wp2
         exact bodyPost_ret (v := .agg #[.bool s3, .slice A3 n3 m3, .bool t3, .slice B3 k3 l3]) (by simp [results, Tryz.results46, go_sem, r0, r1, r2, r3]) rfl ⟨⟨_, rfl, RatP.is hP.1⟩, hP.2⟩)

/-! The loop. -/

/-- A polynomial that does not lie in block g. -/
def IsAway (g : Nat) (w : World) (v : Value) (p : List Rat) : Prop := ∃ A c, v = .slice A p.length c ∧ PolyAt w A p ∧ p.length ≤ c ∧ ∀ a, A = some a → p ≠ [] → a.block ≠ g
theorem IsAway.poly {g : Nat} {w : World} {v : Value} {p : List Rat} (h : IsAway g w v p) : IsPoly w v p := by
  obtain ⟨A, c, e, h1, h2, _⟩ := h; exact ⟨A, c, e, h1, h2⟩
theorem IsAway.below {g : Nat} {w w' : World} {v : Value} {p : List Rat} (h : IsAway g w v p) (hb : Below w.heap.size w w') : IsAway g w' v p := by
  obtain ⟨A, c, e, h1, h2, h3⟩ := h; exact ⟨A, c, e, h1.below hb, h2, h3⟩
theorem IsAway.st4 {g o : Nat} {w : World} {v : Value} {p : List Rat} {s A n c t B m d} (h : IsAway g w v p) (hf : Four w g o) : IsAway g (st4 w g o s A n c t B m d) v p := by
  obtain ⟨A, c, e, h1, h2, h3⟩ := h
  refine ⟨A, c, e, ?_, h2, h3⟩
  intro j hj
  obtain ⟨b, off, e1, h⟩ := h1 j hj
  exact ⟨b, off, e1, h.other hf (Or.inl (h3 _ e1 (fun e2 => by rw [e2] at hj; simp at hj)))⟩
theorem IsNew.away {B g : Nat} {w : World} {v : Value} {p : List Rat} (h : IsNew B w v p) (hg : g < B) : IsAway g w v p := by
  obtain ⟨A, c, e, h1, h2, h3⟩ := h; exact ⟨A, c, e, h1, h2, fun a ha h0 => by have := (h3 a ha h0).1; omega⟩
/-- What lies in a world lies in none of the blocks that are made later. -/
theorem IsPoly.away {g : Nat} {w w' : World} {v : Value} {p : List Rat} (h : IsPoly w v p) (hb : Below w.heap.size w w') (hg : w.heap.size ≤ g) : IsAway g w' v p := by
  obtain ⟨A, c, e, h1, h2⟩ := h
  refine ⟨A, c, e, h1.below hb, h2, fun a ha h0 => ?_⟩
  obtain ⟨b, off, e1, h⟩ := h1 0 (List.length_pos_iff.2 h0)
  rw [e1] at ha; cases ha
  have := h.lt
  show b ≠ g
  omega
theorem i64_small {n : Nat} (h : n ≤ 800000) : IntKind.i64.wrap (n : Int) = (n : Int) := by simp [IntKind.wrap, IntKind.bits, IntKind.signed]; omega
theorem pmod_length_le {a b : List Rat} (hb : PC b) (hb0 : b ≠ []) : (pmod a b).length ≤ a.length := by
  by_cases h : a.length < b.length
  · rw [(dst_short hb hb0 h).2]; exact ptrim_length_le a
  · have := pmod_lt hb hb0 a; omega
theorem st4_cells' (w : World) (g : Nat) (s : Bool) (A : Option Addr) (n c : Nat) (t : Bool) (B : Option Addr) (m d : Nat) (hf : Four w g 0) :
    (st4 w g 0 s A n c t B m d).cell? ⟨g, 0, none⟩ = some (.bool s) ∧ (st4 w g 0 s A n c t B m d).cell? ⟨g, 1, none⟩ = some (.slice A n c) ∧ (st4 w g 0 s A n c t B m d).cell? ⟨g, 2, none⟩ = some (.bool t) ∧ (st4 w g 0 s A n c t B m d).cell? ⟨g, 3, none⟩ = some (.slice B m d) := by
  obtain ⟨u0, u1, u2, u3, h0, h1, h2, h3, k⟩ := hf
  simp only [Nat.zero_add] at h1 h2 h3
  unfold Proofs.YtlklgeidffjidaaGreat.st4
  simp only [Nat.zero_add]
  refine ⟨?_, ?_, ?_, ?_⟩
  · rw [World.cell?_setCell_other _ _ _ _ (addr_ne (by omega)), World.cell?_setCell_other _ _ _ _ (addr_ne (by omega)), World.cell?_setCell_other _ _ _ _ (addr_ne (by omega))]; simp [go_sem, h0]
  · rw [World.cell?_setCell_other _ _ _ _ (addr_ne (by omega)), World.cell?_setCell_other _ _ _ _ (addr_ne (by omega))]; simp [go_sem, h1]
  · rw [World.cell?_setCell_other _ _ _ _ (addr_ne (by omega))]; simp [go_sem, h2]
  · simp [go_sem, h3]
theorem i64_and_nat (a b : Nat) (ha : a < 4611686018427387904) (hb : b < 4611686018427387904) : bits .and .i64 (a : Int) (b : Int) = ((a &&& b : Nat) : Int) := by
  have hx : a &&& b < 2 ^ 62 := Nat.and_lt_two_pow _ (by omega)
  show IntKind.i64.wrap ((BitVec.ofInt 64 (a : Int) &&& BitVec.ofInt 64 (b : Int)).toNat : Int) = _
  rw [BitVec.toNat_and, ofInt_u64 a (by omega), ofInt_u64 b (by omega), IntKind.wrap_i64]
  omega
theorem odd_bits (m n : Nat) (hm : m < 4611686018427387904) (hn : n < 4611686018427387904) : bits .and .i64 (bits .and .i64 (m : Int) (n : Int)) 1 = if m % 2 = 1 ∧ n % 2 = 1 then 1 else 0 := by
  rw [i64_and_nat m n hm hn]
  have h := i64_and_nat (m &&& n) 1 (Nat.lt_of_le_of_lt Nat.and_le_left hm) (by omega)
  rw [show ((1 : Nat) : Int) = 1 from rfl] at h
  rw [h]
  have := parity m n
  have h2 : (m &&& n) &&& 1 < 2 := by rw [Nat.and_one_is_mod]; omega
  split
  · rename_i h3; rw [this.2 h3]; rfl
  · rename_i h3; have : (m &&& n) &&& 1 ≠ 1 := fun e => h3 (this.1 e); omega

set_option maxRecDepth 100000 in
set_option maxHeartbeats 8000000 in
theorem uni_resultant_pos (u v : Value) (p q : List Rat) (w : World) (hu : IsPoly w u p) (hv : IsPoly w v q) (hq : PC q) (hp0 : p ≠ []) (hq0 : q ≠ []) (hlp : p.length ≤ 400000) (hlq : q.length ≤ 400000) (hok : ResOK q.length p q 1) :
    Calls Tryz.prog 46 #[u, v] w fun e w' => (∃ v, e = .returned v ∧ IsRat w' v (presF q.length p q 1)) ∧ Below w.heap.size w w' := by
  have hO := fun W => rat_int 1 W (by omega) (by omega)
  have e1 : ((1 : Int) : Rat) = 1 := rfl
  rw [e1] at hO
  clear e1
  have hZ := fun W => uni_zero W
  obtain ⟨R, HR⟩ : ∃ R, Hid (presF q.length p q 1 = R) := ⟨_, Lib.hid rfl⟩
  have Hok := Lib.hid hok
  rw [HR.out]
  clear hok
  obtain ⟨A, c, rfl, hA⟩ := id hu
  obtain ⟨B, d, rfl, hB⟩ := id hv
  have hn0 : 0 < p.length := List.length_pos_iff.2 hp0
  have hm0 : 0 < q.length := List.length_pos_iff.2 hq0
  have en : ((p.length : Int) == 0) = false := by rw [beq_eq_false_iff_ne]; omega
  have em : ((q.length : Int) == 0) = false := by rw [beq_eq_false_iff_ne]; omega
  have Hu := Lib.hid hu
  have Hv := Lib.hid hv
  obtain ⟨one, H1⟩ : ∃ x : Rat, Hid (x = 1) := ⟨1, Lib.hid rfl⟩
  have HR' : Hid (presF q.length p q one = R) := Lib.hid (by rw [H1.out]; exact HR.out)
  have Hok' : Hid (ResOK q.length p q one) := Lib.hid (by rw [H1.out]; exact Hok.out)
  rw [← H1.out] at hO
  clear hA hB hu hv Hok HR
  obtain ⟨zr, Hz⟩ : ∃ x : Rat, Hid (x = 0) := ⟨0, Lib.hid rfl⟩
  rw [← Hz.out] at hZ
  have Hp0 := Lib.hid hp0
  have Hq0 := Lib.hid hq0
  have Hq := Lib.hid hq
  clear hp0 hq0 hq
  go_enter Tryz.func46, Tryz.ntmps46
  go_wp2_with fail
  generalize hE : World.alloc _ _ = W
  have hBW : Below w.heap.size w W := by rw [← hE]; exact below_alloc _ _
  have rR : RC4 W w.heap.size := by rw [← hE]; exact ⟨by simp [go_sem], by simp [go_sem], by simp [go_sem], by simp [go_sem], by simp [go_sem], by simp⟩
  clear hE
  refine (hO _).mono ?_
  rintro e w1 ⟨⟨_, rfl, s, A1, n1, c1, t, B1, m1, d1, rfl, hq⟩, hb1⟩
  have hBW := hBW.trans (hb1.mono hBW.size)
  have rR := rR.below hb1
  clear hb1 hO
  go_wp2_with fail
  generalize hE : World.alloc _ _ = W2
  have hb2 : Below w1.heap.size w1 W2 := by rw [← hE]; exact below_alloc _ _
  have rS : RatAt W2 w1.heap.size 0 one := ⟨s, A1, n1, c1, t, B1, m1, d1, by rw [← hE]; simp [go_sem], by rw [← hE]; simp [go_sem], by rw [← hE]; simp [go_sem], by rw [← hE]; simp [go_sem], hq.below hb2⟩
  have fS : ∀ o, W2.frozen? ⟨w1.heap.size, o, none⟩ = false := by rw [← hE]; simp [go_sem]
  clear hE
  have hBW := hBW.trans (hb2.mono hBW.size)
  have hgx : w.heap.size < w1.heap.size := rR.2.2.2.2.2
  have rR := rR.below hb2
  clear hb2 hq
  generalize w1.heap.size = g at *
  go_loopg [0, 1] q.length (fun k s0 s1 wr => ∃ (a b : List Rat) (o : Rat), IsAway g wr s0 a ∧ IsAway g wr s1 b ∧ Hid (a ≠ [] ∧ b ≠ [] ∧ PC b ∧ a.length ≤ 400000 ∧ b.length ≤ 400000 ∧ b.length ≤ k) ∧ Hid (presF k a b o = R) ∧ Hid (ResOK k a b o) ∧
      RC4 wr w.heap.size ∧ RatAt wr g 0 o ∧ (∀ x, wr.frozen? ⟨g, x, none⟩ = false) ∧ Below w.heap.size w wr)
  case atStart => exact ⟨p, q, one, Hu.out.away hBW (by omega), Hv.out.away hBW (by omega), Lib.hid ⟨Hp0.out, Hq0.out, Hq.out, hlp, hlq, Nat.le_refl _⟩, HR', Hok', rR, rS, fS, hBW⟩
  case round =>
    clear rR rS fS hBW Hu Hv HR' Hok' Hp0 Hq0 Hq
    obtain ⟨a, b, o, hPa, hPb, HF, HR, Hok, rR, rS, fS, hBW⟩ := hrel
    obtain ⟨ha0, hb0, hbc, hla, hlb, hbk⟩ := HF.out
    have hal : 0 < a.length := List.length_pos_iff.2 ha0
    have hbl : 0 < b.length := List.length_pos_iff.2 hb0
    obtain ⟨f, rfl⟩ : ∃ f, gk = f + 1 := ⟨gk - 1, by omega⟩
    have hR := HR.out
    have hK := Hok.out
    simp only [presF, ResOK] at hR hK
    obtain ⟨A, c, rfl, hA, hAc, _⟩ := id hPa
    obtain ⟨B, d, rfl, hB, hBc, _⟩ := id hPb
    have hgl := rS.lt
    by_cases hb1 : b.length ≤ 1
    · rw [if_pos hb1] at hR hK
      have hb1' : b.length = 1 := by omega
      obtain ⟨bb, off, rfl, hb0'⟩ := hB 0 (by omega)
      obtain ⟨s3, A3, n3, c3, t3, B3, m3, d3, k1, k2, k3, k4, k5⟩ := id rS
      obtain ⟨s4, A4, n4, c4, t4, B4, m4, d4, j1, j2, j3, j4, j5⟩ := hb0'
      simp only [Nat.zero_add, Nat.zero_mul, Nat.add_zero] at k1 k2 k3 k4 j1 j2 j3 j4
      obtain ⟨mm, hmm⟩ : ∃ mm : Nat, mm + 1 = a.length := ⟨a.length - 1, by omega⟩
      have emm : (a.length : Int) - 1 = (mm : Int) := by omega
      have hmm' : a.length - 1 = mm := by omega
      have ew := i64_small (n := mm) (by omega)
      rw [hmm'] at hR hK
      obtain ⟨hK1, hK2, X, hK3, hK4⟩ := id hK
      have hKp := hK.pow
      have hpow := fun W' (hW' : Below wr.heap.size wr W') => uni_power _ (b.getD 0 0) mm (mm : Int) W' (RatP.is (j5.below hW')) X hK3 rfl hK1 hK4
      have hmul := fun W' v (hv : IsRat W' v (b.getD 0 0 ^ mm)) (hW' : Below wr.heap.size wr W') => rat_Mul _ _ o (b.getD 0 0 ^ mm) W' (RatP.is (k5.below hW')) hv hK2 hKp
      rw [hR] at hmul
      obtain ⟨r1, r2, r3, r4, rf, rl⟩ := id rR
      have hwl := Nat.le_refl w.heap.size
      have ngw : g ≠ w.heap.size := by omega
      rw [hb1'] at *
      clear hR hK hK1 hK2 hK3 hK4 hKp k5 j5 hmm' hA hAc hBc
      generalize b.getD 0 0 ^ mm = Y at *
      generalize a.length = nn at *
      go_wp2_with fail
      go_region_held3 (fun w' => Below w.heap.size w w' ∧ w'.cell? ⟨g, 0, none⟩ = some (.bool s3) ∧ w'.cell? ⟨g, 1, none⟩ = some (.slice A3 n3 c3) ∧ w'.cell? ⟨g, 2, none⟩ = some (.bool t3) ∧ w'.cell? ⟨g, 3, none⟩ = some (.slice B3 m3 d3))
        (((try dsimp only); first | with_reducible assumption | with_reducible exact keepO4 hwl ngw ngw ngw ngw (by assumption) | with_reducible exact keepC4 hwl (by assumption) (by assumption) | exact ⟨hBW.trans (below_drew' _), k1, k2, k3, k4⟩))
        (first
        | (go_at_call 91
           refine (hpow _ (below_drew' _)).mono ?_
           rintro e wa ⟨⟨va, rfl, hva⟩, hba⟩
           have hbA : Below wr.heap.size wr wa := (below_drew' _).trans hba)
        | (go_at_call 64
           refine (hmul _ _ hva hbA).mono ?_
           rintro e wb ⟨⟨_, rfl, s6, A6, n6, c6, t6, B6, m6, d6, rfl, hq⟩, hbb⟩
           have hb3 : Below wr.heap.size wr wb := hbA.trans (hbb.mono hbA.size)
           have i1 := cell_below r1 hb3
           have i2 := cell_below r2 hb3
           have i3 := cell_below r3 hb3
           have i4 := cell_below r4 hb3
           have hfz2 : ∀ o, wb.frozen? ⟨w.heap.size, o, none⟩ = false := fun o => ((kept_cells hb3).2 _ _ rl).trans (rf o)))
      all_goals
        have hP := rat_put' (hBW.trans (hb3.mono hBW.size)) (Nat.le_refl _) (rR.below hb3) hq
        go_wp2_with fail
        exact bodyPost_ret (v := .agg #[.bool s6, .slice A6 n6 c6, .bool t6, .slice B6 m6 d6]) (by simp [results, Tryz.results46, go_sem, i1, i2, i3, i4]) rfl ⟨⟨_, rfl, RatP.is hP.1⟩, hP.2⟩
    · rw [if_neg hb1] at hR hK
      obtain ⟨hdiv, hK⟩ := hK
      have hmod := uni_mod _ _ a b wr hPa.poly hPb.poly hbc hb0 hdiv
      have eb1 : ¬ ((b.length : Int) ≤ 1) := by omega
      have hgw : w.heap.size ≤ g := Nat.le_of_lt hgx
      have hwl := Nat.le_refl w.heap.size
      have hrl := pmod_length_le (a := a) hbc hb0
      have hrb := pmod_lt hbc hb0 a
      have HPC := Lib.hid (pmod_PC hbc hb0 a)
      have HB := Lib.hid hb0
      by_cases hr : pmod a b = []
      · rw [if_pos hr] at hR
        rw [hr] at hmod
        have HRz : Hid (zr = R) := Lib.hid (by rw [Hz.out]; exact hR)
        obtain ⟨r1, r2, r3, r4, rf, rl⟩ := id rR
        clear hR hK hA hB hAc hBc hdiv hr hrl hrb
        go_wp2_with fail
        refine hmod.mono ?_
        rintro e w1 ⟨⟨_, rfl, RA, rc, rfl, hr⟩, hb⟩
        have hBW1 := hBW.trans (hb.mono hBW.size)
        have rR1 := rR.below hb
        clear hmod
        go_wp2_with fail
        refine (hZ _).mono ?_
        rintro e w2 ⟨⟨_, rfl, s6, A6, n6, c6, t6, B6, m6, d6, rfl, hq⟩, hb2⟩
        have hBW2 := hBW1.trans (hb2.mono hBW1.size)
        have rR2 := rR1.below hb2
        rw [HRz.out] at hq
        have hP := rat_put' hBW2 (Nat.le_refl _) rR2 hq
        obtain ⟨i1, i2, i3, i4, rf2, rl2⟩ := rR2
        go_wp2_with fail
        exact bodyPost_ret (v := .agg #[.bool s6, .slice A6 n6 c6, .bool t6, .slice B6 m6 d6]) (by simp [results, Tryz.results46, go_sem, i1, i2, i3, i4]) rfl ⟨⟨_, rfl, RatP.is hP.1⟩, hP.2⟩
      · rw [if_neg hr] at hR
        have hK := hK.resolve_left hr
        have hrp : 0 < (pmod a b).length := List.length_pos_iff.2 hr
        have HR2 := Lib.hid hR
        have HOK2 := Lib.hid hK.2
        have HF2 : Hid (b ≠ [] ∧ pmod a b ≠ [] ∧ PC (pmod a b) ∧ b.length ≤ 400000 ∧ (pmod a b).length ≤ 400000 ∧ (pmod a b).length ≤ f) := Lib.hid ⟨hb0, hr, HPC.out, hlb, by omega, by omega⟩
        obtain ⟨mA, hmA⟩ : ∃ m : Nat, m + 1 = a.length := ⟨a.length - 1, by omega⟩
        obtain ⟨nB, hnB⟩ : ∃ m : Nat, m + 1 = b.length := ⟨b.length - 1, by omega⟩
        obtain ⟨kR, hkR⟩ : ∃ m : Nat, m + 1 = (pmod a b).length := ⟨(pmod a b).length - 1, by omega⟩
        obtain ⟨ee, hee⟩ : ∃ e : Nat, e + kR = mA := ⟨mA - kR, by omega⟩
        have eA : (a.length : Int) - 1 = (mA : Int) := by omega
        have eB : (b.length : Int) - 1 = (nB : Int) := by omega
        have eR : ((pmod a b).length : Int) - 1 = (kR : Int) := by omega
        have eE : (mA : Int) - (kR : Int) = (ee : Int) := by omega
        have e1' : a.length - 1 = mA := by omega
        have e2' : b.length - 1 = nB := by omega
        have e3' : (pmod a b).length - 1 = kR := by omega
        have e4' : mA - kR = ee := by omega
        have ewA := i64_small (n := mA) (by omega)
        have ewB := i64_small (n := nB) (by omega)
        have ewR := i64_small (n := kR) (by omega)
        have ewE := i64_small (n := ee) (by omega)
        have hKK := hK.1
        rw [e1', e3', e4'] at hKK
        have hKp := hKK.pow
        obtain ⟨hK2', hK3, X, hK4, hK5⟩ := hKK
        have Hrn : Hid (rnext a b o = rsgn a b o * plead b ^ ee) := Lib.hid (by unfold rnext; rw [e1', e3', e4'])
        have hodd := odd_bits mA nB (by omega) (by omega)
        have Hsg : Hid (rsgn a b o = if mA % 2 = 1 ∧ nB % 2 = 1 then -o else o) := Lib.hid (by unfold rsgn; rw [e1', e2'])
        have hrl2 : (pmod a b).length ≤ 400000 := by omega
        have er0 : (((pmod a b).length : Int) == 0) = false := by rw [beq_eq_false_iff_ne]; omega
        clear hR hK hA hB hAc hBc hdiv hr hrl hrb e1' e2' e3' e4' hmA hnB hkR hee hrp
        by_cases hpar : mA % 2 = 1 ∧ nB % 2 = 1
        · rw [if_pos hpar] at hodd
          have Hso : Hid (rsgn a b o = -o) := Lib.hid (by rw [Hsg.out, if_pos hpar])
          clear hpar
          go_wp2_with fail
          refine hmod.mono ?_
          rintro e w1 ⟨⟨vr, rfl, hr0⟩, hb⟩
          have hBW1 := hBW.trans (hb.mono hBW.size)
          have hPr1 := hr0.away (g := g) hgl
          have hPb1 := hPb.below hb
          have rR1 := rR.below hb
          have rS1 := rS.below hb
          have fS1 : ∀ x, w1.frozen? ⟨g, x, none⟩ = false := fun x => ((kept_cells hb).2 _ _ hgl).trans (fS x)
          have hgl1 := rS1.lt
          obtain ⟨RA, rc, rfl, _⟩ := id hr0
          obtain ⟨s3, A3, n3, c3, t3, B3, m3, d3, k1, k2, k3, k4, k5⟩ := id rS1
          simp only [Nat.zero_add] at k1 k2 k3 k4
          clear hmod hr0 rR rS fS hb hPb hPa
          have hneg := rat_Neg _ o w1 (RatP.is k5) hK3
          rw [← Hso.out] at hneg
          clear k5
          go_wp2_with fail
          refine hneg.mono ?_
          rintro e wn ⟨⟨_, rfl, s5, A5, n5, c5, t5, B5, m5, d5, rfl, hqn⟩, hbn⟩
          have k1 := cell_below k1 hbn
          have k2 := cell_below k2 hbn
          have k3 := cell_below k3 hbn
          have k4 := cell_below k4 hbn
          have fSn : ∀ x, wn.frozen? ⟨g, x, none⟩ = false := fun x => ((kept_cells hbn).2 _ _ hgl1).trans (fS1 x)
          have hFn := (rS1.below hbn).four
          have rS : RatAt (st4 wn g 0 s5 A5 n5 c5 t5 B5 m5 d5) g 0 (rsgn a b o) := RatAt.put hFn hqn
          have rR : RC4 (st4 wn g 0 s5 A5 n5 c5 t5 B5 m5 d5) w.heap.size := (rR1.below hbn).belowB (below_st4 (Nat.le_refl g) 0) hgx
          have hBW2 := hBW1.trans ((hbn.mono hBW1.size).trans (below_st4 (w := wn) (g := g) (B0 := w.heap.size) hgw 0 (s := s5) (A := A5) (n := n5) (c := c5) (t := t5) (B := B5) (m := m5) (d := d5)))
          have hPb2 := (hPb1.below hbn).st4 (s := s5) (A := A5) (n := n5) (c := c5) (t := t5) (B := B5) (m := m5) (d := d5) hFn
          have hPr2 := (hPr1.below hbn).st4 (s := s5) (A := A5) (n := n5) (c := c5) (t := t5) (B := B5) (m := m5) (d := d5) hFn
          have fS : ∀ x, (st4 wn g 0 s5 A5 n5 c5 t5 B5 m5 d5).frozen? ⟨g, x, none⟩ = false := fun x => st4_frozen.trans (fSn x)
          have hst := st4_cells' wn g s5 A5 n5 c5 t5 B5 m5 d5 hFn
          have k5 := hqn.st4 (s := s5) (A := A5) (n := n5) (c := c5) (t := t5) (B := B5) (m := m5) (d := d5) hFn
          clear hneg hPb1 hPr1 rS1 fS1 rR1 hBW1 hqn hFn
          simp only [st4, Nat.zero_add] at rS rR hBW2 hPb2 hPr2 fS hst k5
          have hoo : rsz (rsgn a b o) ≤ 68719476736 := by rw [rsz_rsgn]; exact hK3
          obtain ⟨oo, Hoo⟩ : ∃ oo, Hid (oo = rsgn a b o) := ⟨_, Lib.hid rfl⟩
          rw [← Hoo.out] at rS k5 hoo
          go_wp2_with fail
          generalize World.setCell (World.setCell (World.setCell (World.setCell _ _ _) _ _) _ _) _ _ = w2 at *
          clear k1 k2 k3 k4 fSn
          obtain ⟨k1, k2, k3, k4⟩ := hst
          have hlead := fun W (hW : Below w2.heap.size w2 W) => uni_lead _ b W (hPb2.poly.below hW) hb0 (by omega)
          have hpow := fun W v (hv : IsRat W v (plead b)) => uni_power v (plead b) ee (ee : Int) W hv X hK4 rfl hK2' hK5
          have hmul := fun W v (hv : IsRat W v (plead b ^ ee)) (hW : Below w2.heap.size w2 W) => rat_Mul _ _ oo (plead b ^ ee) W (RatP.is (k5.below hW)) hv hoo hKp
          have hnx : oo * plead b ^ ee = rnext a b o := by rw [Hrn.out, Hoo.out]
          rw [hnx] at hmul
          have HB0 := Lib.hid hb0
          have fS2 := fS
          clear k5 hnx hb0
          generalize plead b ^ ee = Y at *
          generalize plead b = L at *
          go_wp2_with fail
          go_region_held3 (fun w' => Below w.heap.size w w')
            (((try dsimp only); first | with_reducible assumption | with_reducible exact keepO0 hgw (by assumption) | with_reducible exact keepC0 hwl (by assumption) (by assumption) | exact hBW2.trans (below_drew' _)))
            (first
            | (go_at_call 59
               refine (hlead _ (below_drew' _)).mono ?_
               rintro e wa ⟨⟨va, rfl, hva⟩, hba⟩
               have hbA : Below w2.heap.size w2 wa := (below_drew' _).trans hba
               have k1 := cell_below k1 hbA
               have k2 := cell_below k2 hbA
               have k3 := cell_below k3 hbA
               have k4 := cell_below k4 hbA)
            | (go_at_call 91
               refine (hpow _ _ hva).mono ?_
               rintro e wb ⟨⟨vb, rfl, hvb⟩, hbb⟩
               have hbB : Below w2.heap.size w2 wb := hbA.trans (hbb.mono hbA.size)
               have k1 := cell_below k1 hbb
               have k2 := cell_below k2 hbb
               have k3 := cell_below k3 hbb
               have k4 := cell_below k4 hbb)
            | (go_at_call 64
               refine (hmul _ _ hvb hbB).mono ?_
               rintro e wc ⟨⟨_, rfl, s6, A6, n6, c6, t6, B6, m6, d6, rfl, hq⟩, hbc⟩
               have hb3 : Below w2.heap.size w2 wc := hbB.trans (hbc.mono hbB.size)
               have i1 := cell_below k1 hbc
               have i2 := cell_below k2 hbc
               have i3 := cell_below k3 hbc
               have i4 := cell_below k4 hbc
               have hfz2 : ∀ o, wc.frozen? ⟨g, o, none⟩ = false := fun o => ((kept_cells hb3).2 _ _ rS.lt).trans (fS2 o)))
          all_goals
            have hF := (rS.below hb3).four
            have z1 : RatAt (st4 wc g 0 s6 A6 n6 c6 t6 B6 m6 d6) g 0 (rnext a b o) := RatAt.put hF hq
            have z2 : RC4 (st4 wc g 0 s6 A6 n6 c6 t6 B6 m6 d6) w.heap.size := (rR.below hb3).belowB (below_st4 (Nat.le_refl g) 0) hgx
            have z3 := hBW2.trans ((hb3.mono hBW2.size).trans (below_st4 (w := wc) (g := g) (B0 := w.heap.size) hgw 0 (s := s6) (A := A6) (n := n6) (c := c6) (t := t6) (B := B6) (m := m6) (d := d6)))
            have z4 := (hPb2.below hb3).st4 (s := s6) (A := A6) (n := n6) (c := c6) (t := t6) (B := B6) (m := m6) (d := d6) hF
            have z5 := (hPr2.below hb3).st4 (s := s6) (A := A6) (n := n6) (c := c6) (t := t6) (B := B6) (m := m6) (d := d6) hF
            clear k1 k2 k3 k4 i1 i2 i3 i4
            go_wp2_with fail
            go_roundg f
            case measure => omega
            case rel => exact ⟨b, pmod a b, _, z4, z5, HF2, HR2, HOK2, z2, z1, fun x => st4_frozen.trans (hfz2 x), z3⟩
        · rw [if_neg hpar] at hodd
          have Hso : Hid (rsgn a b o = o) := Lib.hid (by rw [Hsg.out, if_neg hpar])
          clear hpar
          go_wp2_with fail
          refine hmod.mono ?_
          rintro e w1 ⟨⟨vr, rfl, hr0⟩, hb⟩
          have hBW1 := hBW.trans (hb.mono hBW.size)
          have hPr1 := hr0.away (g := g) hgl
          have hPb1 := hPb.below hb
          have rR1 := rR.below hb
          have rS1 := rS.below hb
          have fS1 : ∀ x, w1.frozen? ⟨g, x, none⟩ = false := fun x => ((kept_cells hb).2 _ _ hgl).trans (fS x)
          have hgl1 := rS1.lt
          obtain ⟨RA, rc, rfl, _⟩ := id hr0
          obtain ⟨s3, A3, n3, c3, t3, B3, m3, d3, k1, k2, k3, k4, k5⟩ := id rS1
          simp only [Nat.zero_add] at k1 k2 k3 k4
          clear hmod hr0 rR rS fS hb hPb hPa
          obtain ⟨oo, Hoo⟩ : ∃ oo, Hid (oo = rsgn a b o) := ⟨_, Lib.hid rfl⟩
          have hoo : rsz oo ≤ 68719476736 := by rw [Hoo.out, rsz_rsgn]; exact hK3
          have hoe : oo = o := by rw [Hoo.out, Hso.out]
          rw [← hoe] at rS1 k5
          clear hoe
          have rS := rS1
          have rR := rR1
          have fS := fS1
          have hPb2 := hPb1
          have hPr2 := hPr1
          have hBW2 := hBW1
          clear rS1 rR1 fS1 hPb1 hPr1 hBW1
          rename World => w2
          have hlead := fun W (hW : Below w2.heap.size w2 W) => uni_lead _ b W (hPb2.poly.below hW) hb0 (by omega)
          have hpow := fun W v (hv : IsRat W v (plead b)) => uni_power v (plead b) ee (ee : Int) W hv X hK4 rfl hK2' hK5
          have hmul := fun W v (hv : IsRat W v (plead b ^ ee)) (hW : Below w2.heap.size w2 W) => rat_Mul _ _ oo (plead b ^ ee) W (RatP.is (k5.below hW)) hv hoo hKp
          have hnx : oo * plead b ^ ee = rnext a b o := by rw [Hrn.out, Hoo.out]
          rw [hnx] at hmul
          have HB0 := Lib.hid hb0
          have fS2 := fS
          clear k5 hnx hb0
          generalize plead b ^ ee = Y at *
          generalize plead b = L at *
          go_wp2_with fail
          go_region_held3 (fun w' => Below w.heap.size w w')
            (((try dsimp only); first | with_reducible assumption | with_reducible exact keepO0 hgw (by assumption) | with_reducible exact keepC0 hwl (by assumption) (by assumption) | exact hBW2.trans (below_drew' _)))
            (first
            | (go_at_call 59
               refine (hlead _ (below_drew' _)).mono ?_
               rintro e wa ⟨⟨va, rfl, hva⟩, hba⟩
               have hbA : Below w2.heap.size w2 wa := (below_drew' _).trans hba
               have k1 := cell_below k1 hbA
               have k2 := cell_below k2 hbA
               have k3 := cell_below k3 hbA
               have k4 := cell_below k4 hbA)
            | (go_at_call 91
               refine (hpow _ _ hva).mono ?_
               rintro e wb ⟨⟨vb, rfl, hvb⟩, hbb⟩
               have hbB : Below w2.heap.size w2 wb := hbA.trans (hbb.mono hbA.size)
               have k1 := cell_below k1 hbb
               have k2 := cell_below k2 hbb
               have k3 := cell_below k3 hbb
               have k4 := cell_below k4 hbb)
            | (go_at_call 64
               refine (hmul _ _ hvb hbB).mono ?_
               rintro e wc ⟨⟨_, rfl, s6, A6, n6, c6, t6, B6, m6, d6, rfl, hq⟩, hbc⟩
               have hb3 : Below w2.heap.size w2 wc := hbB.trans (hbc.mono hbB.size)
               have i1 := cell_below k1 hbc
               have i2 := cell_below k2 hbc
               have i3 := cell_below k3 hbc
               have i4 := cell_below k4 hbc
               have hfz2 : ∀ o, wc.frozen? ⟨g, o, none⟩ = false := fun o => ((kept_cells hb3).2 _ _ rS.lt).trans (fS2 o)))
          all_goals
            have hF := (rS.below hb3).four
            have z1 : RatAt (st4 wc g 0 s6 A6 n6 c6 t6 B6 m6 d6) g 0 (rnext a b o) := RatAt.put hF hq
            have z2 : RC4 (st4 wc g 0 s6 A6 n6 c6 t6 B6 m6 d6) w.heap.size := (rR.below hb3).belowB (below_st4 (Nat.le_refl g) 0) hgx
            have z3 := hBW2.trans ((hb3.mono hBW2.size).trans (below_st4 (w := wc) (g := g) (B0 := w.heap.size) hgw 0 (s := s6) (A := A6) (n := n6) (c := c6) (t := t6) (B := B6) (m := m6) (d := d6)))
            have z4 := (hPb2.below hb3).st4 (s := s6) (A := A6) (n := n6) (c := c6) (t := t6) (B := B6) (m := m6) (d := d6) hF
            have z5 := (hPr2.below hb3).st4 (s := s6) (A := A6) (n := n6) (c := c6) (t := t6) (B := B6) (m := m6) (d := d6) hF
            clear k1 k2 k3 k4 i1 i2 i3 i4
            go_wp2_with fail
            go_roundg f
            case measure => omega
            case rel => exact ⟨b, pmod a b, _, z4, z5, HF2, HR2, HOK2, z2, z1, fun x => st4_frozen.trans (hfz2 x), z3⟩

theorem uni_resultant (u v : Value) (p q : List Rat) (w : World) (hu : IsPoly w u p) (hv : IsPoly w v q) (hq : PC q) (hlp : p.length ≤ 400000) (hlq : q.length ≤ 400000) (hok : p ≠ [] → q ≠ [] → ResOK q.length p q 1) :
    Calls Tryz.prog 46 #[u, v] w fun e w' => (∃ v, e = .returned v ∧ IsRat w' v (pres p q)) ∧ Below w.heap.size w w' := by
  unfold pres
  by_cases h : p = [] ∨ q = []
  · rw [if_pos h]
    obtain ⟨A, c, rfl, _⟩ := hu
    obtain ⟨B, d, rfl, _⟩ := hv
    refine uni_resultant_nil _ _ _ _ _ _ w ?_
    rcases h with rfl | rfl <;> simp
  · rw [if_neg h]
    have hp0 : p ≠ [] := fun e => h (Or.inl e)
    have hq0 : q ≠ [] := fun e => h (Or.inr e)
    exact uni_resultant_pos u v p q w hu hv hq hp0 hq0 hlp hlq (hok hp0 hq0)

end Go.Proofs.YtlklgeidffjidaaGreat

/- The walks of euclid and Gcd (package univariate). -/
namespace Go.Proofs.YtlklgeidffjidaaGreat
open Go.RowKit
set_option linter.unusedSimpArgs false

/-- The last remainder. -/
def eucF : Nat → List Rat → List Rat → List Rat
  | 0, a, _ => a
  | n + 1, a, b => if b = [] then a else eucF n b (pmod a b)
theorem pgcdF_euc (n : Nat) : ∀ a b : List Rat, pgcdF n a b = pmonic (eucF n a b) := by
  induction n with
  | zero => intro a b; rfl
  | succ n ih =>
    intro a b
    simp only [pgcdF, eucF]
    split
    · rfl
    · exact ih _ _
def EucOK : Nat → List Rat → List Rat → Prop
  | 0, _, _ => True
  | n + 1, a, b => b ≠ [] → DivOK a b ∧ EucOK n b (pmod a b)
theorem eucF_PC (n : Nat) : ∀ {a b : List Rat}, PC a → PC b → PC (eucF n a b) := by
  induction n with
  | zero => intro a b ha _; exact ha
  | succ n ih =>
    intro a b ha hb
    simp only [eucF]
    split
    · exact ha
    · rename_i h; exact ih hb (pmod_PC hb h a)
theorem eucF_length (n : Nat) : ∀ {a b : List Rat}, PC b → (eucF n a b).length ≤ max a.length b.length := by
  induction n with
  | zero => intro a b _; simp only [eucF]; omega
  | succ n ih =>
    intro a b hb
    simp only [eucF]
    split
    · omega
    · rename_i h
      have h1 := ih (a := b) (b := pmod a b) (pmod_PC hb h a)
      have h2 := pmod_lt hb h a
      omega

set_option maxHeartbeats 1000000 in
theorem gcd_step (v : Value) (w : World) : Calls Tryz.prog 72 #[v] w fun e w' => (∃ r, e = .returned r) ∧ w = w' := by
  go_enter Tryz.func72, Tryz.ntmps72
  go_wp2
  go_end0
  exact ⟨⟨_, rfl⟩, rfl⟩

set_option maxRecDepth 100000 in
set_option maxHeartbeats 4000000 in
theorem uni_euclid_gcd (u v : Value) (p q : List Rat) (w : World) (hu : IsPoly w u p) (hv : IsPoly w v q) (hp : PC p) (hq : PC q) (hok : EucOK (q.length + 1) p q) :
    Calls Tryz.prog 71 #[u, v, .func (.func 72) #[] #[]] w fun e w' => (∃ v, e = .returned v ∧ IsPoly w' v (eucF (q.length + 1) p q)) ∧ Below w.heap.size w w' := by
  obtain ⟨R, HR⟩ : ∃ R, Hid (eucF (q.length + 1) p q = R) := ⟨_, Lib.hid rfl⟩
  rw [HR.out]
  have Hok := Lib.hid hok
  have Hu := Lib.hid hu
  have Hv := Lib.hid hv
  have HPC := Lib.hid (And.intro hp hq)
  have hb0 := Below.refl w.heap.size w
  clear hok hu hv hp hq
  go_enter Tryz.func71, Tryz.ntmps71
  go_wp2_with fail
  go_loopg [0, 1] (q.length + 1) (fun k s0 s1 wr => ∃ a b, IsPoly wr s0 a ∧ IsPoly wr s1 b ∧ Hid (PC a ∧ PC b ∧ b.length + 1 ≤ k) ∧ Hid (eucF k a b = R) ∧ Hid (EucOK k a b) ∧ Below w.heap.size w wr)
  case atStart => exact ⟨p, q, Hu.out, Hv.out, Lib.hid ⟨HPC.out.1, HPC.out.2, Nat.le_refl _⟩, HR, Hok, hb0⟩
  case round =>
    clear Hu Hv HPC HR Hok
    obtain ⟨a, b, hPa, hPb, HF, HR, Hok, hBW⟩ := hrel
    obtain ⟨ha, hb, hbk⟩ := HF.out
    obtain ⟨f, rfl⟩ : ∃ f, gk = f + 1 := ⟨gk - 1, by omega⟩
    have hR := HR.out
    have hK := Hok.out
    simp only [eucF, EucOK] at hR hK
    obtain ⟨A, c, rfl, hA⟩ := id hPa
    obtain ⟨B, d, rfl, hB⟩ := id hPb
    by_cases h0 : b = []
    · rw [if_pos h0] at hR
      have hl : b.length = 0 := by rw [h0]; rfl
      have Hres : Hid (IsPoly wr (.slice A a.length c) R) := Lib.hid (by rw [← hR]; exact hPa)
      clear hR hK hA hB hPa hPb h0 hbk HF HR Hok
      rw [hl]
      generalize a.length = n at *
      clear hl
      go_wp2_with fail
      go_ret
      exact ⟨⟨_, rfl, Hres.out⟩, hBW⟩
    · rw [if_neg h0] at hR
      have hK := hK h0
      have hl : 0 < b.length := List.length_pos_iff.2 h0
      have hD := uni_divmod _ _ a b wr hPa hPb hb h0 hK.1
      have hlt := pmod_lt hb h0 a
      have HR2 := Lib.hid hR
      have HK2 := Lib.hid hK.2
      have HF2 : Hid (PC b ∧ PC (pmod a b) ∧ (pmod a b).length + 1 ≤ f) := Lib.hid ⟨hb, pmod_PC hb h0 a, by omega⟩
      have Hbf : Hid (f < f + 1) := Lib.hid (by omega)
      clear hR hK hA hB h0 hbk hlt HF HR Hok ha
      go_wp2_with fail
      refine hD.mono ?_
      rintro e w1 ⟨⟨vx, vy, rfl, hx, hy⟩, hb1⟩
      have hBW1 := hBW.trans (hb1.mono hBW.size)
      have hPb1 := hPb.below hb1
      clear hD
      go_wp2_with fail
      refine (gcd_step vx w1).mono ?_
      rintro e w2 ⟨⟨r, rfl⟩, rfl⟩
      go_wp2_with fail
      go_roundg f
      case measure => exact Hbf.out
      case rel => exact ⟨b, pmod a b, hPb1, hy.poly, HF2, HR2, HK2, hBW1⟩

/-- What is asked of the sizes. -/
def GcdOK (a b : List Rat) : Prop := EucOK (b.length + 1) a b ∧ ∃ S, SzB (eucF (b.length + 1) a b) S ∧ 2 * S + 2 ≤ 68719476736
theorem eucF_enough (n : Nat) : ∀ {a b : List Rat}, PC b → b.length ≤ n → eucF (n + 1) a b = eucF n a b := by
  induction n with
  | zero =>
    intro a b hb h
    have : b = [] := List.eq_nil_of_length_eq_zero (by omega)
    simp [eucF, this]
  | succ n ih =>
    intro a b hb h
    by_cases h0 : b = []
    · simp [eucF, h0]
    · have e1 : eucF (n + 1 + 1) a b = eucF (n + 1) b (pmod a b) := by simp only [eucF, if_neg h0]
      have e2 : eucF (n + 1) a b = eucF n b (pmod a b) := by simp only [eucF, if_neg h0]
      rw [e1, e2]
      exact ih (pmod_PC hb h0 a) (by have := pmod_lt hb h0 a; omega)
theorem pgcd_euc {a b : List Rat} (hb : PC b) : pgcd a b = pmonic (eucF (b.length + 1) a b) := by
  unfold pgcd; rw [pgcdF_euc, eucF_enough _ hb (Nat.le_refl _)]

set_option maxHeartbeats 1000000 in
theorem uni_gcd (u v : Value) (p q : List Rat) (w : World) (hu : IsPoly w u p) (hv : IsPoly w v q) (hp : PC p) (hq : PC q) (hlp : p.length ≤ 400000) (hlq : q.length ≤ 400000) (hok : GcdOK p q) :
    Calls Tryz.prog 25 #[u, v] w fun e w' => (∃ v, e = .returned v ∧ IsNew w.heap.size w' v (pgcd p q)) ∧ Below w.heap.size w w' := by
  obtain ⟨h1, S, hS, hSS⟩ := hok
  have hE := uni_euclid_gcd u v p q w hu hv hp hq h1
  have hM := fun W x (hx : IsPoly W x (eucF (q.length + 1) p q)) => uni_monicN x _ W hx (eucF_PC _ hp hq) (by have := eucF_length (q.length + 1) (a := p) (b := q) hq; omega) S hS hSS
  rw [← pgcd_euc hq] at hM
  generalize pgcd p q = R at *
  generalize eucF (q.length + 1) p q = E at *
  go_enter Tryz.func25, Tryz.ntmps25
  go_wp2_with fail
  refine hE.mono ?_
  rintro e w1 ⟨⟨v1, rfl, hv1⟩, hb1⟩
  go_wp2_with fail
  refine (hM _ _ hv1).mono ?_
  rintro e w2 ⟨⟨v2, rfl, hv2⟩, hb2⟩
  go_wp2_with fail
  go_ret
  exact ⟨⟨_, rfl, hv2.mono hb1.size⟩, hb1.trans (hb2.mono hb1.size)⟩

end Go.Proofs.YtlklgeidffjidaaGreat

/- A slice that the call builds by append, of elements that hold a slice and an int: what an append leaves as it was. -/
namespace Go.Proofs.YtlklgeidffjidaaGreat
open Go.RowKit
set_option linter.unusedSimpArgs false

/-- Neither a word of a number nor a sign. -/
def Clean (v : Value) : Prop := (∃ A n c, v = .slice A n c) ∨ (∃ z, v = .int .i64 z)
/-- The slice, and all that its block holds. -/
def CRow (w : World) (B T : Nat) (v : Value) (n : Nat) (xs : List Value) : Prop := xs.length = n * 2 ∧ ((v = .slice none 0 0 ∧ n = 0) ∨ ∃ g cap cur, v = .slice (some ⟨g, 0, none⟩) n cap ∧ B ≤ g ∧ w.heap[g]? = some (.cells cur T (0, 0)) ∧ n ≤ cap ∧ cap ≤ maxLen ∧ cur.size = cap * 2 ∧ cur.toList.take (n * 2) = xs ∧ ∀ c ∈ cur.toList, Clean c)
theorem CRow.nil (w : World) (B T : Nat) : CRow w B T (.slice none 0 0) 0 [] := ⟨rfl, Or.inl ⟨rfl, rfl⟩⟩
theorem CRow.below {w w' : World} {B T : Nat} {v : Value} {n : Nat} {xs : List Value} (h : CRow w B T v n xs) (hb : Below w.heap.size w w') : CRow w' B T v n xs := by
  refine ⟨h.1, ?_⟩
  rcases h.2 with h | ⟨g, cap, cur, h1, h2, h3, h4⟩
  · exact Or.inl h
  · exact Or.inr ⟨g, cap, cur, h1, h2, (hb.block g (Array.getElem?_eq_some_iff.1 h3).1).trans h3, h4⟩
/-- A cell of the slice's block is clean. -/
theorem CRow.cell {w : World} {B T : Nat} {v : Value} {n : Nat} {xs : List Value} (h : CRow w B T v n xs) {g o : Nat} {u : Value} (hg : v.ownBlock = some g) (hc : w.cell? ⟨g, o, none⟩ = some u) : Clean u := by
  rcases h.2 with ⟨rfl, _⟩ | ⟨g', cap, cur, rfl, h2, h3, h4, h5, h6, h7, h8⟩
  · simp [Value.ownBlock] at hg
  · have e : g' = g := by simpa [Value.ownBlock] using hg
    subst e
    simp only [World.cell?, h3] at hc
    have hc' : cur[o]? = some u := by simpa using hc
    exact h8 u (by rw [Array.mem_toList_iff]; exact Array.mem_of_getElem? hc')
theorem grown_cell {w w' : World} {v : Value} {B T n : Nat} {xs : List Value} (h : CRow w B T v n xs) (hg : w.grownBy w' v.ownBlock) {b o : Nat} {u : Value} (hc : w.cell? ⟨b, o, none⟩ = some u) (hu : ¬ Clean u) : w'.cell? ⟨b, o, none⟩ = w.cell? ⟨b, o, none⟩ ∧ some b ≠ v.ownBlock := by
  have hne : some b ≠ v.ownBlock := fun e => hu (h.cell e.symm hc)
  exact ⟨World.cell?_of_block (hg.block b (World.block_lt_of_cell? _ _ hc) hne), hne⟩
theorem Ws.grown {w w' : World} {v : Value} {B T n : Nat} {ys : List Value} {A : Option Addr} {xs : List Nat} (h : Ws w A xs) (hr : CRow w B T v n ys) (hg : w.grownBy w' v.ownBlock) : Ws w' A xs :=
  ⟨h.1, h.2.1, fun hn => by
    obtain ⟨b, off, e, hlt, hc⟩ := h.2.2 hn
    exact ⟨b, off, e, Nat.lt_of_lt_of_le hlt hg.size, fun j hj => (grown_cell hr hg (hc j hj) (by rintro (⟨_, _, _, h⟩ | ⟨_, h⟩) <;> simp at h)).1.trans (hc j hj)⟩⟩
theorem IntP.grown {w w' : World} {v : Value} {B T k : Nat} {ys : List Value} {s A n c z} (h : IntP w s A n c z) (hr : CRow w B T v k ys) (hg : w.grownBy w' v.ownBlock) : IntP w' s A n c z := ⟨h.1, h.2.1, h.2.2.1.grown hr hg, h.2.2.2⟩
theorem RatAt.grown {w w' : World} {v : Value} {B T k : Nat} {ys : List Value} {g o : Nat} {q : Rat} (h : RatAt w g o q) (hr : CRow w B T v k ys) (hg : w.grownBy w' v.ownBlock) : RatAt w' g o q := by
  obtain ⟨s, A, n, c, t, B', m, d, h1, h2, h3, h4, h5⟩ := h
  have hne := (grown_cell hr hg h1 (by rintro (⟨_, _, _, h⟩ | ⟨_, h⟩) <;> simp at h)).2
  have hb := hg.block g (World.block_lt_of_cell? _ _ h1) hne
  have ce : ∀ o, w'.cell? ⟨g, o, none⟩ = w.cell? ⟨g, o, none⟩ := fun o => World.cell?_of_block hb
  exact ⟨s, A, n, c, t, B', m, d, (ce _).trans h1, (ce _).trans h2, (ce _).trans h3, (ce _).trans h4, h5.1.grown hr hg, h5.2.grown hr hg⟩
theorem PolyAt.grown {w w' : World} {v : Value} {B T k : Nat} {ys : List Value} {A : Option Addr} {p : List Rat} (h : PolyAt w A p) (hr : CRow w B T v k ys) (hg : w.grownBy w' v.ownBlock) : PolyAt w' A p := by
  intro j hj; obtain ⟨b, off, e, h⟩ := h j hj; exact ⟨b, off, e, h.grown hr hg⟩
theorem IsPoly.grown {w w' : World} {v : Value} {B T k : Nat} {ys : List Value} {x : Value} {p : List Rat} (h : IsPoly w x p) (hr : CRow w B T v k ys) (hg : w.grownBy w' v.ownBlock) : IsPoly w' x p := by
  obtain ⟨A, c, e, h, hc⟩ := h; exact ⟨A, c, e, h.grown hr hg, hc⟩

/-- append of one element. -/
theorem run_append_clean {P : Program} (w : World) (B : Nat) (t e : TypeId) (i : TypeInfo) (z : Value) (ht : P.underlying t = some (.slice e)) (hi : P.info? e = some i) (hz : i.zero = some z) (hsize : i.size = 2) (hby : i.bytes = 32) (hzs : z.cells.size = 2) (hzc : ∀ c ∈ z.cells.toList, Clean c)
    (v : Value) (n : Nat) (xs : List Value) (hown : CRow w B e v n xs) (hB : B ≤ w.heap.size) (a : Addr) (news : List Value) (hl : news.length = 2) (hnews : ∀ j u, news[j]? = some u → w.cell? (a.add j) = some u) (h1 : ∀ u ∈ news, u.oneCell' = true) (hcl : ∀ u ∈ news, Clean u) (hn : n + 1 ≤ 1000000) :
    ∃ v' w', (∀ ty, (Builtin.append_ #[t, t] ty #[v, .slice (some a) 1 1]).run P w = .ok v' w') ∧ CRow w' B e v' (n + 1) (xs ++ news) ∧ w.grownBy w' v.ownBlock := by
  have hzero : ∀ k, ∀ c ∈ (Builtin.zeroCells z.cells k).toList, Clean c := by
    intro k c hc
    simp only [Builtin.zeroCells, Array.toList_map, List.mem_map] at hc
    obtain ⟨j, hj, rfl⟩ := hc
    have hlt : j % z.cells.size < z.cells.size := Nat.mod_lt _ (by omega)
    rw [getElem!_pos z.cells _ hlt]
    exact hzc _ (by rw [Array.mem_toList_iff]; exact Array.getElem_mem hlt)
  have hlen : (xs ++ news).length = (n + 1) * 2 := by rw [List.length_append, hown.1, hl]; omega
  have hmax : n + 1 ≤ maxLen := by simp only [maxLen]; omega
  have hclx : ∀ c ∈ xs, Clean c := by
    rcases hown.2 with ⟨_, h0⟩ | ⟨g, cap, cur, _, _, _, _, _, _, h7, h8⟩
    · have : xs = [] := List.eq_nil_of_length_eq_zero (by rw [hown.1, h0])
      rw [this]; intro c hc; cases hc
    · rw [← h7]; intro c hc; exact h8 c (List.mem_of_mem_take hc)
  have grown : ∀ (old : Nat), old < n + 1 → ∀ (row : Option Nat),
      CRow (w.drew.alloc (.cells (xs.toArray ++ news.toArray ++ Builtin.zeroCells z.cells (grownCap w (n + 1) old e - (n + 1))) e)) B e (.slice (some ⟨w.heap.size, 0, none⟩) (n + 1) (grownCap w (n + 1) old e)) (n + 1) (xs ++ news) ∧
      w.grownBy (w.drew.alloc (.cells (xs.toArray ++ news.toArray ++ Builtin.zeroCells z.cells (grownCap w (n + 1) old e - (n + 1))) e)) row := by
    intro old ho row
    have hge := grownCap_ge w (n + 1) old e
    have hcm : grownCap w (n + 1) old e ≤ maxLen := grownCap_le_maxLen w (n + 1) old e hmax
    refine ⟨⟨hlen, .inr ⟨w.heap.size, _, _, rfl, hB, heap_alloc_new w.drew _, hge, hcm, ?_, ?_, ?_⟩⟩, ⟨rfl, rfl, rfl, by simp, fun k hk _ => Below.heap_alloc w.drew _ k hk⟩⟩
    · simp only [Array.size_append, List.size_toArray, size_zeroCells, hzs, hown.1, hl]
      omega
    · simp only [Array.toList_append, List.append_assoc]
      rw [← List.append_assoc, ← hlen]
      exact List.take_left
    · intro c hc
      simp only [Array.toList_append, List.mem_append] at hc
      rcases hc with (hc | hc) | hc
      · exact hclx c (by simpa using hc)
      · exact hcl c (by simpa using hc)
      · exact hzero _ c hc
  have hl2 : news.length = 1 * i.size := by rw [hl, hsize]
  rcases hown.2 with ⟨rfl, rfl⟩ | ⟨g, cap, cur, rfl, hbg, hg, hnc, hcm, hcs, htake, hcc⟩
  · have hx : xs = [] := List.eq_nil_of_length_eq_zero (by simpa using hown.1)
    subst hx
    have hr := fun ty => run_append_nil (P := P) w t ty e i z ht hi hz a 1 1 news hl2 hnews (by omega) (by omega) (by rw [hby]; omega)
    have hgr := grown 0 (by omega) (Value.ownBlock (.slice none 0 0))
    simp only [Nat.zero_add, List.nil_append, Array.empty_append] at hgr ⊢
    exact ⟨_, _, hr, hgr.1, hgr.2⟩
  · by_cases hroom : n + 1 ≤ cap
    · have hfit : n * i.size + news.length ≤ cur.size := by rw [hl, hcs, hsize]; omega
      have hr := fun ty => run_append_room (P := P) w t ty e i ht hi g n cap cur hg a 1 1 news hl2 hnews h1 hroom hfit
      refine ⟨_, _, hr, ⟨hlen, .inr ⟨g, cap, _, rfl, hbg, setRow_heap w g cur _ e _ hg, hroom, hcm, ?_, ?_, ?_⟩⟩, ⟨rfl, rfl, rfl, by simp, fun k _ hk => setRow_other w g k _ (fun e => hk (by simp [Value.ownBlock, e]))⟩⟩
      · simp only [List.size_toArray, List.length_append, List.length_take, List.length_drop, Array.length_toList]
        rw [hsize]; omega
      · rw [hsize, htake, ← hlen]
        exact List.take_left
      · intro c hc
        simp only [List.mem_append] at hc
        rcases hc with (hc | hc) | hc
        · exact hcc c (List.mem_of_mem_take hc)
        · exact hcl c hc
        · exact hcc c (List.mem_of_mem_drop hc)
    · have holds : ∀ j u, xs[j]? = some u → w.cell? ((⟨g, 0, none⟩ : Addr).add j) = some u := by
        intro j u hj
        rw [addr_add, Nat.zero_add]
        have hjl : j < n * 2 := by rw [← hown.1]; exact (List.getElem?_eq_some_iff.1 hj).1
        rw [← htake, List.getElem?_take_of_lt hjl, Array.getElem?_toList] at hj
        simp [World.cell?, hg, hj]
      have hr := fun ty => run_append_grow (P := P) w t ty e i z ht hi hz ⟨g, 0, none⟩ n cap xs (by rw [hown.1, hsize]) holds a 1 1 news hl2 hnews (by omega) (by omega) (growslice_fits (by omega) (by rw [hby]; omega))
      have hgr := grown cap (by omega) (Value.ownBlock (.slice (some ⟨g, 0, none⟩) n cap))
      exact ⟨_, _, hr, hgr.1, hgr.2⟩

theorem wpList_append_run {P : Program} {w : World} {ops : Array Oper} {rest : List Oper} {o : Oper} {a : Act} {Q : Exit → Act → World → Prop} (hgd : o.guard = none) (s x : Operand) (t : TypeId)
    (ho : o.op = .call { callee := .builtin .append, args := #[s, x], argTypes := #[t, t] }) (v u : Value) (hs : a.eval s = v) (hx : a.eval x = u) {v' : Value} {w' : World}
    (hr : (Builtin.append_ #[t, t] o.type #[v, u]).run P w = .ok v' w') (h : wpList P ops Q rest (a.put o.dst v') w') : wpList P ops Q (o :: rest) a w :=
  wpList_plain hgd fun _ hK => by
    unfold Oper.wp execOp
    simp only [ho, resolve, invoke, builtin, Sem.run_bind, Sem.run_pure, Result.andThen_ok, List.map_toArray, List.map_cons, List.map_nil, hs, hx, hr]
    exact hK _ _ h
theorem info_part : (Tryz.prog.info? 51).map (fun i => (i.zero, i.size, i.bytes)) = some (some (.agg #[.slice none 0 0, .int .i64 0]), 2, 32) := by kernel_rfl

/-- The parts of a polynomial in memory. -/
def PartsIn (w : World) (cs : List Value) (l : List (List Rat × Nat)) : Prop := cs.length = l.length * 2 ∧ (∀ u ∈ cs, Clean u) ∧ ∀ j p n, l[j]? = some (p, n) → ∃ A c, cs[j * 2]? = some (.slice A p.length c) ∧ PolyAt w A p ∧ p.length ≤ c ∧ cs[j * 2 + 1]? = some (.int .i64 (n : Int))
def IsParts (B : Nat) (w : World) (v : Value) (l : List (List Rat × Nat)) : Prop := ∃ cs, PartsIn w cs l ∧ CRow w B 51 v l.length cs
theorem PartsIn.below {w w' : World} {cs : List Value} {l : List (List Rat × Nat)} (h : PartsIn w cs l) (hb : Below w.heap.size w w') : PartsIn w' cs l := by
  refine ⟨h.1, h.2.1, fun j p n hj => ?_⟩
  obtain ⟨A, c, h1, h2, h3⟩ := h.2.2 j p n hj
  exact ⟨A, c, h1, h2.below hb, h3⟩
theorem IsParts.below {B : Nat} {w w' : World} {v : Value} {l : List (List Rat × Nat)} (h : IsParts B w v l) (hb : Below w.heap.size w w') : IsParts B w' v l := by
  obtain ⟨cs, h1, h2⟩ := h; exact ⟨cs, h1.below hb, h2.below hb⟩
theorem IsParts.nil (B : Nat) (w : World) : IsParts B w (.slice none 0 0) [] := ⟨[], ⟨rfl, by simp, fun j p n h => by simp at h⟩, CRow.nil _ _ _⟩
/-- One part more. -/
theorem IsParts.append {B : Nat} {w : World} {v : Value} {l : List (List Rat × Nat)} (h : IsParts B w v l) (hB : B ≤ w.heap.size) {b off : Nat} {A : Option Addr} {c : Nat} {p : List Rat} {n : Nat} (hp : PolyAt w A p) (hc : p.length ≤ c) (c0 : w.cell? ⟨b, off, none⟩ = some (.slice A p.length c)) (c1 : w.cell? ⟨b, off + 1, none⟩ = some (.int .i64 (n : Int))) (t : TypeId) (ht : Tryz.prog.underlying t = some (.slice 51)) (hl : l.length + 1 ≤ 1000000) :
    ∃ v' w', (∀ ty, (Builtin.append_ #[t, t] ty #[v, .slice (some ⟨b, off, none⟩) 1 1]).run Tryz.prog w = .ok v' w') ∧ IsParts B w' v' (l ++ [(p, n)]) ∧ (∀ s q, IsPoly w s q → IsPoly w' s q) ∧ (∀ B', B ≤ B' → B' ≤ w.heap.size → (∀ g, v.ownBlock = some g → B' ≤ g) → Below B' w w') ∧ Below B w w' := by
  obtain ⟨cs, hcs, hrow⟩ := h
  obtain ⟨i, hi, hzz⟩ := Option.map_eq_some_iff.1 info_part
  simp only [Prod.mk.injEq] at hzz
  obtain ⟨hz, hs, hby⟩ := hzz
  have hclean : ∀ u ∈ [Value.slice A p.length c, .int .i64 (n : Int)], Clean u := by
    intro u hu
    simp only [List.mem_cons, List.not_mem_nil, or_false] at hu
    rcases hu with rfl | rfl
    · exact Or.inl ⟨_, _, _, rfl⟩
    · exact Or.inr ⟨_, rfl⟩
  obtain ⟨v', w', hr, hrow', hg⟩ := run_append_clean (P := Tryz.prog) w B t _ i _ ht hi hz hs hby rfl (by
      intro u hu
      have hu : u ∈ [Value.slice none 0 0, .int .i64 0] := hu
      simp only [List.mem_cons, List.not_mem_nil, or_false] at hu
      rcases hu with rfl | rfl
      · exact Or.inl ⟨_, _, _, rfl⟩
      · exact Or.inr ⟨_, rfl⟩) v l.length cs hrow hB ⟨b, off, none⟩ [.slice A p.length c, .int .i64 (n : Int)] rfl (by
      intro j u hj
      rw [addr_add]
      match j, hj with
      | 0, hj => simp at hj; subst hj; exact c0
      | 1, hj => simp at hj; subst hj; exact c1
      | j + 2, hj => simp at hj) (by
      intro u hu
      simp only [List.mem_cons, List.not_mem_nil, or_false] at hu
      rcases hu with rfl | rfl <;> rfl) hclean hl
  have hown : ∀ g, v.ownBlock = some g → B ≤ g := by
    intro g hg'
    rcases hrow.2 with ⟨rfl, _⟩ | ⟨g', cap, cur, rfl, h2, _⟩
    · simp [Value.ownBlock] at hg'
    · have : g' = g := by simpa [Value.ownBlock] using hg'
      omega
  have hbel : ∀ B', B ≤ B' → B' ≤ w.heap.size → (∀ g, v.ownBlock = some g → B' ≤ g) → Below B' w w' := fun B' _ h2 h3 => (Below.refl B' w).grown hg h2 h3
  refine ⟨v', w', hr, ⟨cs ++ [.slice A p.length c, .int .i64 (n : Int)], ⟨by simp [hcs.1]; omega, fun u hu => ?_, fun j q k hj => ?_⟩, by simpa using hrow'⟩, fun s q h => h.grown hrow hg, hbel, hbel B (Nat.le_refl _) hB hown⟩
  · rcases List.mem_append.1 hu with hu | hu
    · exact hcs.2.1 u hu
    · exact hclean u hu
  · have hcl := hcs.1
    by_cases hjl : j < l.length
    · rw [List.getElem?_append_left hjl] at hj
      obtain ⟨A', c', h1, h2, h3, h4⟩ := hcs.2.2 j q k hj
      refine ⟨A', c', ?_, h2.grown hrow hg, h3, ?_⟩
      · rw [List.getElem?_append_left (by omega)]; exact h1
      · rw [List.getElem?_append_left (by omega)]; exact h4
    · rw [List.getElem?_append_right (by omega)] at hj
      have hj0 : j = l.length := by
        have := (List.getElem?_eq_some_iff.1 hj).1
        simp at this; omega
      subst hj0
      simp at hj
      obtain ⟨rfl, rfl⟩ := hj
      refine ⟨A, c, ?_, hp.grown hrow hg, hc, ?_⟩
      · rw [List.getElem?_append_right (by omega), hcl]; simp
      · rw [List.getElem?_append_right (by omega), hcl]; simp

end Go.Proofs.YtlklgeidffjidaaGreat

/- The iterator slices.Backward at polynomials: its contract. -/
namespace Go.Proofs.YtlklgeidffjidaaGreat
open Go.RowKit Go.Shelf
attribute [local go_sem] Oper.semAt_some
set_option linter.unusedSimpArgs false

/-- What the iterator hands over: an index, a number in memory, and which number it is. -/
abbrev Bx (w : World) (T : Nat) := { x : Int × Value × Rat // IsRat w x.2.1 x.2.2 ∧ rsz x.2.2 ≤ T }
def Bx.enc {w : World} {T : Nat} (x : Bx w T) : Array Value := #[.int .i64 x.1.1, x.1.2.1]
def Bx.dat {w : World} {T : Nat} (x : Bx w T) : Int × Rat := (x.1.1, x.1.2.2)
/-- The first k of the coefficients, from the last one down. -/
def bwd (p : List Rat) (k : Nat) : List (Int × Rat) := (List.range k).map fun j => (((p.length - 1 - j : Nat) : Int), p.getD (p.length - 1 - j) 0)
theorem bwd_succ (p : List Rat) (k : Nat) : bwd p (k + 1) = bwd p k ++ [(((p.length - 1 - k : Nat) : Int), p.getD (p.length - 1 - k) 0)] := by simp [bwd, List.range_succ]
theorem bwd_length (p : List Rat) (k : Nat) : (bwd p k).length = k := by simp [bwd]

/-- What a round must keep: what lay below n₀, and the box of the slice. -/
def KeepB (n₀ Bs : Nat) (W W' : World) : Prop := Below n₀ W W' ∧ W'.cell? ⟨Bs, 0, none⟩ = W.cell? ⟨Bs, 0, none⟩
theorem KeepB.trans {n₀ Bs : Nat} {X Y Z : World} (h : KeepB n₀ Bs X Y) (k : KeepB n₀ Bs Y Z) : KeepB n₀ Bs X Z := ⟨h.1.trans k.1, k.2.trans h.2⟩
theorem keepB_t {n₀ Bs : Nat} {X Y Z : World} (h : KeepB n₀ Bs X Y) (k : KeepB n₀ Bs Y Z) : KeepB n₀ Bs X Z := h.trans k
theorem keepB_b {n₀ Bs : Nat} {w : World} (hn : n₀ ≤ w.heap.size) (hB : Bs < w.heap.size) (W : World) (l : Nat) (o o' : Obj) (hl : w.heap.size ≤ l) (h : W.heap[l]? = some o) (h1 : o.isCells = false) (h2 : o.isWalk = false) : KeepB n₀ Bs W (W.putObj l o') := by
  have hb := belowK_b (w := w) (Nat.le_refl _) W l o o' hl h h1 h2
  exact ⟨hb.mono hn, hb.cell (p := ⟨Bs, 0, none⟩) hB⟩

set_option maxRecDepth 100000 in
set_option maxHeartbeats 4000000 in
theorem backward_in (F : Fence) (n : Nat) (hf : F.fn 119) (hro : F.round = none) (hn : 1 ≤ n) (l Bs n₀ : Nat) (A : Option Addr) (c len T : Nat) (p : List Rat) (w : World) (hA : PolyAt w A p) (hlen : len = p.length) (hl : len ≤ 1000000) (hT : SzB p T) (hn₀ : w.heap.size ≤ n₀)
    (J Jx : List (Bx w T) → World → Prop)
    (hY : ∀ pre (x : Bx w T) W, J pre W → pre.length < len → YieldAt F (n - 1) Tryz.prog l (Bx.enc x) W fun e W' =>
      (e = .returned (.bool true) ∧ J (pre ++ [x]) W' ∧ KeepB n₀ Bs W W') ∨ (e = .returned (.bool false) ∧ Jx (pre ++ [x]) W'))
    (W : World) (hw : Below w.heap.size w W) (hBs : W.cell? ⟨Bs, 0, none⟩ = some (.slice A len c)) (h0 : J [] W) :
    CallsIn F n Tryz.prog 119 #[.func (.yield l) #[] #[], .pointer (some ⟨Bs, 0, none⟩)] W fun e W' => (∃ v, e = .returned v) ∧
      ((∃ ys, ys.map Bx.dat = bwd p p.length ∧ J ys W') ∨ (∃ pre, True ∧ Jx pre W')) := by
  refine callsIn_of_wp Tryz.func119 rfl hf ?_ hro
  simp only [Tryz.ntmps119, List.size_toArray, List.length_cons, List.length_nil, Nat.reduceAdd, Nat.reduceSub, Array.replicate_succ, Array.replicate_zero, List.push_toArray, List.append_toArray, List.nil_append, List.cons_append]
  have Hlen := Lib.hid hlen
  clear hlen
  gi_wp2
  gi_loopw [3] (fun i wr => ∃ (k : Nat) (ys : List (Bx w T)), k ≤ len ∧ i = .int .i64 ((k : Int) - 1) ∧ ys.map Bx.dat = bwd p (len - k) ∧ J ys wr ∧ KeepB n₀ Bs W wr)
    (fun i _ => (intOf i + 1).toNat)
  case atStart => exact ⟨len, [], Nat.le_refl _, rfl, by rw [Nat.sub_self]; rfl, h0, Below.refl _ _, rfl⟩
  case round =>
    obtain ⟨k, ys, hk, rfl, hys, hJs, hnx⟩ := hrel
    have hBs' := hnx.2.trans hBs
    by_cases hlt : 0 < k
    · obtain ⟨b, off, rfl, h⟩ := hA (k - 1) (by rw [← Hlen.out]; omega)
      have hbl := h.lt
      obtain ⟨s, A1, n1, c1, t, B, m, d, h1, h2, h3, h4, h5⟩ := h
      have hwr := hw.trans (hnx.1.mono hn₀)
      have h1 := cell_below h1 hwr
      have h2 := cell_below h2 hwr
      have h3 := cell_below h3 hwr
      have h4 := cell_below h4 hwr
      obtain ⟨fn, tmps, assign, body, hy, hR⟩ := hY ys ⟨(((k : Int) - 1), .agg #[.bool s, .slice A1 n1 c1, .bool t, .slice B m d], p.getD (k - 1) 0), RatP.is h5, hT _⟩ wr hJs (by
        have := congrArg List.length hys; rw [List.length_map, bwd_length] at this; omega)
      dsimp only [Bx.enc] at hy
      have Hys := Lib.hid hys
      clear hys hY
      gi_wp2
      refine hR.mono ?_
      rintro e W3 (⟨rfl, hJ3, hk3⟩ | ⟨rfl, hJx3⟩)
      · gi_wp2
        go_roundw
        case rel => exact ⟨k - 1, _, by omega, by simp; omega, by
          rw [List.map_append, Hys.out]
          have e1 : len - (k - 1) = (len - k) + 1 := by omega
          rw [e1, bwd_succ, ← Hlen.out]
          have e2 : len - 1 - (len - k) = k - 1 := by omega
          rw [e2]
          simp [Bx.dat]; omega, hJ3, hnx.trans hk3⟩
        case measure => simp [intOf]; omega
      · gi_wp2
        refine bodyPost_ret (results_none rfl _ _ _) rfl ?_
        exact ⟨⟨_, rfl⟩, .inr ⟨_, trivial, hJx3⟩⟩
    · obtain rfl : k = 0 := by omega
      have Hys := Lib.hid hys
      clear hys hY
      gi_wp2
      go_end0
      exact ⟨⟨_, rfl⟩, .inl ⟨ys, by rw [Hys.out, Nat.sub_zero, Hlen.out], hJs⟩⟩

theorem backward_stops (F : Fence) (n : Nat) (hf : F.fn 119) (hro : F.round = none) (hn : 1 ≤ n) (Bs n₀ : Nat) (A : Option Addr) (c len T : Nat) (p : List Rat) (w W0 : World) (hA : PolyAt w A p) (hlen : len = p.length) (hl : len ≤ 1000000) (hT : SzB p T) (hn₀ : w.heap.size ≤ n₀) (hW0 : n₀ ≤ W0.heap.size)
    (hw : Below w.heap.size w W0) (hBl : Bs < W0.heap.size) (hBs : W0.cell? ⟨Bs, 0, none⟩ = some (.slice A len c)) :
    SeqStopsK F n Tryz.prog 119 #[.pointer (some ⟨Bs, 0, none⟩)] (fun x : Bx w T => x.enc) (KeepB n₀ Bs) (fun ys => ys.map Bx.dat = bwd p p.length) (fun _ => True) len W0 := fun l J Jx W hW _ _ hY h0 => by
  exact backward_in F n hf hro hn l Bs n₀ A c len T p w hA hlen hl hT hn₀ J Jx hY W (hw.trans (hW.mono (Nat.le_trans hn₀ hW0))) ((hW.cell (p := ⟨Bs, 0, none⟩) hBl).trans hBs) h0

set_option maxHeartbeats 1000000 in
theorem backward_make (a : Option Addr) (len cap : Nat) (w : World) :
    Calls Tryz.prog 89 #[.slice a len cap] w fun e w' => e = .returned (.func (.func 119) #[] #[.pointer (some ⟨w.heap.size, 0, none⟩)]) ∧ w' = w.alloc (.cells #[.slice a len cap] 23) := by
  go_enter Tryz.func89, Tryz.ntmps89
  go_wp2
  go_ret
  exact ⟨rfl, rfl⟩

/-! What a caller of a loop over an iterator holds: it speaks of cells alone. -/
def Odd (W : World) (row : Option Nat) : Prop := ∀ r, row = some r → ∃ o : Obj, W.heap[r]? = some o ∧ o.isCells = false
theorem Ws.kept {W W' : World} {row : Option Nat} {A : Option Addr} {xs : List Nat} (h : Ws W A xs) (hg : W.grownBy W' row) (hr : Odd W row) : Ws W' A xs :=
  ⟨h.1, h.2.1, fun hn => by
    obtain ⟨b, off, e, hlt, hc⟩ := h.2.2 hn
    exact ⟨b, off, e, Nat.lt_of_lt_of_le hlt hg.size, fun j hj => cell_kept (hc j hj) hg hr⟩⟩
theorem IntP.kept {W W' : World} {row : Option Nat} {s A n c z} (h : IntP W s A n c z) (hg : W.grownBy W' row) (hr : Odd W row) : IntP W' s A n c z := ⟨h.1, h.2.1, h.2.2.1.kept hg hr, h.2.2.2⟩
theorem RatP.kept {W W' : World} {row : Option Nat} {s A n c t B m d q} (h : RatP W s A n c t B m d q) (hg : W.grownBy W' row) (hr : Odd W row) : RatP W' s A n c t B m d q := ⟨h.1.kept hg hr, h.2.kept hg hr⟩
theorem RatAt.kept {W W' : World} {row : Option Nat} {g o : Nat} {q : Rat} (h : RatAt W g o q) (hg : W.grownBy W' row) (hr : Odd W row) : RatAt W' g o q := by
  obtain ⟨s, A, n, c, t, B, m, d, h1, h2, h3, h4, h5⟩ := h
  exact ⟨s, A, n, c, t, B, m, d, cell_kept h1 hg hr, cell_kept h2 hg hr, cell_kept h3 hg hr, cell_kept h4 hg hr, h5.kept hg hr⟩
/-- A variable of the type Rat. -/
def RV (W : World) (g : Nat) (q : Rat) : Prop := RatAt W g 0 q ∧ ∀ o, W.frozen? ⟨g, o, none⟩ = false
theorem RatAt.cell0 {W : World} {g : Nat} {q : Rat} (h : RatAt W g 0 q) : ∃ v, W.cell? ⟨g, 0, none⟩ = some v := by
  obtain ⟨s, A, n, c, t, B, m, d, h1, _⟩ := h; exact ⟨_, h1⟩
theorem frozen_block {W W' : World} {row : Option Nat} {g : Nat} {v : Value} (h : W.cell? ⟨g, 0, none⟩ = some v) (hf : ∀ o, W.frozen? ⟨g, o, none⟩ = false) (hg : W.grownBy W' row) (hr : Odd W row) : ∀ o, W'.frozen? ⟨g, o, none⟩ = false := by
  have hlt := World.block_lt_of_cell? _ _ h
  have hne : some g ≠ row := by
    intro e
    obtain ⟨o, ho, hc⟩ := hr g e.symm
    simp only [World.cell?, ho] at h
    cases o <;> simp_all [Obj.isCells]
  intro o
  have := hg.block g hlt hne
  have h2 := hf o
  simp only [World.frozen?] at h2 ⊢
  rw [this]; exact h2
theorem RV.kept {W W' : World} {row : Option Nat} {g : Nat} {q : Rat} (h : RV W g q) (hg : W.grownBy W' row) (hr : Odd W row) : RV W' g q := by
  obtain ⟨v, hv⟩ := h.1.cell0
  exact ⟨h.1.kept hg hr, frozen_block hv h.2 hg hr⟩
theorem RV.below {W W' : World} {g : Nat} {q : Rat} (h : RV W g q) (hb : Below W.heap.size W W') : RV W' g q := ⟨h.1.below hb, fun o => ((kept_cells hb).2 _ _ h.1.lt).trans (h.2 o)⟩
theorem RC4.kept {W W' : World} {row : Option Nat} {g : Nat} (h : RC4 W g) (hg : W.grownBy W' row) (hr : Odd W row) : RC4 W' g :=
  ⟨cell_kept h.1 hg hr, cell_kept h.2.1 hg hr, cell_kept h.2.2.1 hg hr, cell_kept h.2.2.2.1 hg hr, frozen_block h.1 h.2.2.2.2.1 hg hr, Nat.lt_of_lt_of_le h.2.2.2.2.2 hg.size⟩
theorem keepsOthers_below {W W' : World} (h : Below W.heap.size W W') : KeepsOthers W W' := ⟨h.size, fun k o hk _ => (h.block k (Array.getElem?_eq_some_iff.1 hk).1).trans hk⟩
theorem keepsOthers_st4 (W : World) (g o : Nat) (s A n c t B m d) : KeepsOthers W (st4 W g o s A n c t B m d) :=
  (((KeepsOthers.setCell W _ _).trans (KeepsOthers.setCell _ _ _)).trans (KeepsOthers.setCell _ _ _)).trans (KeepsOthers.setCell _ _ _)
theorem st4_cells (w : World) (g o : Nat) (hf : Four w g o) (s : Bool) (A : Option Addr) (n c : Nat) (t : Bool) (B : Option Addr) (m d : Nat) :
    (st4 w g o s A n c t B m d).cell? ⟨g, o, none⟩ = some (.bool s) ∧ (st4 w g o s A n c t B m d).cell? ⟨g, o + 1, none⟩ = some (.slice A n c) ∧ (st4 w g o s A n c t B m d).cell? ⟨g, o + 2, none⟩ = some (.bool t) ∧ (st4 w g o s A n c t B m d).cell? ⟨g, o + 3, none⟩ = some (.slice B m d) := by
  obtain ⟨u0, u1, u2, u3, h0, h1, h2, h3, k⟩ := hf
  refine ⟨?_, ?_, ?_, ?_⟩
  all_goals unfold Proofs.YtlklgeidffjidaaGreat.st4
  · rw [World.cell?_setCell_other _ _ _ _ (addr_ne (by omega)), World.cell?_setCell_other _ _ _ _ (addr_ne (by omega)), World.cell?_setCell_other _ _ _ _ (addr_ne (by omega))]; simp [go_sem, h0]
  · rw [World.cell?_setCell_other _ _ _ _ (addr_ne (by omega)), World.cell?_setCell_other _ _ _ _ (addr_ne (by omega))]; simp [go_sem, h1]
  · rw [World.cell?_setCell_other _ _ _ _ (addr_ne (by omega))]; simp [go_sem, h2]
  · simp [go_sem, h3]

end Go.Proofs.YtlklgeidffjidaaGreat

/- Boxed variables that hold slices. -/
namespace Go.Proofs.YtlklgeidffjidaaGreat
open Go.RowKit Go.Shelf
set_option linter.unusedSimpArgs false

theorem Boxed.none {W : World} {B : Nat} {t : TypeId} {v : Value} (h : Boxed W B t v) (o : Nat) (ho : 0 < o) : W.cell? ⟨B, o, none⟩ = none := by
  simp [World.cell?, show W.heap[B]? = _ from h]; omega
theorem RatAt.ne_box {W : World} {b o B : Nat} {q : Rat} {t : TypeId} {v : Value} (h : RatAt W b o q) (hb : Boxed W B t v) : b ≠ B := by
  rintro rfl
  obtain ⟨s, A, n, c, t, B, m, d, h1, h2, h3, h4, h5⟩ := h
  rw [Boxed.none hb _ (by omega)] at h4; cases h4
theorem Boxed.below {W W' : World} {B : Nat} {t : TypeId} {v : Value} (h : Boxed W B t v) (hb : Below W.heap.size W W') : Boxed W' B t v := (hb.block B h.lt).trans h
theorem RatAt.set1 {W : World} {g o B : Nat} {q : Rat} {t : TypeId} {u : Value} (v : Value) (h : RatAt W g o q) (hb : Boxed W B t u) (hu : Soft u) : RatAt (W.setCell ⟨B, 0, none⟩ v) g o q := by
  have hne := h.ne_box hb
  obtain ⟨s, A, n, c, t, B', m, d, h1, h2, h3, h4, h5⟩ := h
  have ne : ∀ x, (W.setCell ⟨B, 0, none⟩ v).cell? ⟨g, x, none⟩ = W.cell? ⟨g, x, none⟩ := fun x => World.cell?_setCell_other _ _ _ _ (addr_ne (Or.inl (by omega)))
  exact ⟨s, A, n, c, t, B', m, d, (ne _).trans h1, (ne _).trans h2, (ne _).trans h3, (ne _).trans h4, h5.1.setCell v hb.cell hu, h5.2.setCell v hb.cell hu⟩
theorem PolyAt.set1 {W : World} {A : Option Addr} {p : List Rat} {B : Nat} {t : TypeId} {u : Value} (v : Value) (h : PolyAt W A p) (hb : Boxed W B t u) (hu : Soft u) : PolyAt (W.setCell ⟨B, 0, none⟩ v) A p := by
  intro j hj; obtain ⟨b, off, e, h⟩ := h j hj; exact ⟨b, off, e, h.set1 v hb hu⟩
theorem IsPoly.set1 {W : World} {x : Value} {p : List Rat} {B : Nat} {t : TypeId} {u : Value} (v : Value) (h : IsPoly W x p) (hb : Boxed W B t u) (hu : Soft u) : IsPoly (W.setCell ⟨B, 0, none⟩ v) x p := by
  obtain ⟨A, c, e, h, hc⟩ := h; exact ⟨A, c, e, h.set1 v hb hu, hc⟩
theorem PolyAt.kept {W W' : World} {row : Option Nat} {A : Option Addr} {p : List Rat} (h : PolyAt W A p) (hg : W.grownBy W' row) (hr : Odd W row) : PolyAt W' A p := by
  intro j hj; obtain ⟨b, off, e, h⟩ := h j hj; exact ⟨b, off, e, h.kept hg hr⟩
theorem IsPoly.kept {W W' : World} {row : Option Nat} {x : Value} {p : List Rat} (h : IsPoly W x p) (hg : W.grownBy W' row) (hr : Odd W row) : IsPoly W' x p := by
  obtain ⟨A, c, e, h, hc⟩ := h; exact ⟨A, c, e, h.kept hg hr, hc⟩
theorem Boxed.kept' {W W' : World} {row : Option Nat} {B : Nat} {t : TypeId} {v : Value} (h : Boxed W B t v) (hg : W.grownBy W' row) (hr : Odd W row) : Boxed W' B t v :=
  h.kept hg (fun e => by
    obtain ⟨o, ho, hc⟩ := hr B e.symm
    rw [show W.heap[B]? = _ from h] at ho
    injection ho with ho; subst ho; simp [Obj.isCells] at hc)
theorem IsPoly.soft {W : World} {x : Value} {p : List Rat} (h : IsPoly W x p) : Soft x := by
  obtain ⟨A, c, rfl, _⟩ := h; intro k z; simp

end Go.Proofs.YtlklgeidffjidaaGreat

/- The walk of Compose (package univariate). -/
namespace Go.Proofs.YtlklgeidffjidaaGreat
open Go.RowKit Go.Shelf
attribute [local go_sem] Oper.semAt_some
set_option linter.unusedSimpArgs false

/-- The composition of what has come. -/
def compf (b : List Rat) (l : List (Int × Rat)) : List Rat := l.foldl (fun s c => padd (pmul s b) (pcon c.2)) []
theorem compf_snoc (b : List Rat) (l : List (Int × Rat)) (c : Int × Rat) : compf b (l ++ [c]) = padd (pmul (compf b l) b) (pcon c.2) := by simp [compf]
theorem compf_bwd (p b : List Rat) (k : Nat) (hk : k ≤ p.length) : compf b (bwd p k) = pcomp (p.drop (p.length - k)) b := by
  induction k with
  | zero => rw [Nat.sub_zero, List.drop_length]; rfl
  | succ k ih =>
    rw [bwd_succ, compf_snoc, ih (by omega)]
    have e1 : p.length - (k + 1) + 1 = p.length - k := by omega
    have e2 : p.length - 1 - k = p.length - (k + 1) := by omega
    have h : p.length - (k + 1) < p.length := by omega
    have e3 : p.drop (p.length - (k + 1)) = p.getD (p.length - (k + 1)) 0 :: p.drop (p.length - k) := by
      rw [List.drop_eq_getElem_cons h, e1]; simp [List.getD_eq_getElem?_getD, List.getElem?_eq_getElem h]
    rw [e3, e2]; rfl
theorem pmul_length_le (p q : List Rat) : (pmul p q).length ≤ p.length + q.length := by
  refine Nat.le_trans (ptrim_length_le _) ?_
  by_cases hp : p = []
  · subst hp; simp [zmul]
  · by_cases hq : q = []
    · subst hq
      have : ∀ p : List Rat, (zmul p []).length ≤ p.length + 1 := by
        intro p
        induction p with
        | nil => simp [zmul]
        | cons a p ih => simp only [zmul, zadd_length, List.length_cons, List.map_nil, List.length_nil]; omega
      have h1 : ∀ p : List Rat, (zmul p []).length ≤ p.length := by
        intro p
        induction p with
        | nil => simp [zmul]
        | cons a p ih => simp only [zmul, zadd_length, List.length_cons, List.map_nil, List.length_nil]; omega
      have := h1 p
      simp; omega
    · rw [zmul_length p q hp hq]; omega
theorem pcon_length_le (c : Rat) : (pcon c).length ≤ 1 := by unfold pcon; exact Nat.le_trans (ptrim_length_le _) (by simp)
theorem compf_length (b : List Rat) (l : List (Int × Rat)) : (compf b l).length ≤ 1 + l.length * b.length := by
  have main : ∀ (l : List (Int × Rat)) (s : List Rat), (l.foldl (fun s c => padd (pmul s b) (pcon c.2)) s).length ≤ max s.length 1 + l.length * b.length := by
    intro l
    induction l with
    | nil => intro s; simp; omega
    | cons c l ih =>
      intro s
      rw [List.foldl_cons]
      have h1 := ih (padd (pmul s b) (pcon c.2))
      have h2 := padd_length_le (pmul s b) (pcon c.2)
      have h3 := pmul_length_le s b
      have h4 := pcon_length_le c.2
      have h5 : (c :: l).length * b.length = l.length * b.length + b.length := by rw [List.length_cons, Nat.add_mul, Nat.one_mul]
      omega
  have := main l []
  unfold compf; simpa using this
theorem uni_norm_is (A : Option Addr) (n c : Nat) (p : List Rat) (w : World) (hA : PolyAt w A p) (hn : n = p.length) (hc : n ≤ c) (hl : n ≤ 1099511627776) :
    Calls Tryz.prog 63 #[.slice A n c] w fun e w' => (∃ v, e = .returned v ∧ IsPoly w' v (ptrim p)) ∧ Below w.heap.size w w' := by
  refine (uni_norm A n c p w hA hn hc hl).mono ?_
  rintro e w1 ⟨rfl, hb⟩
  refine ⟨⟨_, rfl, _, _, rfl, ?_, Nat.le_trans (ptrim_length_le p) (by omega)⟩, hb⟩
  have := (hA.below hb).take (ptrim p).length
  rwa [ptrim_self] at this
theorem below_step {W X Y : World} (h : Below W.heap.size W X) (hb : Below X.heap.size X Y) : Below W.heap.size W Y := h.trans (hb.mono h.size)
/-- A bound on the sizes. -/
def csz (m Tb T : Nat) : Nat → Nat
  | 0 => 1
  | k + 1 => (1 + (1 + k * m) * (csz m Tb T k + Tb + 1)) + T + 1
theorem SzB.con {c : Rat} {T : Nat} (h : rsz c ≤ T) : SzB (pcon c) T := by unfold pcon; exact (SzB.one h).ptrim

set_option maxRecDepth 100000 in
set_option maxHeartbeats 8000000 in
theorem uni_compose (u v : Value) (p q : List Rat) (w : World) (hu : IsPoly w u p) (hv : IsPoly w v q) (hl : p.length ≤ 400000) (T Tq : Nat) (hT : SzB p T) (hTq : SzB q Tq) (hlen : 1 + p.length * q.length + q.length ≤ 400000) (hb : ∀ k, k ≤ p.length → csz q.length Tq T k ≤ 68719476736) (hT' : T ≤ 68719476736) :
    Calls Tryz.prog 44 #[u, v] w fun e w' => (∃ v, e = .returned v ∧ IsPoly w' v (pcomp p q)) ∧ Below w.heap.size w w' := by
  obtain ⟨A, c, rfl, hA, hc⟩ := hu
  have hq := hv
  obtain ⟨B, d, rfl, hB, hd⟩ := hv
  refine (callsIn_wide (n := 3)).1 ?_
  refine callsIn_of_wp_marks Tryz.func44 rfl trivial ?_ rfl
  simp only [Tryz.ntmps44, List.size_toArray, List.length_cons, List.length_nil, Nat.reduceAdd, Nat.reduceSub, Array.replicate_succ, Array.replicate_zero, List.push_toArray, List.append_toArray, List.nil_append, List.cons_append]
  gi_wp2_with (refine ⟨trivial, ?_⟩; gi_at_call 89; refine (callsIn_wide.2 (backward_make _ _ _ _)).mono ?_; rintro e w2 ⟨rfl, rfl⟩)
  obtain ⟨W0, hW0⟩ : ∃ W0, ((w.alloc (.cells #[.slice B q.length d] 23)).alloc (.cells #[.slice none 0 0] 23)).alloc (.cells #[.slice A p.length c] 23) = W0 := ⟨_, rfl⟩
  have hB0 : Below w.heap.size w W0 := by rw [← hW0]; exact (((Below.refl _ _).alloc (Nat.le_refl _) _).alloc (by simp) _).alloc (by simp; omega) _
  have bQ : Boxed W0 w.heap.size 23 (.slice B q.length d) := by rw [← hW0]; exact ((Boxed.new _ _ _).alloc _).alloc _
  have bS : Boxed W0 (w.heap.size + 1) 23 (.slice none 0 0) := by
    rw [← hW0]
    have := (Boxed.new (w.alloc (.cells #[.slice B q.length d] 23)) 23 (.slice none 0 0)).alloc (.cells #[.slice A p.length c] 23)
    rw [World.size_alloc] at this; exact this
  have cB : W0.cell? ⟨w.heap.size + 1 + 1, 0, none⟩ = some (.slice A p.length c) := by rw [← hW0]; simp [go_sem]
  have hsz : W0.heap.size = w.heap.size + 3 := by rw [← hW0]; simp
  rw [hW0]
  have Hsz := Lib.hid hsz
  clear hW0 hsz
  refine wpIn_rangeFunc_ownH (F := Fence.wide) rfl (by omega) (gf := 119) (lb := #[.pointer (some ⟨w.heap.size + 1 + 1, 0, none⟩)]) rfl trivial (enters_of Tryz.func119 (by kernel_rfl) rfl)
    (backward_stops Fence.wide _ trivial rfl (by omega) (w.heap.size + 1 + 1) w.heap.size A c p.length T p w W0 hA rfl (by omega) hT (Nat.le_refl _) hB0.size hB0 (by have := Hsz.out; omega) cB) keepB_t (keepB_b hB0.size (by have := Hsz.out; omega)) (Below.refl _ _) (fun _ => rfl)
    (fun pre W => (Boxed W w.heap.size 23 (.slice B q.length d) ∧ (∃ z, Boxed W (w.heap.size + 1) 23 z ∧ IsPoly W z (compf q (pre.map Bx.dat))) ∧ W.cell? ⟨w.heap.size + 1 + 1, 0, none⟩ = some (.slice A p.length c) ∧ SzB (compf q (pre.map Bx.dat)) (csz q.length Tq T pre.length)) ∧ Below w.heap.size w W)
    (fun _ _ _ => False)
    (OwnFrom.and (Own.from (fun pre Y Z row hs hg hr => ⟨Boxed.kept' hs.1 hg hr, by obtain ⟨z, h1, h2⟩ := hs.2.1; exact ⟨z, Boxed.kept' h1 hg hr, h2.kept hg hr⟩, cell_kept hs.2.2.1 hg hr, hs.2.2.2⟩) _) (ownFrom_below (Nat.le_refl _) hB0.size))
    (fun _ _ _ _ _ hs _ _ => hs)
    ⟨⟨bQ, ⟨_, bS, IsPoly.nil _ _ _⟩, cB, SzB.nil (Nat.le_refl 1)⟩, hB0⟩
    (fun y a' W => ∃ gx, w.heap.size + 1 + 1 < gx ∧ RatAt W gx 0 y.1.2.2 ∧ a' = { tmps := #[.slice A p.length c, .slice B q.length d, undef, .pointer (some ⟨w.heap.size, 0, none⟩), .slice none 0 0, .pointer (some ⟨w.heap.size + 1, 0, none⟩), undef, .pointer (some ⟨gx, 0, none⟩), .slice A p.length c, .func (.func 119) #[] #[.pointer (some ⟨w.heap.size + 1 + 1, 0, none⟩)], .int .i64 y.1.1, y.1.2.1, undef, undef, undef, undef, undef, undef, undef, undef], defers := [] })
    (fun y a' _ Y Z row hs hg hr => by obtain ⟨gx, h1, h2, h3⟩ := hs; exact ⟨gx, h1, h2.kept hg (fun r e => (hr r e).2), h3⟩)
    ?assign ?body ?done ?stop
  case assign =>
    rintro l pre ⟨⟨iy, vy, qy⟩, hv0⟩ W K ⟨⟨i1, ⟨z, i2, i3⟩, i4, i5⟩, hB⟩ hK
    obtain ⟨⟨sy, Ay, ny, cy, ty, By, my, dy, e, hy⟩, hyT⟩ := id hv0
    dsimp only at e
    subst e
    dsimp only [Bx.enc]
    gi_wp2
    have hg1 : w.heap.size + 1 + 1 < W.heap.size := World.block_lt_of_cell? _ _ i4
    have hba := fun X => below_alloc W X
    exact hK _ _ ((KeepsOthers.alloc _ _).from _) ⟨(hba _).mono hB.size, (hba _).cell (p := ⟨w.heap.size + 1 + 1, 0, none⟩) hg1⟩ ⟨⟨i1.alloc _, ⟨z, i2.alloc _, i3.below (hba _)⟩, cell_below i4 (hba _), i5⟩, hB.alloc hB.size _⟩
      ⟨W.heap.size, hg1, ⟨sy, Ay, ny, cy, ty, By, my, dy, by simp [go_sem], by simp [go_sem], by simp [go_sem], by simp [go_sem], (hy.below hB).below (hba _)⟩, rfl⟩
  case body =>
    rintro l pre y a' W hl ⟨r, hr⟩ ⟨⟨i1, ⟨z, i2, i3⟩, i4, i5⟩, hB⟩ ⟨gx, hgx, hX', rfl⟩ hlt
    have hsl := i2.lt
    have hql := i1.lt
    have hgxl := hX'.lt
    have hg1 : w.heap.size + 1 + 1 < W.heap.size := World.block_lt_of_cell? _ _ i4
    have hH : compf q ((pre ++ [y]).map Bx.dat) = padd (pmul (compf q (pre.map Bx.dat)) q) (pcon y.1.2.2) := by rw [List.map_append, List.map_cons, List.map_nil, compf_snoc]; rfl
    have hyT := y.2.2
    have hln := compf_length q (pre.map Bx.dat)
    rw [List.length_map] at hln
    have hpl : pre.length * q.length ≤ p.length * q.length := Nat.mul_le_mul_right _ (by omega)
    have hcb := hb (pre.length + 1) (by omega)
    have hcs : csz q.length Tq T (pre.length + 1) = (1 + (1 + pre.length * q.length) * (csz q.length Tq T pre.length + Tq + 1)) + T + 1 := rfl
    have hmm : (compf q (pre.map Bx.dat)).length * (csz q.length Tq T pre.length + Tq + 1) ≤ (1 + pre.length * q.length) * (csz q.length Tq T pre.length + Tq + 1) := Nat.mul_le_mul_right _ hln
    have hs1 := (SzB.mul i5 hTq).mono (show _ ≤ 1 + (1 + pre.length * q.length) * (csz q.length Tq T pre.length + Tq + 1) by omega)
    have hs2 := SzB.con (c := y.1.2.2) hyT
    have hS' : SzB (compf q ((pre ++ [y]).map Bx.dat)) (csz q.length Tq T (pre ++ [y]).length) := by
      rw [hH, List.length_append, List.length_singleton, hcs]; exact hs1.add hs2
    have hpm := pmul_length_le (compf q (pre.map Bx.dat)) q
    have hpc := pcon_length_le y.1.2.2
    have hmul := fun W' u v (hu : IsPoly W' u (compf q (pre.map Bx.dat))) (hv : IsPoly W' v q) => uni_mul u v _ q W' hu hv (by omega) (by omega) _ _ i5 hTq (by omega)
    have hnorm := fun W' g (h : PolyAt W' (some ⟨g, 0, none⟩) [y.1.2.2]) => uni_norm_is (some ⟨g, 0, none⟩) 1 1 [y.1.2.2] W' h rfl (Nat.le_refl _) (by omega)
    have hadd := fun W' u v (hu : IsPoly W' u (pmul (compf q (pre.map Bx.dat)) q)) (hv : IsPoly W' v (pcon y.1.2.2)) => uni_add u v _ _ W' hu hv (by omega) (by omega) (hs1.mono (by omega)) (hs2.mono (by omega))
    rw [← hH] at hadd
    obtain ⟨M2, HM2⟩ : ∃ M2, Hid (M2 = compf q ((pre ++ [y]).map Bx.dat)) := ⟨_, Lib.hid rfl⟩
    rw [← HM2.out] at hadd
    have HS' := Lib.hid hS'
    obtain ⟨s4, A4, n4, c4, t4, B4, m4, d4, r1, r2, r3, r4, r5⟩ := hX'
    simp only [Nat.zero_add] at r1 r2 r3 r4
    have k1 := i1.cell
    have k2 := i2.cell
    have hfz := i2.frozen
    clear hH hln hpl hcb hcs hmm hs1 hs2 hS' hpm hpc hyT i5
    generalize pmul (compf q (pre.map Bx.dat)) q = M at *
    obtain ⟨Z, zc, rfl, hZ⟩ := i3
    generalize compf q (pre.map Bx.dat) = C at *
    have hmx : Tryz.prog.follows .mixedOrders = true := by kernel_rfl
    gi_wp2
    gi_region_with_o (first
      | (refine ⟨trivial, ?_⟩
         gi_at_call 17
         refine (CallsIn.inRound l (callsIn_wide.2 (hmul _ _ _ ?_ ?_))).mono ?_
         · first | exact IsPoly.below ⟨Z, zc, rfl, hZ⟩ (below_drew' _) | exact IsPoly.below ⟨Z, zc, rfl, hZ⟩ ((below_alloc _ _).trans (below_drew' _))
         · first | exact hq.below (hB.trans (below_drew' _)) | exact hq.below (hB.trans (((below_alloc _ _).mono hB.size).trans (below_drew' _)))
         rintro e wa ⟨⟨_, rfl, MA, mc, rfl, hm⟩, hba⟩
         have hbA : Below W.heap.size W wa := below_step (by first | exact below_drew' _ | exact (below_alloc _ _).trans (below_drew' _)) hba
         have r1 := cell_below r1 hbA
         have r2 := cell_below r2 hbA
         have r3 := cell_below r3 hbA
         have r4 := cell_below r4 hbA
         have hmis : IsPoly wa (.slice MA M.length mc) M := ⟨_, _, rfl, hm⟩
         have c1 := fun g o v hh => cell_below (g := g) (o := o) (v := v) hh hba)
      | (refine ⟨trivial, ?_⟩
         gi_at_call 63
         refine (CallsIn.inRound l (callsIn_wide.2 (hnorm _ _ (polyAt_one (by (repeat' (first | assumption | (simp [go_sem]; done) | with_reducible apply cell_alloc | with_reducible apply cell_drew | apply c1)); first | done | fail) (by (repeat' (first | assumption | (simp [go_sem]; done) | with_reducible apply cell_alloc | with_reducible apply cell_drew | apply c1)); first | done | fail) (by (repeat' (first | assumption | (simp [go_sem]; done) | with_reducible apply cell_alloc | with_reducible apply cell_drew | apply c1)); first | done | fail) (by (repeat' (first | assumption | (simp [go_sem]; done) | with_reducible apply cell_alloc | with_reducible apply cell_drew | apply c1)); first | done | fail) (r5.below (by first | exact hbA | exact hbA.alloc hbA.size _)))))).mono ?_
         rintro e wb ⟨⟨nv, rfl, hn⟩, hbb⟩
         have hbB : Below W.heap.size W wb := below_step (by first | exact hbA | exact hbA.alloc hbA.size _) hbb
         have hmis2 : IsPoly wb (.slice MA M.length mc) M := by first | exact hmis.below hbb | exact (hmis.below (below_alloc _ _)).below hbb)
      | (refine ⟨trivial, ?_⟩
         gi_at_call 16
         refine (CallsIn.inRound l (callsIn_wide.2 (hadd _ _ _ hmis2 hn))).mono ?_
         rintro e wc ⟨⟨_, rfl, RA, rc, rfl, hr⟩, hbc⟩
         have hb3 : Below W.heap.size W wc := below_step hbB hbc
         have k2 := cell_below k2 hb3
         have hfz2 : wc.frozen? ⟨w.heap.size + 1, 0, none⟩ = false := ((kept_cells hb3).2 _ _ hsl).trans hfz))
    all_goals gi_wp2
    all_goals
      have b2 := Boxed.below i2 hb3
      have b1 := Boxed.below i1 hb3
      have e2 := (hb3.mono hB.size).setCell (p := ⟨w.heap.size + 1, 0, none⟩) (by simp) (.slice RA M2.length rc)
      have hp : IsPoly wc (.slice RA M2.length rc) M2 := ⟨_, _, rfl, hr⟩
      have hp2 := hp.set1 (.slice RA M2.length rc) b2 (by intro k z; simp)
      have HS2 := HS'.out
      have h4 : (wc.setCell ⟨w.heap.size + 1, 0, none⟩ (.slice RA M2.length rc)).cell? ⟨w.heap.size + 1 + 1, 0, none⟩ = W.cell? ⟨w.heap.size + 1 + 1, 0, none⟩ :=
        (World.cell?_setCell_other _ _ _ _ (addr_ne (by omega))).trans (hb3.cell (p := ⟨w.heap.size + 1 + 1, 0, none⟩) hg1)
      exact ⟨((keepsOthers_below hb3).trans (KeepsOthers.setCell _ _ _)).from _, ⟨e2, h4⟩, ⟨b1.kept (grownBy_setCell' _ _ _) (by simp), ⟨_, Boxed.set _ b2, Eq.mp (congrArg (fun l => IsPoly _ _ l) HM2.out) hp2⟩, h4.trans i4, HS2⟩, hB.trans e2⟩
  case done =>
    rintro D ys W hD hys ⟨⟨i1, ⟨z, i2, i3⟩, i4, i5⟩, hB⟩ hK
    have hv : compf q (ys.map Bx.dat) = pcomp p q := by rw [hys, compf_bwd p q p.length (Nat.le_refl _), Nat.sub_self, List.drop_zero]
    rw [hv] at i3
    have z1 := i2.cell
    obtain ⟨Z, zc, rfl, hZ⟩ := i3
    clear hv i5 hys
    gi_wp2
    have hg2 := grownBy_putObj' W D (.deferred none)
    have ho2 : Odd W (some D) := fun r e => by cases e; exact ⟨_, hK, rfl⟩
    refine ⟨by simp, .inl ⟨_, _, rfl, run_takeDeferred hK, ?_⟩⟩
    exact ⟨_, results_tmp rfl _ _ _, ⟨_, rfl, Z, zc, rfl, hZ.1.kept hg2 ho2, hZ.2⟩, hB.trans (belowK_b (w := w) (Nat.le_refl _) W D _ _ (Nat.le_trans hB0.size hD) hK rfl rfl)⟩
  case stop =>
    rintro D c pre W _ _ h _
    exact h.elim

end Go.Proofs.YtlklgeidffjidaaGreat

/- The walk of Bezout's step (package univariate). -/
namespace Go.Proofs.YtlklgeidffjidaaGreat
open Go.RowKit
set_option linter.unusedSimpArgs false

theorem keepO1 {B g : Nat} {w0 W : World} {u : Value} (hB : B ≤ g) (h : Below B w0 W) : Below B w0 (W.setCell ⟨g, 0, none⟩ u) := h.setCell hB _

set_option maxRecDepth 100000 in
set_option maxHeartbeats 8000000 in
theorem bez_step (v x y : Value) (bN bU B0 : Nat) (Q X U : List Rat) (w : World) (hv : IsPoly w v Q) (hx : IsPoly w x X) (hy : IsPoly w y U) (bn : Boxed w bN 23 x) (bu : Boxed w bU 23 y) (hne : bN ≠ bU) (h0 : B0 ≤ bN) (h1 : B0 ≤ bU)
    (hlQ : Q.length ≤ 400000) (hlX : X.length ≤ 100000) (hlU : U.length ≤ 400000) (hlM : Q.length ≤ 100000) (SQ SX SU : Nat) (hsQ : SzB Q SQ) (hsX : SzB X SX) (hsU : SzB U SU) (hb : 1 + Q.length * (SQ + SX + 1) ≤ 68719476735) (hU : SU ≤ 68719476736) :
    Calls Tryz.prog 74 #[v, .pointer (some ⟨bN, 0, none⟩), .pointer (some ⟨bU, 0, none⟩)] w fun e w' => (∃ r, e = .returned r) ∧ (∃ z, Boxed w' bN 23 z ∧ IsPoly w' z (psub U (pmul Q X))) ∧ Boxed w' bU 23 x ∧ (∀ s p, IsPoly w s p → IsPoly w' s p) ∧ Below B0 w w' := by
  have hmul := fun W (hW : Below w.heap.size w W) => uni_mul v x Q X W (hv.below hW) (hx.below hW) hlQ (by omega) SQ SX hsQ hsX (by omega)
  have hml := pmul_length_le Q X
  have hsub := fun W z (hz : IsPoly W z (pmul Q X)) (hW : Below w.heap.size w W) => uni_sub y z U (pmul Q X) W (hy.below hW) hz (by omega) (by omega) (hsU.mono hU) ((SzB.mul hsQ hsX).mono hb)
  generalize pmul Q X = M at *
  generalize psub U M = Z at *
  have hall : ∀ W, Below w.heap.size w W → ∀ s p, IsPoly w s p → IsPoly W s p := fun W hW s p h => h.below hW
  have hnl := bn.lt
  have hul := bu.lt
  have hBn : B0 ≤ w.heap.size := by omega
  have sx := hx.soft
  have sy := hy.soft
  obtain ⟨A1, c1, rfl, _⟩ := hx
  obtain ⟨A2, c2, rfl, _⟩ := hy
  obtain ⟨A3, c3, rfl, _⟩ := hv
  have k1 := bn.cell
  have k2 := bu.cell
  have f1 := bn.frozen
  have f2 := bu.frozen
  have hb0 := Below.refl B0 w
  clear hml
  generalize X.length = lX at *
  generalize U.length = lU at *
  generalize Q.length = lQ at *
  have hne' : bU ≠ bN := fun e => hne e.symm
  go_enter Tryz.func74, Tryz.ntmps74
  go_wp2_with fail
  go_region_held3 (fun w' => Below B0 w w')
    (((try dsimp only); first | with_reducible assumption | with_reducible exact keepO1 h0 (by assumption) | with_reducible exact keepO1 h1 (by assumption) | with_reducible exact keepC0 hBn (by assumption) (by assumption) | exact below_drew' _))
    (first
    | (go_at_call 17
       refine (hmul _ (below_drew' _)).mono ?_
       rintro e wa ⟨⟨va, rfl, hva⟩, hba⟩
       have hbA : Below w.heap.size w wa := (below_drew' _).trans hba
       have k1 := cell_below k1 hbA
       have k2 := cell_below k2 hbA)
    | (go_at_call 18
       refine (hsub _ _ hva hbA).mono ?_
       rintro e wb ⟨⟨_, rfl, ZA, zc, rfl, hz⟩, hbb⟩
       have hb3 : Below w.heap.size w wb := hbA.trans (hbb.mono hbA.size)
       have k1 := cell_below k1 hbb
       have k2 := cell_below k2 hbb
       have f1b : wb.frozen? ⟨bN, 0, none⟩ = false := ((kept_cells hb3).2 _ _ hnl).trans f1
       have f2b : wb.frozen? ⟨bU, 0, none⟩ = false := ((kept_cells hb3).2 _ _ hul).trans f2))
  all_goals
    have bu3 := Boxed.below bu hb3
    have bn3 := Boxed.below bn hb3
    have hz' : IsPoly wb (.slice ZA Z.length zc) Z := ⟨_, _, rfl, hz⟩
    have bu4 := Boxed.set (.slice A1 lX c1) bu3
    have bn4 := Boxed.other bn3 hne (.slice A1 lX c1)
    have bn5 := Boxed.set (.slice ZA Z.length zc) bn4
    have bu5 := Boxed.other bu4 hne' (.slice ZA Z.length zc)
    have hfin : Below B0 w ((wb.setCell ⟨bU, 0, none⟩ (.slice A1 lX c1)).setCell ⟨bN, 0, none⟩ (.slice ZA Z.length zc)) := ((hb3.mono hBn).setCell (p := ⟨bU, 0, none⟩) h1 _).setCell (p := ⟨bN, 0, none⟩) h0 _
    go_end0
    exact ⟨⟨_, rfl⟩, ⟨_, bn5, (hz'.set1 _ bu3 sy).set1 _ bn4 sx⟩, bu5, fun s p h => ((h.below hb3).set1 _ bu3 sy).set1 _ bn4 sx, hfin⟩

end Go.Proofs.YtlklgeidffjidaaGreat

/- The walk of euclid with Bezout's step (package univariate). -/
namespace Go.Proofs.YtlklgeidffjidaaGreat
open Go.RowKit
set_option linter.unusedSimpArgs false

/-- The last remainder and its cofactor. -/
def bezF : Nat → List Rat → List Rat → List Rat → List Rat → List Rat × List Rat
  | 0, a, _, U, _ => (a, U)
  | n + 1, a, b, U, X => if b = [] then (a, U) else bezF n b (pmod a b) X (psub U (pmul (pquo a b) X))
def StepOK (Q X U : List Rat) : Prop := Q.length ≤ 100000 ∧ X.length ≤ 100000 ∧ U.length ≤ 400000 ∧ ∃ SQ SX SU, SzB Q SQ ∧ SzB X SX ∧ SzB U SU ∧ 1 + Q.length * (SQ + SX + 1) ≤ 68719476735 ∧ SU ≤ 68719476736
def BezOK : Nat → List Rat → List Rat → List Rat → List Rat → Prop
  | 0, _, _, _, _ => True
  | n + 1, a, b, U, X => b ≠ [] → DivOK a b ∧ StepOK (pquo a b) X U ∧ BezOK n b (pmod a b) X (psub U (pmul (pquo a b) X))
theorem bezF_euc (n : Nat) : ∀ a b U X : List Rat, (bezF n a b U X).1 = eucF n a b := by
  induction n with
  | zero => intros; rfl
  | succ n ih =>
    intro a b U X
    simp only [bezF, eucF]
    split
    · rfl
    · exact ih _ _ _ _

set_option maxRecDepth 100000 in
set_option maxHeartbeats 4000000 in
theorem uni_euclid_bez (u v xv yv : Value) (bN bU B0 : Nat) (p q X0 U0 : List Rat) (w : World) (hu : IsPoly w u p) (hv : IsPoly w v q) (hp : PC p) (hq : PC q) (hx : IsPoly w xv X0) (hy : IsPoly w yv U0) (bn : Boxed w bN 23 xv) (bu : Boxed w bU 23 yv) (hne : bN ≠ bU) (h0 : B0 ≤ bN) (h1 : B0 ≤ bU) (hok : BezOK (q.length + 1) p q U0 X0) :
    Calls Tryz.prog 71 #[u, v, .func (.func 74) #[] #[.pointer (some ⟨bN, 0, none⟩), .pointer (some ⟨bU, 0, none⟩)]] w fun e w' => (∃ v, e = .returned v ∧ IsPoly w' v (bezF (q.length + 1) p q U0 X0).1) ∧ (∃ z, Boxed w' bU 23 z ∧ IsPoly w' z (bezF (q.length + 1) p q U0 X0).2) ∧ (∀ s l, IsPoly w s l → IsPoly w' s l) ∧ Below B0 w w' := by
  obtain ⟨R, HR⟩ : ∃ R, Hid (bezF (q.length + 1) p q U0 X0 = R) := ⟨_, Lib.hid rfl⟩
  rw [HR.out]
  have Hok := Lib.hid hok
  have Hu := Lib.hid hu
  have Hv := Lib.hid hv
  have Hx := Lib.hid hx
  have Hy := Lib.hid hy
  have HPC := Lib.hid (And.intro hp hq)
  have hb0 := Below.refl B0 w
  have hall : Hid (∀ s l, IsPoly w s l → IsPoly w s l) := Lib.hid (fun s l h => h)
  clear hok hu hv hp hq hx hy
  go_enter Tryz.func71, Tryz.ntmps71
  go_wp2_with fail
  go_loopg [0, 1] (q.length + 1) (fun k s0 s1 wr => ∃ a b U X xv yv, IsPoly wr s0 a ∧ IsPoly wr s1 b ∧ Boxed wr bN 23 xv ∧ Boxed wr bU 23 yv ∧ IsPoly wr xv X ∧ IsPoly wr yv U ∧ Hid (PC a ∧ PC b ∧ b.length + 1 ≤ k) ∧ Hid (bezF k a b U X = R) ∧ Hid (BezOK k a b U X) ∧ Hid (∀ s l, IsPoly w s l → IsPoly wr s l) ∧ Below B0 w wr)
  case atStart => exact ⟨p, q, U0, X0, xv, yv, Hu.out, Hv.out, bn, bu, Hx.out, Hy.out, Lib.hid ⟨HPC.out.1, HPC.out.2, Nat.le_refl _⟩, HR, Hok, hall, hb0⟩
  case round =>
    clear Hu Hv HPC HR Hok bn bu Hx Hy hall
    obtain ⟨a, b, U, X, xv, yv, hPa, hPb, bn, bu, hX, hU, HF, HR, Hok, Hall, hBW⟩ := hrel
    obtain ⟨ha, hb, hbk⟩ := HF.out
    obtain ⟨f, rfl⟩ : ∃ f, gk = f + 1 := ⟨gk - 1, by omega⟩
    have hR := HR.out
    have hK := Hok.out
    simp only [bezF, BezOK] at hR hK
    obtain ⟨A, c, rfl, hA⟩ := id hPa
    obtain ⟨B, d, rfl, hB⟩ := id hPb
    by_cases h0' : b = []
    · rw [if_pos h0'] at hR
      have hl : b.length = 0 := by rw [h0']; rfl
      have Hres : Hid (IsPoly wr (.slice A a.length c) R.1) := Lib.hid (by rw [← hR]; exact hPa)
      have Hres2 : Hid (IsPoly wr yv R.2) := Lib.hid (by rw [← hR]; exact hU)
      clear hR hK hA hB hPa hPb h0' hbk HF HR Hok hX hU
      rw [hl]
      generalize a.length = n at *
      clear hl
      go_wp2_with fail
      go_ret
      exact ⟨⟨_, rfl, Hres.out⟩, ⟨_, bu, Hres2.out⟩, Hall.out, hBW⟩
    · rw [if_neg h0'] at hR
      have hK := hK h0'
      have hl : 0 < b.length := List.length_pos_iff.2 h0'
      have hD := uni_divmod _ _ a b wr hPa hPb hb h0' hK.1
      have hlt := pmod_lt hb h0' a
      have HR2 := Lib.hid hR
      have HK2 := Lib.hid hK.2.2
      have HF2 : Hid (PC b ∧ PC (pmod a b) ∧ (pmod a b).length + 1 ≤ f) := Lib.hid ⟨hb, pmod_PC hb h0' a, by omega⟩
      have Hbf : Hid (f < f + 1) := Lib.hid (by omega)
      obtain ⟨j1, j2, j3, SQ, SX, SU, j4, j5, j6, j7, j8⟩ := hK.2.1
      have hstep := fun W v z1 z2 (h1' : IsPoly W v (pquo a b)) (h2' : IsPoly W z1 X) (h3' : IsPoly W z2 U) (h4' : Boxed W bN 23 z1) (h5' : Boxed W bU 23 z2) => bez_step v z1 z2 bN bU B0 (pquo a b) X U W h1' h2' h3' h4' h5' hne h0 h1 (by omega) j2 j3 j1 SQ SX SU j4 j5 j6 j7 j8
      clear hR hK hA hB h0' hbk hlt HF HR Hok ha j1 j2 j3 j4 j5 j6 j7 j8
      go_wp2_with fail
      refine hD.mono ?_
      rintro e w1 ⟨⟨vx, vy, rfl, hx, hy⟩, hb1⟩
      have hBW1 := hBW.trans (hb1.mono (Nat.le_trans (Nat.le_of_lt (Nat.lt_of_le_of_lt h0 bn.lt)) (Nat.le_refl _)))
      have hPb1 := hPb.below hb1
      have bn1 := Boxed.below bn hb1
      have bu1 := Boxed.below bu hb1
      have hX1 := hX.below hb1
      have hU1 := hU.below hb1
      clear hD
      go_wp2_with fail
      refine (hstep _ _ _ _ hx.poly hX1 hU1 bn1 bu1).mono ?_
      rintro e w2 ⟨⟨r, rfl⟩, ⟨z, bn2, hz⟩, bu2, hkeep, hb2⟩
      have hPb2 := hkeep _ _ hPb1
      have hPr2 := hkeep _ _ hy.poly
      have hX2 := hkeep _ _ hX1
      have hBW2 := hBW1.trans hb2
      have Hall2 : Hid (∀ s l, IsPoly w s l → IsPoly w2 s l) := Lib.hid (fun s l h => hkeep _ _ ((Hall.out s l h).below hb1))
      clear hkeep hstep
      go_wp2_with fail
      go_roundg f
      case measure => exact Hbf.out
      case rel => exact ⟨b, pmod a b, X, psub U (pmul (pquo a b) X), z, xv, hPb2, hPr2, bn2, bu2, hz, hX2, HF2, HR2, HK2, Hall2, hBW2⟩

end Go.Proofs.YtlklgeidffjidaaGreat

/- The walk of Bezout (package univariate). -/
namespace Go.Proofs.YtlklgeidffjidaaGreat
open Go.RowKit
set_option linter.unusedSimpArgs false

def bezL (p q : List Rat) : List Rat := (bezF (q.length + 1) p q [1] []).1
def bezU (p q : List Rat) : List Rat := (bezF (q.length + 1) p q [1] []).2
def bezU1 (p q : List Rat) : List Rat := pmul [(plead (bezL p q))⁻¹] (bezU p q)
def bezU2 (p q : List Rat) : List Rat := pmod (bezU1 p q) (pquo q (pgcd p q))
def bezD (p q : List Rat) : List Rat := psub (pgcd p q) (pmul (bezU2 p q) p)
/-- What Bezout answers. -/
def pbez (p q : List Rat) : List Rat × List Rat × List Rat :=
  if q = [] then if p = [] then ([], [], []) else (pmonic p, [(plead p)⁻¹], []) else (pgcd p q, bezU2 p q, pquo (bezD p q) q)
def MulOK (p q : List Rat) : Prop := p.length ≤ 100000 ∧ q.length ≤ 100000 ∧ ∃ S T, SzB p S ∧ SzB q T ∧ 1 + p.length * (S + T + 1) ≤ 68719476735
/-- What is asked of the sizes. -/
def BezAll (p q : List Rat) : Prop := BezOK (q.length + 1) p q [1] [] ∧ (∃ S, SzB (bezL p q) S ∧ 2 * S + 2 ≤ 68719476736) ∧ MulOK [(plead (bezL p q))⁻¹] (bezU p q) ∧ DivOK q (pgcd p q) ∧ DivOK (bezU1 p q) (pquo q (pgcd p q)) ∧
  MulOK (bezU2 p q) p ∧ Sz (pgcd p q) ∧ (pgcd p q).length ≤ 400000 ∧ DivOK (bezD p q) q ∧ (bezL p q).length ≤ 400000
theorem MulOK.sz {p q : List Rat} (h : MulOK p q) : SzB (pmul p q) 68719476735 := by
  obtain ⟨_, _, S, T, h1, h2, h3⟩ := h; exact (h1.mul h2).mono h3
theorem bezL_pgcd {p q : List Rat} (hq : PC q) : pmonic (bezL p q) = pgcd p q := by unfold bezL; rw [bezF_euc, pgcd_euc hq]
theorem bezL_PC {p q : List Rat} (hp : PC p) (hq : PC q) : PC (bezL p q) := by unfold bezL; rw [bezF_euc]; exact eucF_PC _ hp hq
theorem pquo_gcd_ne {p q : List Rat} (hp : PC p) (hq : PC q) (hq0 : q ≠ []) : pquo q (pgcd p q) ≠ [] := fun e => by
  have hg0 : pgcd p q ≠ [] := fun e => hq0 ((pgcd_nil hp hq).1 e).2
  have := pquo_exact (pgcd_PC hp hq) hg0 (pgcd_right hp hq)
  exact hq0 (ev_PC_nil hq (fun x => by rw [this x, e]; simp [ev, Rat.mul_zero]))

set_option maxHeartbeats 1000000 in
theorem uni_bezout_nil (A B : Option Addr) (n m c d : Nat) (w : World) (hn : n = 0) (hm : m = 0) :
    Calls Tryz.prog 26 #[.slice A n c, .slice B m d] w fun e w' => e = .returned (.tuple #[.slice none 0 0, .slice none 0 0, .slice none 0 0]) ∧ Below w.heap.size w w' := by
  subst hn; subst hm
  have hO := fun W => rat_int 1 W (by omega) (by omega)
  have e1 : ((1 : Int) : Rat) = 1 := rfl
  rw [e1] at hO
  generalize (1 : Rat) = one at *
  clear e1
  go_enter Tryz.func26, Tryz.ntmps26
  go_wp2_with fail
  refine (hO _).mono ?_
  rintro e w1 ⟨⟨_, rfl, s, A1, n1, c1, t, B1, m1, d1, rfl, hq⟩, hb1⟩
  go_wp2_with fail
  exact bodyPost_ret (v := .tuple #[.slice none 0 0, .slice none 0 0, .slice none 0 0]) (by simp [results, Tryz.results26, go_sem]) rfl ⟨rfl, hb1.trans ((below_alloc _ _).mono hb1.size)⟩
set_option maxHeartbeats 1000000 in
theorem uni_bezout_left (u : Value) (B : Option Addr) (p : List Rat) (m d : Nat) (w : World) (hu : IsPoly w u p) (hp : PC p) (hp0 : p ≠ []) (hl : p.length ≤ 400000) (S : Nat) (hs : SzB p S) (hS : 2 * S + 2 ≤ 68719476736) (hm : m = 0) :
    Calls Tryz.prog 26 #[u, .slice B m d] w fun e w' => (∃ x y, e = .returned (.tuple #[x, y, .slice none 0 0]) ∧ IsPoly w' x (pmonic p) ∧ IsPoly w' y [(plead p)⁻¹]) ∧ Below w.heap.size w w' := by
  subst hm
  have hM := fun W (hW : Below w.heap.size w W) => uni_monic u p W (hu.below hW) hp hl S hs hS
  have hR := fun W (hW : Below w.heap.size w W) => uni_reciprocal u p W (hu.below hW) hp0 (by omega) (hp.lead_ne hp0) (Nat.le_trans (plead_sz hs) (by omega))
  have hO := fun W => rat_int 1 W (by omega) (by omega)
  have e1 : ((1 : Int) : Rat) = 1 := rfl
  rw [e1] at hO
  generalize (1 : Rat) = one at *
  generalize pmonic p = G at *
  generalize [(plead p)⁻¹] = Y at *
  have hl0 : 0 < p.length := List.length_pos_iff.2 hp0
  obtain ⟨A, c, rfl, _⟩ := hu
  clear e1 hp hp0
  generalize p.length = n at *
  have en : ((n : Int) == 0) = false := by rw [beq_eq_false_iff_ne]; omega
  go_enter Tryz.func26, Tryz.ntmps26
  go_wp2_with fail
  refine (hO _).mono ?_
  rintro e w1 ⟨⟨_, rfl, s, A1, n1, c1, t, B1, m1, d1, rfl, hq⟩, hb1⟩
  go_wp2_with fail
  generalize hE : World.alloc _ _ = W2
  have hb2 : Below w.heap.size w W2 := by rw [← hE]; exact hb1.trans ((below_alloc _ _).mono hb1.size)
  clear hE
  refine (hM _ hb2).mono ?_
  rintro e w3 ⟨⟨v3, rfl, hv3⟩, hb3⟩
  have hb3' := hb2.trans (hb3.mono hb2.size)
  go_wp2_with fail
  refine (hR _ hb3').mono ?_
  rintro e w4 ⟨⟨v4, rfl, hv4⟩, hb4⟩
  have hb4' := hb3'.trans (hb4.mono hb3'.size)
  have hv3 := hv3.below hb4
  go_wp2_with fail
  exact bodyPost_ret (v := .tuple #[v3, v4, .slice none 0 0]) (by simp [results, Tryz.results26, go_sem]) rfl ⟨⟨_, _, rfl, hv3, hv4⟩, hb4'⟩

set_option maxRecDepth 100000 in
set_option maxHeartbeats 8000000 in
theorem uni_bezout_both (u v : Value) (p q : List Rat) (w : World) (hu : IsPoly w u p) (hv : IsPoly w v q) (hp : PC p) (hq : PC q) (hq0 : q ≠ []) (hok : BezAll p q) :
    Calls Tryz.prog 26 #[u, v] w fun e w' => (∃ x y z, e = .returned (.tuple #[x, y, z]) ∧ IsPoly w' x (pgcd p q) ∧ IsPoly w' y (bezU2 p q) ∧ IsPoly w' z (pquo (bezD p q) q)) ∧ Below w.heap.size w w' := by
  obtain ⟨o1, ⟨S, o2, o3⟩, o4, o5, o6, o7, o8, o9, o10, o11⟩ := hok
  have hlq0 : 0 < q.length := List.length_pos_iff.2 hq0
  have hL0 : bezL p q ≠ [] := fun e => by
    have := bezL_pgcd (p := p) hq
    rw [e] at this
    exact hq0 ((pgcd_nil hp hq).1 this.symm).2
  have hLP := bezL_PC hp hq
  have hG := pgcd_PC hp hq
  have hg0 : pgcd p q ≠ [] := fun e => hq0 ((pgcd_nil hp hq).1 e).2
  have hqn := pquo_gcd_ne hp hq hq0
  have hqP := pquo_PC hG hg0 q
  -- the calls
  have hE := fun W xv yv bN bU B0 (h1 : IsPoly W u p) (h2 : IsPoly W v q) (h3 : IsPoly W xv []) (h4 : IsPoly W yv [1]) h5 h6 h7 h8 h9 => uni_euclid_bez u v xv yv bN bU B0 p q [] [1] W h1 h2 hp hq h3 h4 h5 h6 h7 h8 h9 o1
  have hM := fun W x (hx : IsPoly W x (bezL p q)) => uni_monic x _ W hx hLP o11 S o2 o3
  rw [bezL_pgcd hq] at hM
  have hR := fun W x (hx : IsPoly W x (bezL p q)) => uni_reciprocal x _ W hx hL0 (by omega) (hLP.lead_ne hL0) (Nat.le_trans (plead_sz o2) (by omega))
  have hMu := fun W x y (hx : IsPoly W x [(plead (bezL p q))⁻¹]) (hy : IsPoly W y (bezU p q)) => (by
    obtain ⟨a1, a2, S1, T1, a3, a4, a5⟩ := o4
    exact uni_mul x y _ _ W hx hy (by omega) (by omega) S1 T1 a3 a4 (by omega) : Calls Tryz.prog 17 #[x, y] W fun e w' => (∃ v, e = .returned v ∧ IsPoly w' v (bezU1 p q)) ∧ Below W.heap.size W w')
  have hQ := fun W x (hx : IsPoly W x (pgcd p q)) (hv : IsPoly W v q) => uni_quo v x q _ W hv hx hG hg0 o5
  have hMd := fun W x y (hx : IsPoly W x (bezU1 p q)) (hy : IsPoly W y (pquo q (pgcd p q))) => uni_mod x y _ _ W hx hy hqP hqn o6
  have hMu2 := fun W x (hx : IsPoly W x (bezU2 p q)) (hu : IsPoly W u p) => (by
    obtain ⟨a1, a2, S1, T1, a3, a4, a5⟩ := o7
    exact uni_mul x u _ _ W hx hu (by omega) (by omega) S1 T1 a3 a4 (by omega) : Calls Tryz.prog 17 #[x, u] W fun e w' => (∃ v, e = .returned v ∧ IsPoly w' v (pmul (bezU2 p q) p)) ∧ Below W.heap.size W w')
  have hSb := fun W x y (hx : IsPoly W x (pgcd p q)) (hy : IsPoly W y (pmul (bezU2 p q) p)) => uni_sub x y _ _ W hx hy (by omega) (by have := pmul_length_le (bezU2 p q) p; have := o7.1; have := o7.2.1; omega) o8 o7.sz
  have hQ2 := fun W x (hx : IsPoly W x (bezD p q)) (hv : IsPoly W v q) => uni_quo x v _ q W hx hv hq hq0 o10
  have hO := fun W => rat_int 1 W (by omega) (by omega)
  have e1 : ((1 : Int) : Rat) = 1 := rfl
  rw [e1] at hO
  clear e1
  have eB : (bezF (q.length + 1) p q [1] []).1 = bezL p q := rfl
  have eU : (bezF (q.length + 1) p q [1] []).2 = bezU p q := rfl
  have eM : pmod (bezU1 p q) (pquo q (pgcd p q)) = bezU2 p q := rfl
  have eD : psub (pgcd p q) (pmul (bezU2 p q) p) = bezD p q := rfl
  rw [eB, eU] at hE
  rw [eM] at hMd
  rw [eD] at hSb
  clear o1 o2 o3 o4 o5 o6 o7 o8 o9 o10 o11 hL0 hLP hG hg0 hqn hqP eB eU eM eD
  generalize pquo (bezD p q) q = Vv at *
  generalize bezD p q = Dd at *
  generalize pmul (bezU2 p q) p = UP at *
  generalize bezU2 p q = U2 at *
  generalize pquo q (pgcd p q) = QG at *
  generalize pgcd p q = G at *
  generalize bezU1 p q = U1 at *
  generalize [(plead (bezL p q))⁻¹] = RL at *
  generalize bezL p q = LL at *
  generalize bezU p q = UU at *
  obtain ⟨one, H1⟩ : ∃ x : Rat, Hid (x = 1) := ⟨1, Lib.hid rfl⟩
  rw [← H1.out] at hO hE
  have Hu := Lib.hid hu
  have Hv := Lib.hid hv
  obtain ⟨A, c, rfl, _⟩ := hu
  obtain ⟨B, d, rfl, _⟩ := hv
  have en : ((q.length : Int) == 0) = false := by rw [beq_eq_false_iff_ne]; omega
  clear hp hq hq0
  generalize p.length = np at *
  generalize q.length = nq at *
  go_enter Tryz.func26, Tryz.ntmps26
  go_wp2_with fail
  refine (hO _).mono ?_
  rintro e w1 ⟨⟨_, rfl, s, A1, n1, c1, t, B1, m1, d1, rfl, hq⟩, hb1⟩
  go_wp2_with fail
  generalize hE2 : World.alloc _ _ = W2
  have hb2 : Below w1.heap.size w1 W2 := by rw [← hE2]; exact (((Below.refl _ _).alloc (Nat.le_refl _) _).alloc (by simp) _).alloc (by simp; omega) _
  have bu : Boxed W2 (w1.heap.size + 1) 23 (.slice (some ⟨w1.heap.size, 0, none⟩) 1 1) := by
    rw [← hE2]
    have := (Boxed.new (w1.alloc (.cells #[.bool s, .slice A1 n1 c1, .bool t, .slice B1 m1 d1] 31)) 23 (.slice (some ⟨w1.heap.size, 0, none⟩) 1 1)).alloc (.cells #[.slice none 0 0] 23)
    rw [World.size_alloc] at this; exact this
  have bn : Boxed W2 (w1.heap.size + 1 + 1) 23 (.slice none 0 0) := by
    rw [← hE2]
    have := Boxed.new ((w1.alloc (.cells #[.bool s, .slice A1 n1 c1, .bool t, .slice B1 m1 d1] 31)).alloc (.cells #[.slice (some ⟨w1.heap.size, 0, none⟩) 1 1] 23)) 23 (.slice none 0 0)
    rw [World.size_alloc, World.size_alloc] at this; exact this
  have hone : IsPoly W2 (.slice (some ⟨w1.heap.size, 0, none⟩) 1 1) [one] := ⟨_, _, rfl, polyAt_one (s := s) (A := A1) (n := n1) (c := c1) (t := t) (B := B1) (m := m1) (d := d1) (by rw [← hE2]; simp [go_sem]) (by rw [← hE2]; simp [go_sem]) (by rw [← hE2]; simp [go_sem]) (by rw [← hE2]; simp [go_sem]) (hq.below hb2), Nat.le_refl _⟩
  clear hE2
  have hBW := hb1.trans (hb2.mono hb1.size)
  have hg := hb1.size
  have hP := Hu.out.below hBW
  have hQq := Hv.out.below hBW
  clear hb1 hb2 hq Hu Hv
  generalize w1.heap.size = g at *
  refine (hE W2 (.slice none 0 0) _ (g + 1 + 1) (g + 1) w.heap.size hP hQq (IsPoly.nil _ _ _) hone bn bu (by omega) (by omega) (by omega)).mono ?_
  rintro e w3 ⟨⟨vl, rfl, hl⟩, ⟨z, bz, hz⟩, hkeep, hb3⟩
  have hP := hkeep _ _ hP
  have hQq := hkeep _ _ hQq
  have hBW := hBW.trans hb3
  clear hE hkeep hone bn bu hb3 hO
  go_wp2_with fail
  refine (hM _ _ hl).mono ?_
  rintro e w4 ⟨⟨vg, rfl, hvg⟩, hb4⟩
  have hP := hP.below hb4
  have hQq := hQq.below hb4
  have hl := hl.below hb4
  have bz := Boxed.below bz hb4
  have hz := hz.below hb4
  have hBW := hBW.trans (hb4.mono hBW.size)
  have hwl := Nat.le_refl w.heap.size
  have hgw : w.heap.size ≤ g + 1 := by omega
  clear hM hb4
  have sz := hz.soft
  obtain ⟨ZA, zc, rfl, _⟩ := id hz
  have k1 := bz.cell
  have f1 := bz.frozen
  have bl := bz.lt
  go_wp2_with fail
  go_region_held3 (fun w' => Below w.heap.size w w')
    (((try dsimp only); first | with_reducible assumption | with_reducible exact keepO1 hgw (by assumption) | with_reducible exact keepC0 hwl (by assumption) (by assumption) | exact hBW.trans (below_drew' _)))
    (first
    | (go_at_call 73
       refine (hR _ _ (hl.below (below_drew' _))).mono ?_
       rintro e wa ⟨⟨va, rfl, hva⟩, hba⟩
       have hbA : Below w4.heap.size w4 wa := (below_drew' _).trans hba
       have k1 := cell_below k1 hbA)
    | (go_at_call 17
       refine (hMu _ _ _ hva (hz.below hbA)).mono ?_
       rintro e wb ⟨⟨_, rfl, YA, yc, rfl, hy⟩, hbb⟩
       have hb3 : Below w4.heap.size w4 wb := hbA.trans (hbb.mono hbA.size)
       have k1 := cell_below k1 hbb
       have f1b : wb.frozen? ⟨g + 1, 0, none⟩ = false := ((kept_cells hb3).2 _ _ bl).trans f1))
  all_goals
    have bz3 := Boxed.below bz hb3
    have hyI : IsPoly wb (.slice YA U1.length yc) U1 := ⟨_, _, rfl, hy⟩
    have hP := (hP.below hb3).set1 (.slice YA U1.length yc) bz3 sz
    have hQq := (hQq.below hb3).set1 (.slice YA U1.length yc) bz3 sz
    have hvg := (hvg.below hb3).set1 (.slice YA U1.length yc) bz3 sz
    have hyI := hyI.set1 (.slice YA U1.length yc) bz3 sz
    have bz := Boxed.set (.slice YA U1.length yc) bz3
    have hBW := (hBW.trans (hb3.mono hBW.size)).setCell (p := ⟨g + 1, 0, none⟩) hgw (.slice YA U1.length yc)
    clear hR hMu hb3 hbb hbA hba bz3 k1 f1 hl hz hy hva
    go_wp2_with fail
    generalize World.setCell _ _ _ = w5 at *
    have sy := hyI.soft
    have k1 := bz.cell
    have f1 := bz.frozen
    have bl := bz.lt
    clear f1b
    go_region_held3 (fun w' => Below w.heap.size w w')
      (((try dsimp only); first | with_reducible assumption | with_reducible exact keepO1 hgw (by assumption) | with_reducible exact keepC0 hwl (by assumption) (by assumption) | exact hBW.trans (below_drew' _)))
      (first
      | (go_at_call 76
         refine (hQ _ _ (hvg.below (below_drew' _)) (hQq.below (below_drew' _))).mono ?_
         rintro e wa ⟨⟨va, rfl, hva⟩, hba⟩
         have hbA : Below w5.heap.size w5 wa := (below_drew' _).trans hba
         have k1 := cell_below k1 hbA)
      | (go_at_call 75
         refine (hMd _ _ _ (hyI.below hbA) hva.poly).mono ?_
         rintro e wb2 ⟨⟨_, rfl, XA, xc, rfl, hx⟩, hbb⟩
         have hb3 : Below w5.heap.size w5 wb2 := hbA.trans (hbb.mono hbA.size)
         have k1 := cell_below k1 hbb
         have f1b : wb2.frozen? ⟨g + 1, 0, none⟩ = false := ((kept_cells hb3).2 _ _ bl).trans f1))
  all_goals
    have bz3 := Boxed.below bz hb3
    have hxI : IsPoly wb2 (.slice XA U2.length xc) U2 := ⟨_, _, rfl, hx.1, hx.2.1⟩
    have hP := (hP.below hb3).set1 (.slice XA U2.length xc) bz3 sy
    have hQq := (hQq.below hb3).set1 (.slice XA U2.length xc) bz3 sy
    have hvg := (hvg.below hb3).set1 (.slice XA U2.length xc) bz3 sy
    have hxI := hxI.set1 (.slice XA U2.length xc) bz3 sy
    have bz := Boxed.set (.slice XA U2.length xc) bz3
    have hBW := (hBW.trans (hb3.mono hBW.size)).setCell (p := ⟨g + 1, 0, none⟩) hgw (.slice XA U2.length xc)
    clear hQ hMd hb3 hbb hbA hba bz3 k1 f1 hyI hx hva
    go_wp2_with fail
    generalize World.setCell _ _ _ = w6 at *
    have k1 := bz.cell
    clear f1b
    go_region_held3 (fun w' => Below w.heap.size w w' ∧ w'.cell? ⟨g + 1, 0, none⟩ = some (.slice XA U2.length xc))
      (((try dsimp only); first | with_reducible assumption | with_reducible exact keepC1 hwl (by assumption) (by assumption) | exact ⟨hBW.trans (below_drew' _), k1⟩))
      (first
      | (go_at_call 17
         refine (hMu2 _ _ (hxI.below (below_drew' _)) (hP.below (below_drew' _))).mono ?_
         rintro e wa ⟨⟨va, rfl, hva⟩, hba⟩
         have hbA : Below w6.heap.size w6 wa := (below_drew' _).trans hba)
      | (go_at_call 18
         refine (hSb _ _ _ (hvg.below hbA) hva).mono ?_
         rintro e wb ⟨⟨vb, rfl, hvb⟩, hbb⟩
         have hbB : Below w6.heap.size w6 wb := hbA.trans (hbb.mono hbA.size))
      | (go_at_call 76
         refine (hQ2 _ _ hvb (hQq.below hbB)).mono ?_
         rintro e wc ⟨⟨vc, rfl, hvc⟩, hbc⟩
         have hb3 : Below w6.heap.size w6 wc := hbB.trans (hbc.mono hbB.size)))
  all_goals
    have hres1 := hvg.below hb3
    have hres2 := hxI.below hb3
    have hBW := hBW.trans (hb3.mono hBW.size)
    go_wp2_with fail
    exact bodyPost_ret (v := .tuple #[vg, .slice XA U2.length xc, vc]) (by simp [results, Tryz.results26, go_sem]) rfl ⟨⟨_, _, _, rfl, hres1, hres2, hvc.poly⟩, hBW⟩

theorem uni_bezout (u v : Value) (p q : List Rat) (w : World) (hu : IsPoly w u p) (hv : IsPoly w v q) (hp : PC p) (hq : PC q) (hl : p.length ≤ 400000) (hs : ∃ S, SzB p S ∧ 2 * S + 2 ≤ 68719476736) (hok : q ≠ [] → BezAll p q) :
    Calls Tryz.prog 26 #[u, v] w fun e w' => (∃ x y z, e = .returned (.tuple #[x, y, z]) ∧ IsPoly w' x (pbez p q).1 ∧ IsPoly w' y (pbez p q).2.1 ∧ IsPoly w' z (pbez p q).2.2) ∧ Below w.heap.size w w' := by
  unfold pbez
  by_cases hq0 : q = []
  · rw [if_pos hq0]
    obtain ⟨B, d, rfl, _⟩ := hv
    by_cases hp0 : p = []
    · rw [if_pos hp0]
      obtain ⟨A, c, rfl, _⟩ := hu
      refine (uni_bezout_nil A B _ _ c d w (by rw [hp0]; rfl) (by rw [hq0]; rfl)).mono ?_
      rintro e w1 ⟨rfl, hb⟩
      exact ⟨⟨_, _, _, rfl, IsPoly.nil _ _ _, IsPoly.nil _ _ _, IsPoly.nil _ _ _⟩, hb⟩
    · rw [if_neg hp0]
      obtain ⟨S, h1, h2⟩ := hs
      refine (uni_bezout_left u B p _ d w hu hp hp0 hl S h1 h2 (by rw [hq0]; rfl)).mono ?_
      rintro e w1 ⟨⟨x, y, rfl, hx, hy⟩, hb⟩
      exact ⟨⟨_, _, _, rfl, hx, hy, IsPoly.nil _ _ _⟩, hb⟩
  · rw [if_neg hq0]
    exact uni_bezout_both u v p q w hu hv hp hq hq0 (hok hq0)

end Go.Proofs.YtlklgeidffjidaaGreat

/- The walk of SquareFree (package univariate). -/
namespace Go.Proofs.YtlklgeidffjidaaGreat
open Go.RowKit
set_option linter.unusedSimpArgs false

def yunE (b c : List Rat) : List Rat := psub c (pder b)
def yunP (b c : List Rat) : List Rat := pgcd b (yunE b c)
/-- Yun's loop. -/
def yunF : Nat → List Rat → List Rat → Nat → List (List Rat × Nat)
  | 0, _, _, _ => []
  | k + 1, b, c, n => if b.length ≤ 1 then [] else (if (yunP b c).length ≤ 1 then [] else [(yunP b c, n)]) ++ yunF k (pquo b (yunP b c)) (pquo (yunE b c) (yunP b c)) (n + 1)
/-- What is asked of the sizes; and that the loop ends. -/
def YunOK : Nat → List Rat → List Rat → Prop
  | 0, b, _ => b.length ≤ 1
  | k + 1, b, c => b.length ≤ 1 ∨ (b.length ≤ 400000 ∧ c.length ≤ 400000 ∧ Sz b ∧ Sz c ∧ SzB (pder b) 68719476735 ∧ GcdOK b (yunE b c) ∧ DivOK b (yunP b c) ∧ DivOK (yunE b c) (yunP b c) ∧ YunOK k (pquo b (yunP b c)) (pquo (yunE b c) (yunP b c)))
def sqfG (p : List Rat) : List Rat := pgcd p (pder p)
def sqfB (p : List Rat) : List Rat := pquo (pmonic p) (sqfG p)
def sqfC (p : List Rat) : List Rat := pquo (pmul [(plead p)⁻¹] (pder p)) (sqfG p)
def psqf (K : Nat) (p : List Rat) : List (List Rat × Nat) := if p.length < 2 then [] else yunF K (sqfB p) (sqfC p) 1
def SqfOK (K : Nat) (p : List Rat) : Prop := K ≤ 400000 ∧ p.length ≤ 100000 ∧ (∃ S, SzB p S ∧ 2 * S + 2 ≤ 68719476736) ∧ GcdOK p (pder p) ∧ DivOK (pmonic p) (sqfG p) ∧ MulOK [(plead p)⁻¹] (pder p) ∧ DivOK (pmul [(plead p)⁻¹] (pder p)) (sqfG p) ∧ YunOK K (sqfB p) (sqfC p)

set_option maxHeartbeats 1000000 in
theorem uni_sqf_short (A : Option Addr) (n c : Nat) (w : World) (h : n < 2) :
    Calls Tryz.prog 30 #[.slice A n c] w fun e w' => e = .returned (.slice none 0 0) ∧ Below w.heap.size w w' := by
  have hb0 := Below.refl w.heap.size w
  go_enter Tryz.func30, Tryz.ntmps30
  go_wp2_with fail
  go_ret
  exact ⟨rfl, hb0⟩

set_option maxRecDepth 100000 in
set_option maxHeartbeats 1500000 in
theorem uni_sqf_long (u : Value) (p : List Rat) (K : Nat) (w : World) (hu : IsPoly w u p) (hp : PC p) (h2 : 2 ≤ p.length) (hok : SqfOK K p) :
    Calls Tryz.prog 30 #[u] w fun e w' => (∃ v, e = .returned v ∧ IsParts w.heap.size w' v (yunF K (sqfB p) (sqfC p) 1)) ∧ Below w.heap.size w w' := by
  obtain ⟨o1, o2, ⟨S, o3, o4⟩, o5, o6, o7, o8, o9⟩ := hok
  have hp0 : p ≠ [] := fun e => by rw [e] at h2; simp at h2
  have hdP := pder_PC hp
  have hGP := pgcd_PC hp hdP
  have hG0 : sqfG p ≠ [] := fun e => hp0 ((pgcd_nil hp hdP).1 e).1
  have hdl := pder_length p
  have hder := fun W (h : IsPoly W u p) => uni_derive u p W h (by omega) (o3.mono (by omega))
  have hgcd := fun W x (h : IsPoly W u p) (hx : IsPoly W x (pder p)) => uni_gcd u x p _ W h hx hp hdP (by omega) (by omega) o5
  have hmon := fun W (h : IsPoly W u p) => uni_monic u p W h hp (by omega) S o3 o4
  have hq1 := fun W x y (hx : IsPoly W x (pmonic p)) (hy : IsPoly W y (sqfG p)) => uni_quo x y _ _ W hx hy hGP hG0 o6
  have hrec := fun W (h : IsPoly W u p) => uni_reciprocal u p W h hp0 (by omega) (hp.lead_ne hp0) (Nat.le_trans (plead_sz o3) (by omega))
  have hmul := fun W x y (hx : IsPoly W x [(plead p)⁻¹]) (hy : IsPoly W y (pder p)) => (by
    obtain ⟨a1, a2, S1, T1, a3, a4, a5⟩ := o7
    exact uni_mul x y _ _ W hx hy (by omega) (by omega) S1 T1 a3 a4 (by omega) : Calls Tryz.prog 17 #[x, y] W fun e w' => (∃ v, e = .returned v ∧ IsPoly w' v (pmul [(plead p)⁻¹] (pder p))) ∧ Below W.heap.size W w')
  have hq2 := fun W x y (hx : IsPoly W x (pmul [(plead p)⁻¹] (pder p))) (hy : IsPoly W y (sqfG p)) => uni_quo x y _ _ W hx hy hGP hG0 o8
  have eG : pgcd p (pder p) = sqfG p := rfl
  have eB : pquo (pmonic p) (sqfG p) = sqfB p := rfl
  have eC : pquo (pmul [(plead p)⁻¹] (pder p)) (sqfG p) = sqfC p := rfl
  rw [eG] at hgcd
  rw [eB] at hq1
  rw [eC] at hq2
  have HPC : Hid (PC (sqfB p) ∧ PC (sqfC p)) := Lib.hid ⟨pquo_PC hGP hG0 _, pquo_PC hGP hG0 _⟩
  have Hok := Lib.hid o9
  obtain ⟨R, HR⟩ : ∃ R, Hid (yunF K (sqfB p) (sqfC p) 1 = R) := ⟨_, Lib.hid rfl⟩
  rw [HR.out]
  have hl2 : p.length ≤ 100000 := o2
  clear o2 o3 o4 o5 o6 o7 o8 o9 hp0 hdP hGP hG0 hdl eG eB eC hp
  generalize sqfB p = B0 at *
  generalize sqfC p = C0 at *
  generalize sqfG p = G at *
  generalize pmul [(plead p)⁻¹] (pder p) = M at *
  generalize [(plead p)⁻¹] = RL at *
  generalize pmonic p = PM at *
  generalize pder p = D at *
  have Hu := Lib.hid hu
  obtain ⟨A, c, rfl, _⟩ := hu
  generalize p.length = n at *
  have hb0 := Below.refl w.heap.size w
  go_enter Tryz.func30, Tryz.ntmps30
  go_wp2_with fail
  refine (hder _ Hu.out).mono ?_
  rintro e w1 ⟨⟨v1, rfl, h1⟩, hb1⟩
  have hu1 := Hu.out.below hb1
  go_wp2_with fail
  refine (hgcd _ _ hu1 h1).mono ?_
  rintro e w2 ⟨⟨v2, rfl, hg⟩, hb2⟩
  have hg := hg.poly
  have hB := hb1.trans (hb2.mono hb1.size)
  have h1 := h1.below hb2
  have hu1 := hu1.below hb2
  go_wp2_with fail
  refine (hmon _ hu1).mono ?_
  rintro e w3 ⟨⟨v3, rfl, hm⟩, hb3⟩
  have hB := hB.trans (hb3.mono hB.size)
  have h1 := h1.below hb3
  have hu1 := hu1.below hb3
  have hg := hg.below hb3
  go_wp2_with fail
  refine (hq1 _ _ _ hm hg).mono ?_
  rintro e w4 ⟨⟨v4, rfl, hbb⟩, hb4⟩
  have hB := hB.trans (hb4.mono hB.size)
  have h1 := h1.below hb4
  have hu1 := hu1.below hb4
  have hg := hg.below hb4
  have hbb := hbb.poly
  go_wp2_with fail
  refine (hrec _ hu1).mono ?_
  rintro e w5 ⟨⟨v5, rfl, hr⟩, hb5⟩
  have hB := hB.trans (hb5.mono hB.size)
  have h1 := h1.below hb5
  have hg := hg.below hb5
  have hbb := hbb.below hb5
  go_wp2_with fail
  refine (hmul _ _ _ hr h1).mono ?_
  rintro e w6 ⟨⟨v6, rfl, hmm⟩, hb6⟩
  have hB := hB.trans (hb6.mono hB.size)
  have hg := hg.below hb6
  have hbb := hbb.below hb6
  go_wp2_with fail
  refine (hq2 _ _ _ hmm hg).mono ?_
  rintro e w7 ⟨⟨v7, rfl, hcc⟩, hb7⟩
  have hB := hB.trans (hb7.mono hB.size)
  have hbb := hbb.below hb7
  have hcc := hcc.poly
  clear hder hgcd hmon hq1 hrec hmul hq2 hb1 hb2 hb3 hb4 hb5 hb6 hb7 h1 hu1 hg hm hr hmm Hu
  go_wp2_with fail
  go_loopg [3, 6, 7, 8] K (fun k s3 s6 s7 s8 wr => ∃ (b c : List Rat) (m : Nat) (l : List (List Rat × Nat)), IsParts w.heap.size wr s3 l ∧ IsPoly wr s6 b ∧ IsPoly wr s7 c ∧ s8 = .int .i64 (m : Int) ∧ Hid (m + k ≤ 400001 ∧ l.length + k ≤ 400000 ∧ PC b ∧ PC c) ∧ Hid (l ++ yunF k b c m = R) ∧ Hid (YunOK k b c) ∧ Below w.heap.size w wr)
  case atStart => exact ⟨B0, C0, 1, [], IsParts.nil _ _, hbb, hcc, rfl, Lib.hid ⟨by omega, by simp; omega, HPC.out.1, HPC.out.2⟩, HR, Hok, hB⟩
  case round =>
    clear hbb hcc HPC HR Hok hB
    obtain ⟨b, c, m, l, hL, hPb, hPc, rfl, HF, HR, Hok, hBW⟩ := hrel
    obtain ⟨hmk, hlk, hb, hc⟩ := HF.out
    obtain ⟨A6, c6, rfl, hA6⟩ := id hPb
    by_cases hb1 : b.length ≤ 1
    · have hbi : ¬ ((1 : Int) < (b.length : Int)) := by omega
      have Hres : Hid (l = R) := Lib.hid (by
        have := HR.out
        cases gk with
        | zero => simpa [yunF] using this
        | succ f => simp only [yunF, if_pos hb1, List.append_nil] at this; exact this)
      have Hres2 : Hid (IsParts w.heap.size wr u3 R) := Lib.hid (by rw [← Hres.out]; exact hL)
      clear hL hPb hPc hA6 HR Hok
      go_wp2_with fail
      go_ret
      exact ⟨⟨_, rfl, Hres2.out⟩, hBW⟩
    · obtain ⟨f, rfl⟩ : ∃ f, gk = f + 1 := by
        cases gk with
        | zero => exact absurd Hok.out hb1
        | succ f => exact ⟨f, rfl⟩
      have hK := Hok.out.resolve_left hb1
      obtain ⟨k1, k2, k3, k4, k5, k6, k7, k8, k9⟩ := hK
      have hR := HR.out
      simp only [yunF, if_neg hb1] at hR
      have hb0 : b ≠ [] := fun e => by rw [e] at hb1; simp at hb1
      have hE := psub_PC c (pder b)
      have hGP : PC (yunP b c) := pgcd_PC hb hE
      have hG0 : yunP b c ≠ [] := fun e => hb0 ((pgcd_nil hb hE).1 e).1
      have hdl := pder_length b
      have hel : (yunE b c).length ≤ 400000 := by have := psub_length_le c (pder b); unfold yunE; omega
      have hpl : (yunP b c).length ≤ 400000 := by
        have h1 := ((pgcd_left hb hE).length_le (pgcd_PC hb hE) hb hb0).1
        exact Nat.le_trans h1 k1
      have hder := fun W x (h : IsPoly W x b) => uni_derive x b W h k1 k3
      have hsub := fun W x y (hx : IsPoly W x c) (hy : IsPoly W y (pder b)) => uni_sub x y c (pder b) W hx hy (by omega) (by omega) k4 k5
      have hgcd := fun W x y (hx : IsPoly W x b) (hy : IsPoly W y (yunE b c)) => uni_gcd x y b (yunE b c) W hx hy hb hE k1 hel k6
      have hq1 := fun W x y (hx : IsPoly W x b) (hy : IsPoly W y (yunP b c)) => uni_quo x y b (yunP b c) W hx hy hGP hG0 k7
      have hq2 := fun W x y (hx : IsPoly W x (yunE b c)) (hy : IsPoly W y (yunP b c)) => uni_quo x y (yunE b c) (yunP b c) W hx hy hGP hG0 k8
      have eE : psub c (pder b) = yunE b c := rfl
      have eP : pgcd b (yunE b c) = yunP b c := rfl
      rw [eE] at hsub
      rw [eP] at hgcd
      have HK2 := Lib.hid k9
      have Hbf : Hid (f < f + 1) := Lib.hid (by omega)
      have Hpc : Hid (PC (pquo b (yunP b c)) ∧ PC (pquo (yunE b c) (yunP b c))) := Lib.hid ⟨pquo_PC hGP hG0 _, pquo_PC hGP hG0 _⟩
      have HRf := Lib.hid hR
      have hlb2 : 2 ≤ b.length := by omega
      have hbi := hlb2
      have hmb : m ≤ 400001 := by omega
      have hlb : l.length + 1 ≤ 1000000 := by omega
      have Hml := Lib.hid (And.intro hmk hlk)
      clear hR k1 k2 k3 k4 k5 k6 k7 k8 k9 hb0 hE hGP hG0 hdl hel eE eP HF HR Hok hb hc hmk hlk hb1
      generalize pquo b (yunP b c) = B2 at *
      generalize pquo (yunE b c) (yunP b c) = C2 at *
      generalize yunP b c = P at *
      generalize yunE b c = E at *
      generalize pder b = D at *
      clear hbi
      obtain ⟨lb, Hlb⟩ : ∃ x, b.length = x := ⟨_, rfl⟩
      rw [Hlb] at hPb hA6 hlb2 ⊢
      have hbi : ((1 : Int) < (lb : Int)) := by omega
      have hbi2 : ¬ ((lb : Int) ≤ 1) := by omega
      clear Hlb hlb2
      go_wp2_with fail
      refine (hder _ _ hPb).mono ?_
      rintro e w1 ⟨⟨v1, rfl, h1⟩, hb1⟩
      have hBW := hBW.trans (hb1.mono hBW.size)
      have hL := hL.below hb1
      have hPb := hPb.below hb1
      have hPc := hPc.below hb1
      go_wp2_with fail
      refine (hsub _ _ _ hPc h1).mono ?_
      rintro e w2 ⟨⟨v2, rfl, hPe⟩, hb2⟩
      have hBW := hBW.trans (hb2.mono hBW.size)
      have hL := hL.below hb2
      have hPb := hPb.below hb2
      go_wp2_with fail
      refine (hgcd _ _ _ hPb hPe).mono ?_
      rintro e w3 ⟨⟨v3, rfl, hPp⟩, hb3⟩
      have hBW := hBW.trans (hb3.mono hBW.size)
      have hL := hL.below hb3
      have hPb := hPb.below hb3
      have hPe := hPe.below hb3
      have hPp := hPp.poly
      clear hder hsub hgcd hb1 hb2 hb3 h1 hPc
      obtain ⟨PA, pc, rfl, hPA, hpc⟩ := id hPp
      by_cases hp1 : P.length ≤ 1
      · have hpi : ¬ ((1 : Int) < (P.length : Int)) := by omega
        have HR2 : Hid (l ++ yunF f B2 C2 (m + 1) = R) := Lib.hid (by have := HRf.out; rw [if_pos hp1, List.nil_append] at this; exact this)
        have HF2 : Hid (m + 1 + f ≤ 400001 ∧ l.length + f ≤ 400000 ∧ PC B2 ∧ PC C2) := Lib.hid ⟨by have := Hml.out; omega, by have := Hml.out; omega, Hpc.out.1, Hpc.out.2⟩
        clear hPA hp1 HRf Hml Hpc
        go_wp2_with fail
        refine (hq1 _ _ _ hPb hPp).mono ?_
        rintro e w5 ⟨⟨v5, rfl, hn1⟩, hb5⟩
        have hBW := hBW.trans (hb5.mono hBW.size)
        have hL := hL.below hb5
        have hPe := hPe.below hb5
        have hPp := hPp.below hb5
        have hn1 := hn1.poly
        go_wp2_with fail
        refine (hq2 _ _ _ hPe hPp).mono ?_
        rintro e w6 ⟨⟨v6, rfl, hn2⟩, hb6⟩
        have hBW := hBW.trans (hb6.mono hBW.size)
        have hL := hL.below hb6
        have hn1 := hn1.below hb6
        have hn2 := hn2.poly
        go_wp2_with fail
        go_roundg f
        case measure => exact Hbf.out
        case rel => exact ⟨_, _, m + 1, _, hL, hn1, hn2, by simp, HF2, HR2, HK2, hBW⟩
      · have hpi : ((1 : Int) < (P.length : Int)) := by omega
        have HR2 : Hid ((l ++ [(P, m)]) ++ yunF f B2 C2 (m + 1) = R) := Lib.hid (by have := HRf.out; rw [if_neg hp1] at this; rw [List.append_assoc]; exact this)
        have HF2 : Hid (m + 1 + f ≤ 400001 ∧ (l ++ [(P, m)]).length + f ≤ 400000 ∧ PC B2 ∧ PC C2) := Lib.hid ⟨by have := Hml.out; omega, by have := Hml.out; rw [List.length_append, List.length_singleton]; omega, Hpc.out.1, Hpc.out.2⟩
        have hba := fun X => below_alloc w3 X
        obtain ⟨v', w', hr, hL', hkeep, _, hbw⟩ := IsParts.append (hL.below (hba (.cells #[.slice PA P.length pc, .int .i64 (m : Int)] 51))) (by have := hBW.size; simp; omega) (b := w3.heap.size) (off := 0) (A := PA) (c := pc) (p := P) (n := m) (hPA.below (hba _)) hpc (by simp [go_sem]) (by simp [go_sem]) 48 Tryz.underlying48 hlb
        have hPb := hkeep _ _ (hPb.below (hba _))
        have hPe := hkeep _ _ (hPe.below (hba _))
        have hPp := hkeep _ _ (hPp.below (hba _))
        have hBW := (hBW.trans ((hba (.cells #[.slice PA P.length pc, .int .i64 (m : Int)] 51)).mono hBW.size)).trans hbw
        clear hPA hp1 HRf Hml Hpc hkeep hbw hba hL
        have hL := hL'
        clear hL'
        go_wp2_with (at_builtin; refine wpList_append_run rfl _ _ 48 rfl _ _ rfl rfl (hr _) ?_)
        go_wp2_with fail
        refine (hq1 _ _ _ hPb hPp).mono ?_
        rintro e w5 ⟨⟨v5, rfl, hn1⟩, hb5⟩
        have hBW := hBW.trans (hb5.mono hBW.size)
        have hL := hL.below hb5
        have hPe := hPe.below hb5
        have hPp := hPp.below hb5
        have hn1 := hn1.poly
        go_wp2_with fail
        refine (hq2 _ _ _ hPe hPp).mono ?_
        rintro e w6 ⟨⟨v6, rfl, hn2⟩, hb6⟩
        have hBW := hBW.trans (hb6.mono hBW.size)
        have hL := hL.below hb6
        have hn1 := hn1.below hb6
        have hn2 := hn2.poly
        go_wp2_with fail
        go_roundg f
        case measure => exact Hbf.out
        case rel => exact ⟨_, _, m + 1, _, hL, hn1, hn2, by simp, HF2, HR2, HK2, hBW⟩

theorem uni_sqf (u : Value) (p : List Rat) (K : Nat) (w : World) (hu : IsPoly w u p) (hp : PC p) (hok : 2 ≤ p.length → SqfOK K p) :
    Calls Tryz.prog 30 #[u] w fun e w' => (∃ v, e = .returned v ∧ IsParts w.heap.size w' v (psqf K p)) ∧ Below w.heap.size w w' := by
  unfold psqf
  by_cases h : p.length < 2
  · rw [if_pos h]
    obtain ⟨A, c, rfl, _⟩ := hu
    refine (uni_sqf_short A _ c w h).mono ?_
    rintro e w1 ⟨rfl, hb⟩
    exact ⟨⟨_, rfl, IsParts.nil _ _⟩, hb⟩
  · rw [if_neg h]
    exact uni_sqf_long u p K w hu hp (by omega) (hok (by omega))

end Go.Proofs.YtlklgeidffjidaaGreat

/- Walks of the reference: trim, words, made, Valid, Sign, Of (eliminantref01). -/
namespace Go.Proofs.YtlklgeidffjidaaGreat
open Go.RowKit
set_option linter.unusedSimpArgs false

set_option maxHeartbeats 1000000 in
theorem ref_trim (A : Option Addr) (c n : Nat) (xs : List Nat) (w : World) (hx : Ws w A xs) (hn : n = xs.length) (hc : xs.length ≤ c) :
    Calls Tryz.prog 132 #[.slice A n c] w fun e w' => e = .returned (.slice A (words (val xs)).length c) ∧ w = w' := by
  subst hn
  have hl := hx.len
  go_enter Tryz.func132, Tryz.ntmps132
  go_wp2
  go_loop [3] (fun n => ∃ k : Nat, k ≤ xs.length ∧ n = .int .i64 k ∧ (∀ j, k ≤ j → j < xs.length → nth xs j = 0)) (fun n => (intOf n).toNat)
  case atStart => exact ⟨xs.length, Nat.le_refl _, rfl, fun j h1 h2 => by omega⟩
  case round =>
    obtain ⟨k, hk, rfl, hz⟩ := hrel
    cases k with
    | zero =>
      have Hf := Lib.hid (norm_zero hx.1 (fun k h2 => hz k (Nat.zero_le _) h2))
      go_wp2
      go_ret
      rw [Hf.out]
      exact ⟨rfl, rfl⟩
    | succ m =>
      obtain ⟨b, off, rfl, hb, hcell⟩ := hx.2.2 (by omega)
      have hcm := hcell m (by omega)
      have hkc : m + 1 ≤ c := by omega
      by_cases h0 : nth xs m = 0
      · have h0' : (((nth xs m : Nat) : Int) == 0) = true := by rw [h0]; rfl
        go_wp2
        go_round
        case rel => exact ⟨m, by omega, rfl, fun j h1 h2 => by
          by_cases h : j = m
          · rw [h]; exact h0
          · exact hz j (by omega) h2⟩
        case measure => simp [intOf]
      · have h0' : (((nth xs m : Nat) : Int) == 0) = false := by rw [beq_eq_false_iff_ne]; omega
        have Hf := Lib.hid (norm_succ hx.1 hk hz h0)
        go_wp2
        go_ret
        rw [Hf.out]
        exact ⟨rfl, rfl⟩

set_option maxHeartbeats 1000000 in
theorem ref_words (n : Nat) (w : World) (hn : n < 18446744073709551616) :
    Calls Tryz.prog 109 #[.int .u64 (n : Int)] w fun e w' => (∃ v, e = .returned v ∧ IsNat w' v n) ∧ Below w.heap.size w w' := by
  have hv : val [lo n, hi n] = n := by simp [val]; unfold lo hi; have := Nat.mod_add_div n base; omega
  have hlo : lo n < base := Nat.mod_lt _ base_pos
  have hhi : hi n < base := by unfold hi; rw [Nat.div_lt_iff_lt_mul base_pos]; unfold base; omega
  have HV := Lib.hid hv
  clear hv
  go_enter Tryz.func109, Tryz.ntmps109
  go_wp2_with fail
  have hw := ws_two w 107 (lo n) (hi n) ((n : Int) % 4294967296) ((n : Int) / 4294967296) (by unfold lo base; omega) (by unfold hi base; omega) hlo hhi
  have hN := ref_trim (some ⟨w.heap.size, 0, none⟩) 2 2 [lo n, hi n] _ hw rfl (by simp)
  rw [HV.out] at hN
  refine hN.mono ?_
  rintro e w' ⟨rfl, rfl⟩
  go_wp2
  go_ret
  refine ⟨⟨_, rfl, _, _, rfl, by have := hw.norm; rwa [HV.out] at this, ?_⟩, (Below.refl _ _).alloc (Nat.le_refl _) _⟩
  have := words_val_length_le (xs := [lo n, hi n]) hw.1
  rw [HV.out] at this
  simpa using this

theorem made_parts {w : World} {A : Option Addr} {xs : List Nat} {c : Nat} (s : Bool) (hx : Ws w A xs) (hc : xs.length ≤ c) : IntP w (s && decide (0 < (words (val xs)).length)) A (words (val xs)).length c (sgn s (val xs)) := by
  have e1 : (sgn s (val xs)).natAbs = val xs := by unfold sgn; split <;> simp
  refine ⟨?_, by rw [e1], by rw [e1]; exact hx.norm, Nat.le_trans (words_val_length_le hx.1) hc⟩
  have h0 : (words (val xs)).length = 0 ↔ val xs = 0 := by rw [List.length_eq_zero_iff]; exact words_eq_nil
  unfold sgn
  cases s
  · simp
  · simp only [Bool.true_and, if_true]
    by_cases h : val xs = 0
    · rw [h0.2 h, h]; rfl
    · have : 0 < (words (val xs)).length := by have := mt h0.1 h; omega
      rw [decide_eq_true this]
      symm; rw [decide_eq_true_eq]; omega

set_option maxHeartbeats 1000000 in
theorem ref_made (s : Bool) (A : Option Addr) (c n : Nat) (xs : List Nat) (w : World) (hx : Ws w A xs) (hn : n = xs.length) (hc : xs.length ≤ c) :
    Calls Tryz.prog 108 #[.bool s, .slice A n c] w fun e w' => (∃ v, e = .returned v ∧ IsInt w' v (sgn s (val xs))) ∧ Below w.heap.size w w' := by
  have hT := fun W (hW : Below w.heap.size w W) => ref_trim A c n xs W (hx.below hW) hn hc
  have HP := fun W (hW : Below w.heap.size w W) => made_parts s (hx.below hW) hc
  have hll := Nat.le_trans (words_val_length_le hx.1) hx.len
  generalize sgn s (val xs) = z at *
  generalize (words (val xs)).length = m at *
  clear hn hc hx
  cases s with
  | false =>
    go_enter Tryz.func108, Tryz.ntmps108
    go_wp2_with fail
    generalize hE : World.alloc _ _ = W
    have hBW : Below w.heap.size w W := by rw [← hE]; exact (Below.refl _ _).alloc (Nat.le_refl _) _
    have hR : RC W w.heap.size := by rw [← hE]; exact ⟨by simp [go_sem], by simp [go_sem], by simp [go_sem], by simp⟩
    clear hE
    refine (hT _ hBW).mono ?_
    rintro e w1 ⟨rfl, rfl⟩
    have hI := HP _ hBW
    simp only [Bool.false_and] at hI
    have hJ := int_put hBW (Nat.le_refl _) hR.1 hR.2.1 hI
    obtain ⟨r1, r2, r3, r4⟩ := hR
    go_wp2
    exact bodyPost_ret (v := .agg #[.bool false, .slice A m c]) (by simp [results, Tryz.results108, go_sem, r1, r2]) rfl ⟨⟨_, rfl, _, _, _, _, rfl, hJ.1⟩, hJ.2⟩
  | true =>
    go_enter Tryz.func108, Tryz.ntmps108
    go_wp2_with fail
    generalize hE : World.alloc _ _ = W
    have hBW : Below w.heap.size w W := by rw [← hE]; exact (Below.refl _ _).alloc (Nat.le_refl _) _
    have hR : RC W w.heap.size := by rw [← hE]; exact ⟨by simp [go_sem], by simp [go_sem], by simp [go_sem], by simp⟩
    clear hE
    refine (hT _ hBW).mono ?_
    rintro e w1 ⟨rfl, rfl⟩
    have hI := HP _ hBW
    simp only [Bool.true_and] at hI
    have hJ := int_put hBW (Nat.le_refl _) hR.1 hR.2.1 hI
    obtain ⟨r1, r2, r3, r4⟩ := hR
    clear hI
    go_wp2
    exact bodyPost_ret (v := .agg #[.bool (decide (0 < m)), .slice A m c]) (by simp [results, Tryz.results108, go_sem, r1, r2]) rfl ⟨⟨_, rfl, _, _, _, _, rfl, hJ.1⟩, hJ.2⟩

set_option maxHeartbeats 1000000 in
theorem ref_valid (A : Option Addr) (c n : Nat) (s : Bool) (xs : List Nat) (w : World) (hx : Ws w A xs) (hn : n = xs.length) :
    Calls Tryz.prog 93 #[.agg #[.bool s, .slice A n c]] w fun e w' => e = .returned (.bool (ivalid s xs)) ∧ Below w.heap.size w w' := by
  subst hn
  have hl := hx.len
  by_cases h0 : 0 < xs.length
  · obtain ⟨b, off, rfl, hbl, hcell⟩ := hx.2.2 h0
    have hcell := hcell (xs.length - 1) (by omega)
    have e : ivalid s xs = decide (nth xs (xs.length - 1) ≠ 0) := by unfold ivalid; rw [if_pos h0]
    rw [e]
    clear e hx
    go_enter Tryz.func93, Tryz.ntmps93
    go_wp2
    go_ret
    refine ⟨congrArg (fun b => Ending.returned (.bool b)) ?_, Below.alloc (Below.refl _ _) (Nat.le_refl _) _⟩
    rw [Bool.eq_iff_iff]; simp
  · have e : ivalid s xs = !s := by unfold ivalid; rw [if_neg h0]
    rw [e]
    have h1 : xs.length = 0 := by omega
    rw [h1]
    go_enter Tryz.func93, Tryz.ntmps93
    go_wp2
    go_ret
    exact ⟨rfl, Below.alloc (Below.refl _ _) (Nat.le_refl _) _⟩

set_option maxHeartbeats 1000000 in
theorem ref_sign (v : Value) (z : Int) (w : World) (hv : IsInt w v z) :
    Calls Tryz.prog 94 #[v] w fun e w' => e = .returned (.int .i64 (cmpI z 0)) ∧ Below w.heap.size w w' := by
  obtain ⟨s, A, n, c, rfl, rfl, rfl, hw, hc⟩ := hv
  have hl := hw.len
  by_cases h0 : z < 0
  · have e : cmpI z 0 = -1 := by unfold cmpI; rw [if_pos h0]
    rw [e, decide_eq_true h0]
    go_enter Tryz.func94, Tryz.ntmps94
    go_wp2
    go_ret
    exact ⟨rfl, Below.alloc (Below.refl _ _) (Nat.le_refl _) _⟩
  · have e : cmpI z 0 = min ((words z.natAbs).length : Int) 1 := by
      unfold cmpI; rw [if_neg h0]
      split
      · have : (words z.natAbs).length ≠ 0 := by intro h; have := words_eq_nil.1 (List.eq_nil_of_length_eq_zero h); omega
        omega
      · have : z = 0 := by omega
        subst this
        rw [Int.natAbs_zero, words_zero]; rfl
    rw [e, decide_eq_false h0]
    generalize (words z.natAbs).length = n at *
    go_enter Tryz.func94, Tryz.ntmps94
    go_wp2
    go_ret
    exact ⟨rfl, Below.alloc (Below.refl _ _) (Nat.le_refl _) _⟩

set_option maxHeartbeats 1000000 in
theorem ref_of (z : Int) (w : World) (h0 : -9223372036854775808 ≤ z) (h1 : z < 9223372036854775808) :
    Calls Tryz.prog 67 #[.int .i64 z] w fun e w' => (∃ v, e = .returned v ∧ IsInt w' v z) ∧ Below w.heap.size w w' := by
  have hN := fun W => ref_words z.natAbs W (by omega)
  by_cases hz : z < 0
  · have e1 : (-(z + 1) + 1 : Int) = ((z.natAbs : Nat) : Int) := by omega
    have hN' := hN
    rw [← e1] at hN'
    clear hN e1
    have e2 : sgn true z.natAbs = z := by unfold sgn; rw [if_pos rfl]; omega
    have hM := fun W v (hv : IsNat W v z.natAbs) => (by
      obtain ⟨A, c, rfl, hw, hc⟩ := hv
      have := ref_made true A c _ (words z.natAbs) W hw rfl hc
      rw [val_words, e2] at this; exact this : Calls Tryz.prog 108 #[.bool true, v] W fun e w' => (∃ v, e = .returned v ∧ IsInt w' v z) ∧ Below W.heap.size W w')
    clear e2
    generalize z.natAbs = nz at *
    go_enter Tryz.func67, Tryz.ntmps67
    go_wp2_with fail
    generalize hE : World.alloc _ _ = W
    have hBW : Below w.heap.size w W := by rw [← hE]; exact (Below.refl _ _).alloc (Nat.le_refl _) _
    have hR : RC W w.heap.size := by rw [← hE]; exact ⟨by simp [go_sem], by simp [go_sem], by simp [go_sem], by simp⟩
    clear hE
    refine (hN' _).mono ?_
    rintro e w1 ⟨⟨v1, rfl, hv1⟩, hb1⟩
    have hBW1 := hBW.trans (hb1.mono hBW.size)
    have hR1 := hR.below hb1
    go_wp2_with fail
    refine (hM _ _ hv1).mono ?_
    rintro e w2 ⟨⟨_, rfl, s, A, n, c, rfl, hI⟩, hb2⟩
    have hBW2 := hBW1.trans (hb2.mono hBW1.size)
    have hR2 := hR1.below hb2
    have hJ := int_put hBW2 (Nat.le_refl _) hR2.1 hR2.2.1 hI
    obtain ⟨r1, r2, r3, r4⟩ := hR2
    go_wp2
    exact bodyPost_ret (v := .agg #[.bool s, .slice A n c]) (by simp [results, Tryz.results67, go_sem, r1, r2]) rfl ⟨⟨_, rfl, _, _, _, _, rfl, hJ.1⟩, hJ.2⟩
  · have e1 : IntKind.u64.wrap z = ((z.natAbs : Nat) : Int) := by simp [IntKind.wrap, IntKind.signed, IntKind.bits]; omega
    have e2 : sgn false z.natAbs = z := by unfold sgn; simp; omega
    have hM := fun W v (hv : IsNat W v z.natAbs) => (by
      obtain ⟨A, c, rfl, hw, hc⟩ := hv
      have := ref_made false A c _ (words z.natAbs) W hw rfl hc
      rw [val_words, e2] at this; exact this : Calls Tryz.prog 108 #[.bool false, v] W fun e w' => (∃ v, e = .returned v ∧ IsInt w' v z) ∧ Below W.heap.size W w')
    clear e2
    generalize z.natAbs = nz at *
    go_enter Tryz.func67, Tryz.ntmps67
    go_wp2_with fail
    generalize hE : World.alloc _ _ = W
    have hBW : Below w.heap.size w W := by rw [← hE]; exact (Below.refl _ _).alloc (Nat.le_refl _) _
    have hR : RC W w.heap.size := by rw [← hE]; exact ⟨by simp [go_sem], by simp [go_sem], by simp [go_sem], by simp⟩
    clear hE
    refine (hN _).mono ?_
    rintro e w1 ⟨⟨v1, rfl, hv1⟩, hb1⟩
    have hBW1 := hBW.trans (hb1.mono hBW.size)
    have hR1 := hR.below hb1
    go_wp2_with fail
    refine (hM _ _ hv1).mono ?_
    rintro e w2 ⟨⟨_, rfl, s, A, n, c, rfl, hI⟩, hb2⟩
    have hBW2 := hBW1.trans (hb2.mono hBW1.size)
    have hR2 := hR1.below hb2
    have hJ := int_put hBW2 (Nat.le_refl _) hR2.1 hR2.2.1 hI
    obtain ⟨r1, r2, r3, r4⟩ := hR2
    go_wp2
    exact bodyPost_ret (v := .agg #[.bool s, .slice A n c]) (by simp [results, Tryz.results67, go_sem, r1, r2]) rfl ⟨⟨_, rfl, _, _, _, _, rfl, hJ.1⟩, hJ.2⟩

end Go.Proofs.YtlklgeidffjidaaGreat
