/- Walks: one digit of the school division (package integer). -/
import Derived.Test.YtlklgeidffjidaaGreatMUnivariateRing1
import Derived.Deep.DeepCutAuto
import Derived.Deep.CutBlock
import Derived.Deep.RegionHeld3
import Derived.Deep.LoopGhost
namespace Go.Proofs.YtlklgeidffjidaaGreat
open Go.RowKit

theorem bits_sub32z (a b c : Nat) (zb : Int) (w : World) (hz : zb = (b : Int)) (ha : a < 4294967296) (hb : b < 4294967296) (hc : c ≤ 1) :
    Calls Tryz.prog 151 #[.int .u32 (a : Int), .int .u32 zb, .int .u32 (c : Int)] w fun e w' =>
      e = .returned (.tuple #[.int .u32 ((dif a b c : Nat) : Int), .int .u32 ((bor a b c : Nat) : Int)]) ∧ w = w' := by subst hz; exact bits_sub32 a b c w ha hb hc

set_option maxHeartbeats 2000000 in
set_option maxRecDepth 100000 in
theorem nat_reduce (g o c d m : Nat) (B : Option Addr) (pre xs post vs : List Nat) (w : World) (hW : Wb w g (pre ++ xs ++ post)) (ho : pre.length = o) (hlx : xs.length = m + 3) (hlv : vs.length = m + 2) (hxd : Digs xs) (hv : Ws w B vs)
    (hne : ∀ a, B = some a → a.block ≠ g) (hX : val xs < val vs * base) (hm : m ≤ 1099511627776) :
    Calls Tryz.prog 144 #[.slice (some ⟨g, o, none⟩) (m + 3) c, .slice B (m + 2) d] w fun e w' =>
      e = .returned (.int .u32 ((val xs / val vs : Nat) : Int)) ∧ ∃ ys, ys.length = m + 3 ∧ Digs ys ∧ val ys = val xs % val vs ∧ Wb w' g (pre ++ ys ++ post) ∧ w.grownBy w' (some g) := by
  obtain ⟨b, off, hB, hbl, hvc⟩ := hv.2.2 (by omega)
  subst hB
  have hbg : b ≠ g := hne _ rfl
  have x0 := hW.wcell ho (m + 2) (by omega)
  have x1 := hW.wcell ho (m + 1) (by omega)
  have x2 := hW.wcell ho m (by omega)
  have v1 := hvc (m + 1) (by omega)
  have v2 := hvc m (by omega)
  have bx0 : nth xs (m + 2) < 4294967296 := hxd.get _
  have bx1 : nth xs (m + 1) < 4294967296 := hxd.get _
  have bx2 : nth xs m < 4294967296 := hxd.get _
  have bv1 : nth vs (m + 1) < 4294967296 := hv.word _
  have bv2 : nth vs m < 4294967296 := hv.word _
  have Hlx := Lib.hid hlx
  have Hlv := Lib.hid hlv
  clear hlx hlv hvc hne
  have HX := Lib.hid hX
  clear hX
  go_enter Tryz.func144, Tryz.ntmps144
  go_wp2
  go_quiet (fail)
  go_upto_if 26 with (fail)
  go_cut [6] (fun s6 wx => ∃ q n : Nat, q < base ∧ val xs < (q + 1) * val vs ∧ s6 = .int .u64 (q : Int) ∧ wx = w.drewN n)
  case first =>
    by_cases hlt : nth xs (m + 2) < nth vs (m + 1)
    · go_wp2
      have y0 : (w.drewN nq).cell? ⟨g, o + (m + 2), none⟩ = _ := x0
      have y1 : (w.drewN nq).cell? ⟨g, o + (m + 1), none⟩ = _ := x1
      have y2 : (w.drewN nq).cell? ⟨g, o + m, none⟩ = _ := x2
      have u1 : (w.drewN nq).cell? ⟨b, off + (m + 1), none⟩ = _ := v1
      have u2 : (w.drewN nq).cell? ⟨b, off + m, none⟩ = _ := v2
      clear x0 x1 x2 v1 v2
      obtain ⟨W2, HW2⟩ : ∃ W2, Hid (W2 = w.drewN nq) := ⟨_, Lib.hid rfl⟩
      rw [← HW2.out] at y0 y1 y2 u1 u2 ⊢
      have cD := fun W => bits_div32 (nth xs (m + 2)) (nth xs (m + 1)) (nth vs (m + 1)) W hlt bx1 bv1
      have hG := guess_start hxd hv.digs Hlx.out Hlv.out hlt
      generalize (nth xs (m + 2) * base + nth xs (m + 1)) / nth vs (m + 1) = q0 at cD hG
      have hr0 : (nth xs (m + 2) * base + nth xs (m + 1)) % nth vs (m + 1) < 4294967296 := Nat.lt_trans (Nat.mod_lt _ (by omega)) bv1
      generalize (nth xs (m + 2) * base + nth xs (m + 1)) % nth vs (m + 1) = r0 at cD hG hr0
      have hq0 : q0 < 4294967296 := hG.1
      have HG := Lib.hid hG
      clear hG
      go_quiet ((go_at_call 158; exact Calls.quiet_of ((cD _).mono fun e w' h => ⟨h.1, 1, h.2.symm⟩)))
      clear cD
      go_wp2
      go_loopw [6, 9] (fun s6 s9 wx => ∃ q r n : Nat, Guess xs vs m q r ∧ r < 8589934592 ∧ s6 = .int .u64 (q : Int) ∧ s9 = .int .u64 (r : Int) ∧ wx = W2.drewN n) (fun s6 _ _ => (intOf s6).toNat)
      case atStart => exact ⟨q0, r0, _, HG.out, by omega, rfl, rfl, rfl⟩
      case round =>
        obtain ⟨q, r, n, hg, hr, rfl, rfl, rfl⟩ := hrel
        have z2 : (W2.drewN n).cell? ⟨g, o + m, none⟩ = _ := y2
        have t1 : (W2.drewN n).cell? ⟨b, off + (m + 1), none⟩ = _ := u1
        have t2 : (W2.drewN n).cell? ⟨b, off + m, none⟩ = _ := u2
        obtain ⟨W3, HW3⟩ : ∃ W3, Hid (W3 = W2.drewN n) := ⟨_, Lib.hid rfl⟩
        rw [← HW3.out] at z2 t1 t2 ⊢
        have hq : q < 4294967296 := hg.1
        have Hg := Lib.hid hg
        clear hg y0 y1 y2 u1 u2
        by_cases hA : r ≤ 4294967295
        · have hAi : (r : Int) ≤ 4294967295 := by omega
          have hA' : decide ((r : Int) ≤ 4294967295) = true := by simp; omega
          have hp := prod_le (show q < base from hq) (show nth vs m < base from bv2)
          have e1 : IntKind.u64.wrap ((nth vs m : Nat) : Int) = ((nth vs m : Nat) : Int) := u64_wrap_nat (by omega)
          have e2 : IntKind.u64.wrap ((q : Int) * ((nth vs m : Nat) : Int)) = (q : Int) * ((nth vs m : Nat) : Int) := by rw [← Int.natCast_mul]; exact u64_wrap_nat (by omega)
          have e3 : IntKind.u64.wrap ((r : Int) * 4294967296) = (r : Int) * 4294967296 := by
            have := u64_wrap_nat (n := r * 4294967296) (by omega); rwa [Int.natCast_mul] at this
          have e4 : IntKind.u64.wrap ((nth xs m : Nat) : Int) = ((nth xs m : Nat) : Int) := u64_wrap_nat (by omega)
          have e5 := or64 r (nth xs m) (by omega) bx2
          obtain ⟨T, HT⟩ : ∃ T, Hid (r * base + nth xs m = T) := ⟨_, Lib.hid rfl⟩
          rw [HT.out] at e5
          clear hp
          by_cases hB : T < q * nth vs m
          · have hBi : (T : Int) < (q : Int) * ((nth vs m : Nat) : Int) := by rw [← Int.natCast_mul]; omega
            have hst := guess_step hxd Hlx.out Hlv.out Hg.out (by rw [HT.out]; exact hB)
            have hq1 : 1 ≤ q := hst.1
            have Hst := Lib.hid hst
            clear hst
            go_wp2
            go_quiet (fail)
            go_wp2
            go_roundw
            case rel => exact ⟨q - 1, _, _, Hst.out.2, by omega, congrArg (Value.int .u64) (by omega), congrArg (Value.int .u64) (by omega), by rw [HW3.out, World.drewN_drewN]⟩
            case measure => simp [intOf]; omega
          · have hBi : (q : Int) * ((nth vs m : Nat) : Int) ≤ (T : Int) := by rw [← Int.natCast_mul]; omega
            go_wp2
            go_quiet (fail)
            go_wp2
            go_meet
            exact ⟨q, _, hq, Hg.out.2.2, rfl, by rw [HW3.out, HW2.out, World.drewN_drewN, World.drewN_drewN]⟩
        · have hA' : decide ((r : Int) ≤ 4294967295) = false := by simp; omega
          go_wp2
          go_quiet (fail)
          go_wp2
          go_meet
          exact ⟨q, _, hq, Hg.out.2.2, rfl, by rw [HW3.out, HW2.out, World.drewN_drewN, World.drewN_drewN]⟩
    · go_wp2
      go_meet
      exact ⟨4294967295, nq, by unfold base; omega, guess_full HX.out, rfl, rfl⟩
  case rest =>
    obtain ⟨q, n, hq, hqX, rfl, rfl⟩ := hcut
    have hb0 : (w.drewN n).grownBy (w.drewN n) (some g) := grown_refl _ _
    have hb1 : w.grownBy (w.drewN n) (some g) := grown_drewN (grown_refl _ _) n
    have hW4 : Wb (w.drewN n) g (pre ++ xs ++ post) := hW
    have hv4 : Ws (w.drewN n) (some ⟨b, off, none⟩) vs := hv.off (fun a ha => by cases ha; exact hbg) hb1
    generalize w.drewN n = W4 at *
    clear x0 x1 x2 v1 v2 hb0
    go_wp2
    go_loopw [10, 11, 83] (fun s10 s11 i wr => ∃ (k cy bo : Nat) (cur : List Nat), k ≤ m + 3 ∧ cy < base ∧ bo ≤ 1 ∧ i = .int .i64 (k : Int) ∧ s10 = .int .u64 (cy : Int) ∧ s11 = .int .u32 (bo : Int) ∧ Hid (cur.length = m + 3) ∧ Digs cur ∧ (m + 2 < k → cy = 0) ∧
        Hid (val cur + q * val (vs.take k) = val xs + (bo + cy) * base ^ k) ∧ Wb wr g (pre ++ cur ++ post) ∧ w.grownBy wr (some g)) (fun _ _ i _ => m + 3 - (intOf i).toNat)
    case atStart => exact ⟨0, 0, 0, xs, Nat.zero_le _, base_pos, Nat.zero_le _, rfl, rfl, rfl, Hlx, hxd, fun _ => rfl, Lib.hid (by simp), hW4, hb1⟩
    case round =>
      obtain ⟨k, cy, bo, cur, hk, hcy, hbo, rfl, rfl, rfl, hlen, hd, hz, hV, hw, hg⟩ := hrel
      clear hW4 hb1 hv4
      have hvr := hv.off (fun a ha => by cases ha; exact hbg) hg
      by_cases hlt : k < m + 3
      · have hcell := hw.wcell ho k (by rw [hlen.out]; exact hlt)
        have hfree := hw.free (o + k)
        have hcy' : cy < 4294967296 := hcy
        have hq' : q < 4294967296 := hq
        have h1 : nth vs k < 4294967296 := hv.word k
        have h2 : nth cur k < 4294967296 := hd.get k
        obtain ⟨r1, r2, r3, r4⟩ := ms_round hv.digs (by rw [hlen.out]; exact hlt) hq hcy hbo hd hV.out hbo
        have h4 : (q : Int) * ((nth vs k : Nat) : Int) ≤ 18446744065119617025 := by have := prod_le hq (show nth vs k < base from h1); rw [← Int.natCast_mul]; omega
        have h5 : 0 ≤ (q : Int) * ((nth vs k : Nat) : Int) := Int.mul_nonneg (by omega) (by omega)
        go_wp2_with fail
        refine (nat_at (some ⟨b, off, none⟩) d _ _ k vs _ hvr Hlv.out.symm rfl (by omega)).mono ?_
        rintro e w' ⟨rfl, rfl⟩
        go_wp2_with fail
        refine (bits_sub32z (nth cur k) (lo (cy + q * nth vs k)) bo _ _ (lo_int (by simp)).symm h2 (lo_lt _) hbo).mono ?_
        rintro e w' ⟨rfl, rfl⟩
        go_wp2
        go_roundw
        case rel =>
          refine ⟨k + 1, _, _, _, hlt, r2, bor_le _ _ _, by go_num, (congrArg (Value.int .u64) (hi_int (by simp))).symm, rfl, Lib.hid (by simp [hlen.out]), r3, fun h => ?_, Lib.hid r4, hw.wset ho k _ (by rw [hlen.out]; exact hlt) rfl, grown_setCell hg _ _⟩
          have hvk : nth vs k = 0 := by unfold nth; exact (by rw [List.getD_eq_getElem?_getD, List.getElem?_eq_none (by rw [Hlv.out]; omega)]; rfl)
          rw [hvk, Nat.mul_zero, Nat.add_zero]
          unfold hi; exact Nat.div_eq_of_lt hcy
        case measure => simp [intOf]; omega
      · obtain rfl : k = m + 3 := by omega
        have hB := back_first (N := m + 3) (by rw [Hlv.out]; omega) hq hbo hqX hV.out (hz (by omega))
        have HB := Lib.hid hB
        clear hB hV hz
        go_wp2
        go_loopw [6, 11] (fun s6 s11 wr => ∃ (q' b' : Nat) (cur : List Nat), q' < base ∧ b' ≤ 1 ∧ s6 = .int .u64 (q' : Int) ∧ s11 = .int .u32 (b' : Int) ∧ Hid (cur.length = m + 3) ∧ Digs cur ∧ Hid (Back (val xs) (val vs) (m + 3) q' b' cur) ∧
            Wb wr g (pre ++ cur ++ post) ∧ w.grownBy wr (some g)) (fun s6 _ _ => (intOf s6).toNat)
        case atStart => exact ⟨q, bo, cur, hq, hbo, rfl, rfl, hlen, hd, HB, hw, hg⟩
        case round =>
          obtain ⟨q', b', cur, hq', hb', rfl, rfl, hlen, hd, HB, hw, hg⟩ := hrel
          clear hvr
          have hq'' : q' < 4294967296 := hq'
          rcases (show b' = 0 ∨ b' = 1 by omega) with rfl | rfl
          · obtain ⟨e1, e2⟩ := back_end HB.out
            have E1 := Lib.hid e1
            have E2 := Lib.hid e2
            clear e1 e2
            go_wp2
            go_ret
            rw [← E1.out, ← E2.out]
            exact ⟨rfl, cur, hlen.out, hd, rfl, hw, hg⟩
          · have hq1 : 1 ≤ q' := back_pos HB.out hd hlen.out
            go_wp2
            obtain ⟨wo, rfl⟩ : ∃ wo : World, wo = wr := ⟨_, rfl⟩
            go_loopw [13, 117] (fun s13 i wr => ∃ (k c' : Nat) (cur' : List Nat), k ≤ m + 3 ∧ c' ≤ 1 ∧ i = .int .i64 (k : Int) ∧ s13 = .int .u32 (c' : Int) ∧ Hid (cur'.length = m + 3) ∧ Digs cur' ∧
                Hid (val cur' + c' * base ^ k = val cur + val (vs.take k)) ∧ Wb wr g (pre ++ cur' ++ post) ∧ w.grownBy wr (some g)) (fun _ i _ => m + 3 - (intOf i).toNat)
            case atStart => exact ⟨0, 0, cur, Nat.zero_le _, Nat.zero_le _, rfl, rfl, hlen, hd, Lib.hid (by simp), hw, hg⟩
            case round =>
              obtain ⟨k, c', cur', hk, hc', rfl, rfl, hlen', hd', hV, hw', hg'⟩ := hrel
              clear hw hg
              have hvr := (hv.off (fun a ha => by cases ha; exact hbg) hg').below (below_drew' _)
              by_cases hlt : k < m + 3
              · have hcell := hw'.drew.wcell ho k (by rw [hlen'.out]; exact hlt)
                have hfree := hw'.drew.free (o + k)
                have h1 : nth vs k < 4294967296 := hv.word k
                have h2 : nth cur' k < 4294967296 := hd'.get k
                go_wp2
                go_region_with (first
                  | (go_at_call 150; refine (nat_at (some ⟨b, off, none⟩) d _ _ k vs _ hvr Hlv.out.symm rfl (by omega)).mono ?_; rintro e w' ⟨rfl, rfl⟩)
                  | (go_at_call 149; refine (bits_add32 _ _ c' _ h2 h1 (by omega)).mono ?_; rintro e w' ⟨rfl, rfl⟩))
                all_goals
                  go_wp2
                  go_roundw
                  case rel =>
                    obtain ⟨r1, r2, r3⟩ := back_round hv.digs (by rw [hlen'.out]; exact hlt) hc' hd' hV.out
                    (repeat apply Exists.intro)
                    exact ⟨⟨k + 1, _, _, hlt, r1, by go_num, rfl, Lib.hid (by simp [hlen'.out]), r2, Lib.hid r3, hw'.drew.wset ho k _ (by rw [hlen'.out]; exact hlt) rfl, grown_setCell (grown_drew hg') _ _⟩, rfl⟩
                  case measure => simp [intOf]; omega
              · obtain rfl : k = m + 3 := by omega
                have hst := back_go HB.out hd hlen.out hc' (by have := hV.out; rwa [List.take_of_length_le (by rw [Hlv.out]; omega)] at this)
                have Hst := Lib.hid hst
                clear hst
                go_wp2
                go_roundw
                case rel => exact ⟨q' - 1, 1 - c', cur', by omega, by omega, congrArg (Value.int .u64) (by omega), congrArg (Value.int .u32) (by omega), hlen', hd', Lib.hid Hst.out.2, hw', hg'⟩
                case measure => simp [intOf]; omega

end Go.Proofs.YtlklgeidffjidaaGreat

/- Plain arithmetic: the loop of the school division. No program. -/
namespace Go.Proofs.YtlklgeidffjidaaGreat

structure DivInv (us qs : List Nat) (N n i V U : Nat) : Prop where
  ul : us.length = N + n
  ql : qs.length = N
  ud : Digs us
  qd : Digs qs
  qz : Zb qs (N - i)
  total : val us + V * val qs = U
  top : val (us.drop (N - i)) < V

theorem ring_dr {r q X p T Q V : Nat} (h : r + V * q = X) : T + p * r + V * (Q + q * p) = T + p * X + V * Q := by subst h; grind
theorem val_take_le (xs : List Nat) (k : Nat) : val (xs.take k) ≤ val xs := by
  by_cases h : k ≤ xs.length
  · rw [val_drop k h]; omega
  · rw [List.take_of_length_le (by omega)]; exact Nat.le_refl _

theorem div_split {us : List Nat} {N n k : Nat} (hl : us.length = N + n) (hk : k < N) :
    us = us.take k ++ (us.drop k).take (n + 1) ++ us.drop (k + (n + 1)) ∧ (us.take k).length = k ∧ ((us.drop k).take (n + 1)).length = n + 1 := by
  refine ⟨?_, by rw [List.length_take]; omega, by rw [List.length_take, List.length_drop]; omega⟩
  rw [List.append_assoc, ← List.drop_drop, List.take_append_drop, List.take_append_drop]

theorem div_round {us qs : List Nat} {N n i V U : Nat} (h : DivInv us qs N n i V U) (hi : i < N) (hV : V < base ^ n) :
    Digs ((us.drop (N - 1 - i)).take (n + 1)) ∧ val ((us.drop (N - 1 - i)).take (n + 1)) < V * base ∧ val ((us.drop (N - 1 - i)).take (n + 1)) / V < base ∧
      ∀ ys, ys.length = n + 1 → Digs ys → val ys = val ((us.drop (N - 1 - i)).take (n + 1)) % V →
        DivInv (us.take (N - 1 - i) ++ ys ++ us.drop (N - 1 - i + (n + 1))) (qs.set (N - 1 - i) (val ((us.drop (N - 1 - i)).take (n + 1)) / V)) N n (i + 1) V U := by
  obtain ⟨ul, ql, ud, qd, qz, total, top⟩ := h
  have e : N - i = N - 1 - i + 1 := by omega
  have e2 : N - (i + 1) = N - 1 - i := by omega
  rw [e] at qz top
  generalize hk : N - 1 - i = k at *
  have hkN : k < N := by omega
  obtain ⟨hs, hl1, hl2⟩ := div_split ul hkN
  have hd0 : val (us.drop k) = us.getD k 0 + base * val (us.drop (k + 1)) := val_drop_cons k (by omega)
  have hlt : val (us.drop k) < V * base := by
    have h1 := ud.get k
    have h2 : base * (val (us.drop (k + 1)) + 1) ≤ base * V := Nat.mul_le_mul_left _ top
    rw [Nat.mul_add, Nat.mul_one] at h2
    rw [hd0, Nat.mul_comm V]; omega
  have hw := val_take_le (us.drop k) (n + 1)
  have hX : val ((us.drop k).take (n + 1)) < V * base := Nat.lt_of_le_of_lt hw hlt
  -- nothing stands above the part
  have hsplit : val (us.drop k) = val ((us.drop k).take (n + 1)) + base ^ (n + 1) * val (us.drop (k + (n + 1))) := by
    have := val_drop (xs := us.drop k) (n + 1) (by rw [List.length_drop]; omega)
    rwa [List.drop_drop] at this
  have hpost : val (us.drop (k + (n + 1))) = 0 := by
    apply Nat.eq_zero_of_not_pos; intro hp
    have h1 : base ^ (n + 1) * 1 ≤ base ^ (n + 1) * val (us.drop (k + (n + 1))) := Nat.mul_le_mul_left _ hp
    have h2 : V * base ≤ base ^ n * base := Nat.mul_le_mul_right _ (Nat.le_of_lt hV)
    rw [Nat.pow_succ] at h1 hsplit
    omega
  have hall : val us = val (us.take k) + base ^ k * val ((us.drop k).take (n + 1)) := by
    rw [val_drop k (by omega : k ≤ us.length), hsplit, hpost, Nat.mul_zero, Nat.add_zero]
  have hV0 : 0 < V := by omega
  have hq : val ((us.drop k).take (n + 1)) / V < base := by rw [Nat.div_lt_iff_lt_mul hV0, Nat.mul_comm]; exact hX
  refine ⟨(ud.drop k).take _, hX, hq, fun ys hyl hyd hyv => ?_⟩
  have hdrop : (us.take k ++ ys ++ us.drop (k + (n + 1))).drop k = ys ++ us.drop (k + (n + 1)) := by
    rw [List.append_assoc, List.drop_append, hl1, Nat.sub_self, List.drop_zero, List.drop_of_length_le (by omega), List.nil_append]
  refine ⟨?_, by rw [List.length_set]; exact ql, ?_, qd.set _ _ hq, ?_, ?_, ?_⟩
  · rw [List.length_append, List.length_append, hl1, hyl, List.length_drop]; omega
  · exact ((ud.take k).append hyd).append (ud.drop _)
  · rw [e2]; exact qz.set _
  · rw [List.append_assoc, val_append, val_append, hl1, hpost, Nat.mul_zero, Nat.add_zero, hyv, val_put _ _ (by omega) (qz k (by omega)), ← total, hall]
    exact ring_dr (Nat.mod_add_div _ _)
  · rw [e2, hdrop, val_append, hpost, Nat.mul_zero, Nat.add_zero, hyv]
    exact Nat.mod_lt _ hV0

theorem div_init {us : List Nat} {a b s la n : Nat} (hs : 0 < 2 ^ s) (hul : us.length = la + 1) (hud : Digs us) (huv : val us = a * 2 ^ s) (ha : a < base ^ la) (hb : base ^ (n - 1) ≤ b) (hn : 1 ≤ n) (hle : n ≤ la) :
    DivInv us (List.replicate (la + 1 - n) 0) (la + 1 - n) n 0 (b * 2 ^ s) (a * 2 ^ s) := by
  refine ⟨by omega, by simp, hud, Digs.replicate _, Zb.replicate _ _, by rw [val_replicate, Nat.mul_zero, Nat.add_zero, huv], ?_⟩
  rw [Nat.sub_zero]
  have h1 := val_drop (xs := us) (la + 1 - n) (by omega)
  have h2 : base ^ (la + 1 - n) * val (us.drop (la + 1 - n)) ≤ a * 2 ^ s := by omega
  have h3 : a * 2 ^ s < base ^ la * 2 ^ s := Nat.mul_lt_mul_of_pos_right ha hs
  have h4 : base ^ la = base ^ (la + 1 - n) * base ^ (n - 1) := by rw [← Nat.pow_add]; congr 1; omega
  have h5 : base ^ (la + 1 - n) * val (us.drop (la + 1 - n)) < base ^ (la + 1 - n) * (base ^ (n - 1) * 2 ^ s) := by rw [← Nat.mul_assoc, ← h4]; omega
  have h6 := Nat.lt_of_mul_lt_mul_left h5
  have h7 : base ^ (n - 1) * 2 ^ s ≤ b * 2 ^ s := Nat.mul_le_mul_right _ hb
  omega
theorem div_done {us qs : List Nat} {N n a b s : Nat} (h : DivInv us qs N n N (b * 2 ^ s) (a * 2 ^ s)) (hs : 0 < 2 ^ s) : val qs = a / b ∧ val us / 2 ^ s = a % b := by
  obtain ⟨ul, ql, ud, qd, qz, total, top⟩ := h
  rw [Nat.sub_self, List.drop_zero] at top
  have hd : a * 2 ^ s / (b * 2 ^ s) = a / b := Nat.mul_div_mul_right _ _ hs
  have hm : a * 2 ^ s % (b * 2 ^ s) = a % b * 2 ^ s := Nat.mul_mod_mul_right _ _ _
  have hV0 : 0 < b * 2 ^ s := by omega
  have e : a * 2 ^ s = b * 2 ^ s * val qs + val us := by omega
  rw [e, Nat.mul_add_div hV0, Nat.div_eq_of_lt top] at hd
  rw [e, Nat.mul_add_mod, Nat.mod_eq_of_lt top] at hm
  refine ⟨by omega, ?_⟩
  rw [hm, Nat.mul_div_cancel _ hs]

/-- The shift fits into the divisor's own words. -/
theorem div_shift {b s k : Nat} (hl : (words b).length = k + 1) (hs : s < 32) (ht : nth (words b) k < 2 ^ (32 - s)) : b * 2 ^ s < base ^ (k + 1) ∧ (words (b * 2 ^ s)).length = k + 1 := by
  have h1 : val (words b) = val ((words b).take (k + 1)) := by rw [← hl, List.take_length]
  rw [val_words, val_take_succ'] at h1
  have h2 := take_lt (xs := words b) (m := k) (digs_words b) (by omega)
  have h3 : (nth (words b) k + 1) * base ^ k ≤ 2 ^ (32 - s) * base ^ k := Nat.mul_le_mul_right _ ht
  have h4 : b < 2 ^ (32 - s) * base ^ k := by
    rw [Nat.add_mul, Nat.one_mul] at h3
    unfold nth at h3
    omega
  have h5 : b * 2 ^ s < 2 ^ (32 - s) * base ^ k * 2 ^ s := Nat.mul_lt_mul_of_pos_right h4 (Nat.pow_pos (by omega))
  have h6 : 2 ^ (32 - s) * base ^ k * 2 ^ s = base ^ (k + 1) := by
    rw [Nat.mul_right_comm, Nat.mul_comm (2 ^ (32 - s)), pow_split hs, Nat.pow_succ, Nat.mul_comm]
  rw [h6] at h5
  refine ⟨h5, ?_⟩
  apply Nat.le_antisymm (words_length_le h5)
  have := words_length_mono (a := b) (b := b * 2 ^ s) (Nat.le_mul_of_pos_right _ (Nat.pow_pos (by omega)))
  omega

end Go.Proofs.YtlklgeidffjidaaGreat

/- Walks: division of natural numbers (package integer). -/
namespace Go.Proofs.YtlklgeidffjidaaGreat
open Go.RowKit

theorem words_single {b : Nat} (h : (words b).length = 1) : words b = [b] ∧ b < base := by
  have h1 := lt_pow_words b
  rw [h, Nat.pow_one] at h1
  refine ⟨?_, h1⟩
  have hb : 0 < b := by
    apply Nat.pos_of_ne_zero; intro e; rw [e, words_zero] at h; simp at h
  rw [words_pos hb, Nat.mod_eq_of_lt h1, Nat.div_eq_of_lt h1, words_zero]

set_option maxHeartbeats 1000000 in
set_option maxRecDepth 100000 in
theorem nat_div_less (A B : Option Addr) (c d n m a b : Nat) (w : World) (hx : Ws w A (words a)) (hy : Ws w B (words b)) (hn : n = (words a).length) (hm : m = (words b).length) (hc : n ≤ c) (hlt : a < b) :
    Calls Tryz.prog 124 #[.slice A n c, .slice B m d] w fun e w' => (∃ v r, e = .returned (.tuple #[v, r]) ∧ IsNat w' v (a / b) ∧ IsNat w' r (a % b)) ∧ Below w.heap.size w w' := by
  subst hn; subst hm
  have hC := nat_cmp A B c d _ _ (words a) (words b) w hx hy rfl rfl (by rw [val_words]) (by rw [val_words])
  have e : cmpI (a : Int) (b : Int) = -1 := by unfold cmpI; rw [if_pos (by omega)]
  rw [val_words, val_words, e] at hC
  have hd : a / b = 0 := Nat.div_eq_of_lt hlt
  have hmod : a % b = a := Nat.mod_eq_of_lt hlt
  rw [hd, hmod]
  clear e hd hmod
  go_enter Tryz.func124, Tryz.ntmps124
  go_wp2_with fail
  refine hC.mono ?_
  rintro e w1 ⟨rfl, hb⟩
  clear hC
  go_wp2
  go_ret2
  refine ⟨⟨_, _, rfl, ⟨none, 0, by rw [words_zero]; rfl, by rw [words_zero]; exact Ws.nil _ _, by rw [words_zero]; exact Nat.le_refl _⟩, ⟨A, c, rfl, hx.below hb, hc⟩⟩, hb⟩

set_option maxHeartbeats 1000000 in
set_option maxRecDepth 100000 in
theorem nat_div_word (A B : Option Addr) (c d n m a b : Nat) (w : World) (hx : Ws w A (words a)) (hy : Ws w B (words b)) (hn : n = (words a).length) (hm : m = (words b).length) (hs : n ≤ 1099511627776) (hle : b ≤ a) (h1 : m = 1) :
    Calls Tryz.prog 124 #[.slice A n c, .slice B m d] w fun e w' => (∃ v r, e = .returned (.tuple #[v, r]) ∧ IsNat w' v (a / b) ∧ IsNat w' r (a % b)) ∧ Below w.heap.size w w' := by
  subst hn
  obtain ⟨e1, e2⟩ := words_single (hm ▸ h1)
  subst h1
  clear hm
  have hC := nat_cmp A B c d _ 1 (words a) (words b) w hx hy rfl (by rw [e1]; rfl) (by rw [val_words]) (by rw [val_words])
  have hcm : (cmpI (a : Int) (b : Int) < 0) = False := by unfold cmpI; rw [if_neg (by omega)]; split <;> simp
  rw [val_words, val_words] at hC
  have hb0 : 0 < b := by
    apply Nat.pos_of_ne_zero; intro e; rw [e, words_zero] at e1; cases e1
  obtain ⟨b', off, rfl, hbl, hcell⟩ := hy.2.2 (by rw [e1]; simp)
  have hcell0 := hcell 0 (by rw [e1]; simp)
  have e3 : nth (words b) 0 = b := by rw [e1]; rfl
  rw [e3] at hcell0
  clear hcell e1 e3
  generalize cmpI (a : Int) (b : Int) = cc at *
  have hcm' : decide (cc < 0) = false := by simp [hcm]
  have hcm'' : ¬ cc < 0 := by simp [hcm]
  clear hcm
  go_enter Tryz.func124, Tryz.ntmps124
  go_wp2_with fail
  refine hC.mono ?_
  rintro e w1 ⟨rfl, hb⟩
  clear hC
  have hcell1 := (hb.cell (p := ⟨b', off + 0, none⟩) hbl).trans hcell0
  simp only [Nat.add_zero] at hcell1
  go_wp2_with fail
  have hW := nat_word A c _ b (words a) w1 (hx.below hb) rfl hs hb0 e2
  rw [val_words] at hW
  refine hW.mono ?_
  rintro e w2 ⟨⟨v, rfl, hv⟩, hb2⟩
  have hr : a % b < base := Nat.lt_trans (Nat.mod_lt _ hb0) e2
  generalize hrr : a % b = r at *
  have HRR := Lib.hid hrr
  clear hrr hcell0 hcell1 hW
  go_wp2_with fail
  have hw3 := ws_one w2 107 r _ rfl hr
  have hN := nat_norm (some ⟨w2.heap.size, 0, none⟩) 1 1 [r] _ hw3 rfl (by simp)
  have hI := hw3.norm
  have hv1 : val [r] = r := by simp [val]
  rw [hv1] at hN hI
  refine hN.mono ?_
  rintro e w3 ⟨rfl, rfl⟩
  go_wp2
  go_ret2
  rw [HRR.out]
  exact ⟨⟨_, _, rfl, hv.below ((Below.refl _ _).alloc (Nat.le_refl _) _), ⟨_, _, rfl, hI, Nat.le_refl _⟩⟩, (hb.trans (hb2.mono hb.size)).alloc (Nat.le_trans hb.size hb2.size) _⟩

theorem bitLenAux_lt : ∀ (f x : Nat), x < 2 ^ f → x < 2 ^ Lib.bitLenAux f x
  | 0, x, h => by simpa [Lib.bitLenAux] using h
  | f + 1, x, h => by
    simp only [Lib.bitLenAux]
    split
    · omega
    · have := bitLenAux_lt f (x / 2) (by rw [Nat.pow_succ] at h; omega)
      rw [Nat.add_comm, Nat.pow_succ]
      omega
theorem lz_top {t : Nat} (h0 : 0 < t) (h1 : t < 4294967296) : ∃ s : Nat, (32 - (Lib.bitLen t : Int)) = (s : Int) ∧ s < 32 ∧ t < 2 ^ (32 - s) := by
  have h2 : t < 2 ^ Lib.bitLen t := bitLenAux_lt 64 t (by omega)
  have h3 : Lib.bitLen t ≤ 32 := Lib.bitLen_le t 32 (by omega) h1
  have h4 : 0 < Lib.bitLen t := by
    apply Nat.pos_of_ne_zero; intro e; rw [e] at h2; omega
  refine ⟨32 - Lib.bitLen t, by omega, by omega, ?_⟩
  rwa [show 32 - (32 - Lib.bitLen t) = Lib.bitLen t from by omega]

set_option maxHeartbeats 2000000 in
set_option maxRecDepth 100000 in
theorem nat_div_great (A B : Option Addr) (c d n m k a b : Nat) (w : World) (hx : Ws w A (words a)) (hy : Ws w B (words b)) (hn : n = (words a).length) (hm : m = (words b).length) (hc : n ≤ c) (hd : m ≤ d) (hs : n ≤ 1099511627776) (hle : b ≤ a) (hk : m = k + 2) :
    Calls Tryz.prog 124 #[.slice A n c, .slice B m d] w fun e w' => (∃ v r, e = .returned (.tuple #[v, r]) ∧ IsNat w' v (a / b) ∧ IsNat w' r (a % b)) ∧ Below w.heap.size w w' := by
  have hmn : (words b).length ≤ (words a).length := words_length_mono hle
  have hC := nat_cmp A B c d _ _ (words a) (words b) w hx hy rfl rfl (by rw [val_words]) (by rw [val_words])
  have hcm : (cmpI (a : Int) (b : Int) < 0) = False := by unfold cmpI; rw [if_neg (by omega)]; split <;> simp
  rw [val_words, val_words] at hC
  have hl2 : (words b).length = k + 2 := by omega
  obtain ⟨b', off, hB, hbl, hcell⟩ := hy.2.2 (by omega)
  subst hB
  have hcell0 := hcell (k + 1) (by omega)
  have htop := hy.word (k + 1)
  have htop0 : 0 < nth (words b) (k + 1) := Nat.pos_of_ne_zero (words_last hl2)
  obtain ⟨s, hs1, hs32, hs2⟩ := lz_top htop0 htop
  obtain ⟨hfit, hvl⟩ := div_shift hl2 hs32 hs2
  clear hcell
  generalize nth (words b) (k + 1) = t at *
  generalize cmpI (a : Int) (b : Int) = cc at *
  have hcm' : decide (cc < 0) = false := by simp [hcm]
  have hcm'' : ¬ cc < 0 := by simp [hcm]
  clear hcm
  have HS1 := Lib.hid hs1
  have Hl2 := Lib.hid hl2
  have Hvl := Lib.hid hvl
  have Hn := Lib.hid hn
  clear hs1 hvl hn
  rw [hl2] at hC
  rw [← Hn.out] at hC
  have hnk : k + 2 ≤ n := by have := Hn.out; omega
  clear hl2 hmn hm
  subst hk
  go_enter Tryz.func124, Tryz.ntmps124
  go_wp2_with fail
  refine hC.mono ?_
  rintro e w1 ⟨rfl, hb⟩
  clear hC
  have hcell1 := (hb.cell (p := ⟨b', off + (k + 1), none⟩) hbl).trans hcell0
  go_wp2_with fail
  have hL := shelf_LeadingZeros32 (t : Int) w1 (by omega) (by omega)
  rw [Int.toNat_natCast, HS1.out] at hL
  refine hL.mono ?_
  rintro e w1' ⟨rfl, rfl⟩
  clear hL
  go_wp2_with fail
  refine (nat_shl A c _ s (words a) w1' (hx.below hb) Hn.out (by rw [← Hn.out]; exact hs) hs32).mono ?_
  rintro e w2 ⟨⟨us, rfl, hul, hud, huv, hU⟩, hb2⟩
  rw [← Hn.out] at hul ⊢
  rw [val_words] at huv
  obtain ⟨hk2, hf2⟩ := kept_cells hb2
  have hz2 := hb2.size
  go_wp2_with fail
  refine (nat_shl (some ⟨b', off, none⟩) d _ s (words b) w2 ((hy.below hb).below (hb2.mono (Nat.le_refl _))) Hl2.out.symm (by rw [Hl2.out]; omega) hs32).mono ?_
  rintro e w3 ⟨⟨vs, rfl, hvl, hvd, hvv, hV⟩, hb3⟩
  rw [Hl2.out] at hvl ⊢
  rw [val_words] at hvv
  have hwv := hV.ws hvd (by omega)
  have hN := nat_norm _ (k + 2 + 1) _ vs w3 hwv hvl.symm (by omega)
  have hwv2 := hwv.norm
  rw [hvv] at hN hwv2
  rw [Hvl.out] at hN
  go_wp2_with fail
  refine hN.mono ?_
  rintro e w3' ⟨rfl, rfl⟩
  clear hN
  have hkn : (n : Int) + 1 - (k + 2) = ((n - k - 1 : Nat) : Int) := by omega
  go_wp2_with (at_make; refine wp_make_words rfl _ _ 110 107 rfl Tryz.underlying110 info_u32 .i64 .i64 _ _ (n - k - 1) rfl rfl (by go_num) (by go_num) (by omega) ?_)
  intro W hW hB
  have hBw : Below w.heap.size w W := (((hb.trans (hb2.mono hb.size)).trans (hb3.mono (Nat.le_trans hb.size hz2)))).trans (hB.mono (Nat.le_trans (Nat.le_trans hb.size hz2) hb3.size))
  have hUW : Wb W w1'.heap.size us := (hU.keep hb3).keep hB
  have hVW := hwv2.below hB
  have hg1 : w1'.heap.size < w2.heap.size := hU.lt
  have hg2 : w2.heap.size < w3.heap.size := hV.lt
  have hD := div_init (us := us) (a := a) (b := b) (s := s) (la := n) (n := k + 2) (Nat.pow_pos (by omega)) hul hud huv (by have := lt_pow_words a; rwa [← Hn.out] at this) (le_of_words Hl2.out) (by omega) hnk
  rw [show n + 1 - (k + 2) = n - k - 1 from by omega] at hD
  have hbw := hb.size
  obtain ⟨V, HV⟩ : ∃ V, Hid (V = b * 2 ^ s) := ⟨_, Lib.hid rfl⟩
  have hVlt : V < base ^ (k + 2) := by rw [HV.out]; exact hfit
  rw [← HV.out] at hD hVW
  have HvV : Hid ((words V).length = k + 2) := Lib.hid (by rw [HV.out]; exact Hvl.out)
  clear hcell1 hcell0 hU hV hwv hwv2 hvv hvl hvd huv hud hul hfit
  go_wp2_with fail
  go_loopw [56] (fun i wr => ∃ (j : Nat) (us qs : List Nat), j ≤ n - k - 1 ∧ i = .int .i64 (j : Int) ∧ DivInv us qs (n - k - 1) (k + 2) j V (a * 2 ^ s) ∧
      Wb wr w1'.heap.size us ∧ Wb wr w3.heap.size qs ∧ Ws wr (some ⟨w2.heap.size, 0, none⟩) (words V) ∧ Below w.heap.size w wr) (fun i _ => n - k - 1 - (intOf i).toNat)
  case atStart => exact ⟨0, us, _, Nat.zero_le _, rfl, hD, hUW, hW, hVW, hBw⟩
  case round =>
    obtain ⟨j, us, qs, hj, rfl, hD, hU, hQ, hV, hB⟩ := hrel
    by_cases hlt : j < n - k - 1
    · obtain ⟨r1, r2, r3, r4⟩ := div_round hD hlt hVlt
      have hu := hD.ul
      obtain ⟨s1, s2, s3⟩ := div_split hu (show n - k - 1 - 1 - j < n - k - 1 from by omega)
      rw [s1] at hU
      generalize (List.take (k + 2 + 1) (List.drop (n - k - 1 - 1 - j) us)) = mid at *
      have hR := nat_reduce w1'.heap.size (n - k - 1 - 1 - j) (n + 1 - (n - k - 1 - 1 - j)) (k + 2) k (some ⟨w2.heap.size, 0, none⟩) _ mid _ (words V) wr hU s2 s3 HvV.out r1 hV (by intro a h; cases h; simp; omega) (by rw [val_words]; exact r2) (by omega)
      rw [val_words] at hR
      have hql := hD.ql
      go_wp2_with fail
      rw [show n - k - 1 - 1 - j + (k + 1 + 1) + 1 - (n - k - 1 - 1 - j) = k + 3 from by omega]
      refine hR.mono ?_
      rintro e w4 ⟨rfl, ys, y1, y2, y3, y4, y5⟩
      clear hR
      have hQ4 : Wb w4 w3.heap.size qs := by
        obtain ⟨T, hq⟩ := hQ
        exact ⟨T, by rw [y5.block w3.heap.size (Array.getElem?_eq_some_iff.1 hq).1 (by intro e; injection e with e; omega)]; exact hq⟩
      have hcell := hQ4.cell (n - k - 1 - 1 - j) (by omega)
      have hfree := hQ4.free (n - k - 1 - 1 - j)
      go_wp2_with fail
      go_roundw
      case rel =>
        refine ⟨j + 1, _, _, hlt, by go_num, r4 ys y1 y2 y3, ?_, hQ4.set' _ _ rfl, ?_, ?_⟩
        · obtain ⟨T, hq⟩ := y4
          exact ⟨T, by rw [Below.heap_setCell _ _ _ _ (by simp; omega)]; exact hq⟩
        · exact (hV.off (by intro a h; cases h; simp; omega) y5).off (by intro a h; cases h; simp; omega) (grown_setCell (grown_refl _ _) _ _)
        · refine Below.setCell (hB.trans ⟨y5.os, y5.tape, y5.output, y5.size, fun b hb => y5.block b (Nat.lt_of_lt_of_le hb hB.size) (by intro e; injection e with e; omega)⟩) (by simp; omega) _
      case measure => simp [intOf]; omega
    · obtain rfl : j = n - k - 1 := by omega
      rw [HV.out] at hD
      obtain ⟨e1, e2⟩ := div_done hD (Nat.pow_pos (by omega))
      have hul := hD.ul
      have hql := hD.ql
      have hqw := hQ.ws hD.qd (by omega)
      have huw := hU.ws hD.ud (by omega)
      have hN1 := nat_norm _ (n - k - 1) (n - k - 1) qs wr hqw hql.symm (Nat.le_of_eq hql)
      have hN2 := nat_norm _ (n + 1) (n + 1) us wr huw (by omega) (by omega)
      have htop := hD.top
      rw [Nat.sub_self, List.drop_zero, ← HV.out] at htop
      have hlu : (words (val us)).length ≤ 1099511627776 := Nat.le_trans (words_length_mono (Nat.le_of_lt htop)) (by rw [HvV.out]; omega)
      have hqn := hqw.norm
      have hun := huw.norm
      rw [e1] at hN1 hqn
      have hS := nat_shr (some ⟨w1'.heap.size, 0, none⟩) (words (val us)).length _ s (words (val us)) wr hun rfl hlu hs32
      rw [val_words, e2] at hS
      have hlq : (words (a / b)).length ≤ n - k - 1 := by rw [← e1]; exact Nat.le_trans (words_val_length_le hD.qd) (by omega)
      go_wp2_with fail
      refine hN1.mono ?_
      rintro e w5 ⟨rfl, rfl⟩
      go_wp2_with fail
      refine hN2.mono ?_
      rintro e w6 ⟨rfl, rfl⟩
      go_wp2_with fail
      refine hS.mono ?_
      rintro e w7 ⟨⟨v, rfl, hv⟩, hb7⟩
      go_wp2
      go_ret2
      exact ⟨⟨_, _, rfl, ⟨_, _, rfl, hqn.below hb7, Nat.le_refl _⟩, hv⟩, hB.trans (hb7.mono hB.size)⟩

end Go.Proofs.YtlklgeidffjidaaGreat

/- Walks: integers (package integer). -/
namespace Go.Proofs.YtlklgeidffjidaaGreat
open Go.RowKit

/-- The result's cell behind the store. -/
theorem int_stored {w0 w w2 : World} {B g : Nat} {T : TypeId} {s s0 : Bool} {A A0 : Option Addr} {n n0 c c0 : Nat} {z : Int} (h0 : Below B w0 w) (hB : B ≤ w.heap.size) (hg : g = w.heap.size) (hI : IntP w2 s A n c z)
    (hb : Below (w.alloc (.cells #[.bool s0, .slice A0 n0 c0] T)).heap.size (w.alloc (.cells #[.bool s0, .slice A0 n0 c0] T)) w2) :
    IntP ((w2.setCell ⟨g, 0, none⟩ (.bool s)).setCell ⟨g, 1, none⟩ (.slice A n c)) s A n c z ∧
    Below B w0 ((w2.setCell ⟨g, 0, none⟩ (.bool s)).setCell ⟨g, 1, none⟩ (.slice A n c)) := by
  subst hg
  obtain ⟨hk, hf⟩ := kept_cells hb
  have hz := hb.size
  exact ⟨(hI.setCell _ (u := .bool s0) (by simp [go_sem, hk]) (by simp)).setCell _ (u := .slice A0 n0 c0) (by simp [go_sem, hk]) (by simp),
    (((h0.alloc hB _).trans (hb.mono (by simp; omega))).setCell (by simp; omega) _).setCell (by simp; omega) _⟩

def ivalid (s : Bool) (xs : List Nat) : Bool := if 0 < xs.length then decide (nth xs (xs.length - 1) ≠ 0) else !s

set_option maxHeartbeats 400000 in
theorem int_valid (A : Option Addr) (c n : Nat) (s : Bool) (xs : List Nat) (w : World) (hx : Ws w A xs) (hn : n = xs.length) :
    Calls Tryz.prog 98 #[.agg #[.bool s, .slice A n c]] w fun e w' => e = .returned (.bool (ivalid s xs)) ∧ Below w.heap.size w w' := by
  subst hn
  have hl := hx.len
  by_cases h0 : 0 < xs.length
  · obtain ⟨b, off, rfl, hbl, hcell⟩ := hx.2.2 h0
    have hcell := hcell (xs.length - 1) (by omega)
    have e : ivalid s xs = decide (nth xs (xs.length - 1) ≠ 0) := by unfold ivalid; rw [if_pos h0]
    rw [e]
    clear e hx
    go_enter Tryz.func98, Tryz.ntmps98
    go_wp2
    go_ret
    refine ⟨congrArg (fun b => Ending.returned (.bool b)) ?_, Below.alloc (Below.refl _ _) (Nat.le_refl _) _⟩
    rw [Bool.eq_iff_iff]; simp
  · have e : ivalid s xs = !s := by unfold ivalid; rw [if_neg h0]
    rw [e]
    have h1 : xs.length = 0 := by omega
    rw [h1]
    go_enter Tryz.func98, Tryz.ntmps98
    go_wp2
    go_ret
    exact ⟨rfl, Below.alloc (Below.refl _ _) (Nat.le_refl _) _⟩

set_option maxHeartbeats 400000 in
theorem int_sign (v : Value) (z : Int) (w : World) (hv : IsInt w v z) :
    Calls Tryz.prog 99 #[v] w fun e w' => e = .returned (.int .i64 (cmpI z 0)) ∧ Below w.heap.size w w' := by
  obtain ⟨s, A, n, c, rfl, rfl, rfl, hw, hc⟩ := hv
  have hl := hw.len
  by_cases h0 : z < 0
  · have e : cmpI z 0 = -1 := by unfold cmpI; rw [if_pos h0]
    rw [e, decide_eq_true h0]
    go_enter Tryz.func99, Tryz.ntmps99
    go_wp2
    go_ret
    exact ⟨rfl, Below.alloc (Below.refl _ _) (Nat.le_refl _) _⟩
  · have e : cmpI z 0 = min ((words z.natAbs).length : Int) 1 := by
      unfold cmpI; rw [if_neg h0]
      split
      · have : (words z.natAbs).length ≠ 0 := by intro h; have := words_eq_nil.1 (List.eq_nil_of_length_eq_zero h); omega
        omega
      · have : z = 0 := by omega
        subst this
        rw [Int.natAbs_zero, words_zero]; rfl
    rw [e, decide_eq_false h0]
    generalize (words z.natAbs).length = n at *
    go_enter Tryz.func99, Tryz.ntmps99
    go_wp2
    go_ret
    exact ⟨rfl, Below.alloc (Below.refl _ _) (Nat.le_refl _) _⟩

set_option maxHeartbeats 400000 in
theorem int_of (z : Int) (w : World) (h0 : -9223372036854775808 ≤ z) (h1 : z < 9223372036854775808) :
    Calls Tryz.prog 102 #[.int .i64 z] w fun e w' => (∃ v, e = .returned v ∧ IsInt w' v z) ∧ Below w.heap.size w w' := by
  by_cases hz : z < 0
  · have hN := fun W => nat_natural z.natAbs W (by omega)
    have e1 : IntKind.u64.wrap (-IntKind.u64.wrap z) = ((z.natAbs : Nat) : Int) := by simp [IntKind.wrap, IntKind.signed, IntKind.bits]; omega
    have e2 : sgn true z.natAbs = z := by unfold sgn; rw [if_pos rfl]; omega
    have hs : sz z.natAbs ≤ 2 := words_length_le (by have : base ^ 2 = 18446744073709551616 := by decide
                                                     omega)
    unfold sz at hs
    go_enter Tryz.func102, Tryz.ntmps102
    go_wp2_with fail
    refine (hN _).mono ?_
    rintro e w1 ⟨⟨_, rfl, A, c, rfl, hw, hc⟩, hb⟩
    go_wp2_with fail
    refine (nat_signed A c _ true _ w1 hw rfl hc (by omega)).mono ?_
    rintro e w2 ⟨⟨v, rfl, hv⟩, hb2⟩
    rw [val_words, e2] at hv
    have hbb := hb.trans (hb2.mono hb.size)
    obtain ⟨hk, hf⟩ := kept_cells hbb
    have hzz := hbb.size
    obtain ⟨s, A', n, c', rfl, hI⟩ := hv
    have hJ := int_stored (Below.refl _ _) (Nat.le_refl _) rfl hI hbb
    go_wp2
    exact bodyPost_ret (v := .agg #[.bool s, .slice A' n c']) (by simp [results, Tryz.results102, go_sem, hk]) rfl ⟨⟨_, rfl, _, _, _, _, rfl, hJ.1⟩, hJ.2⟩
  · have hN := fun W => nat_natural z.natAbs W (by omega)
    have e1 : IntKind.u64.wrap z = ((z.natAbs : Nat) : Int) := by simp [IntKind.wrap, IntKind.signed, IntKind.bits]; omega
    have e2 : sgn false z.natAbs = z := by unfold sgn; simp; omega
    have hs : sz z.natAbs ≤ 2 := words_length_le (by have : base ^ 2 = 18446744073709551616 := by decide
                                                     omega)
    unfold sz at hs
    go_enter Tryz.func102, Tryz.ntmps102
    go_wp2_with fail
    refine (hN _).mono ?_
    rintro e w1 ⟨⟨_, rfl, A, c, rfl, hw, hc⟩, hb⟩
    go_wp2_with fail
    refine (nat_signed A c _ false _ w1 hw rfl hc (by omega)).mono ?_
    rintro e w2 ⟨⟨v, rfl, hv⟩, hb2⟩
    rw [val_words, e2] at hv
    have hbb := hb.trans (hb2.mono hb.size)
    obtain ⟨hk, hf⟩ := kept_cells hbb
    have hzz := hbb.size
    obtain ⟨s, A', n, c', rfl, hI⟩ := hv
    have hJ := int_stored (Below.refl _ _) (Nat.le_refl _) rfl hI hbb
    go_wp2
    exact bodyPost_ret (v := .agg #[.bool s, .slice A' n c']) (by simp [results, Tryz.results102, go_sem, hk]) rfl ⟨⟨_, rfl, _, _, _, _, rfl, hJ.1⟩, hJ.2⟩

set_option maxHeartbeats 400000 in
theorem int_neg (v : Value) (z : Int) (w : World) (hv : IsInt w v z) (hs : isz z ≤ 1099511627776) :
    Calls Tryz.prog 120 #[v] w fun e w' => (∃ v, e = .returned v ∧ IsInt w' v (-z)) ∧ Below w.heap.size w w' := by
  obtain ⟨s, A, n, c, rfl, rfl, rfl, hw, hc⟩ := hv
  unfold isz sz at hs
  have e2 : sgn (!decide (z < 0)) z.natAbs = -z := by unfold sgn; by_cases h : z < 0 <;> simp [h] <;> omega
  have hS := fun W (hW : Below w.heap.size w W) => nat_signed A c _ (!decide (z < 0)) (words z.natAbs) W (hw.below hW) rfl hc hs
  rw [val_words, e2] at hS
  clear e2
  go_enter Tryz.func120, Tryz.ntmps120
  go_wp2_with fail
  refine (hS _ ?_).mono ?_
  · exact ((Below.refl _ _).alloc (Nat.le_refl _) _).alloc (by simp) _
  rintro e w2 ⟨⟨v, rfl, hv⟩, hbb⟩
  obtain ⟨hk, hf⟩ := kept_cells hbb
  have hzz := hbb.size
  obtain ⟨s, A', n, c', rfl, hI⟩ := hv
  have hJ := int_stored (g := w.heap.size + 1) ((Below.refl _ _).alloc (Nat.le_refl _) _) (by simp) (by simp) hI hbb
  go_wp2
  exact bodyPost_ret (v := .agg #[.bool s, .slice A' n c']) (by simp [results, Tryz.results120, go_sem, hk]) rfl ⟨⟨_, rfl, _, _, _, _, rfl, hJ.1⟩, hJ.2⟩

theorem int_put {w0 w2 : World} {B g : Nat} {s s0 : Bool} {A A0 : Option Addr} {n n0 c c0 : Nat} {z : Int} (h0 : Below B w0 w2) (hB : B ≤ g) (f2 : w2.cell? ⟨g, 0, none⟩ = some (.bool s0)) (f3 : w2.cell? ⟨g, 1, none⟩ = some (.slice A0 n0 c0)) (hI : IntP w2 s A n c z) :
    IntP ((w2.setCell ⟨g, 0, none⟩ (.bool s)).setCell ⟨g, 1, none⟩ (.slice A n c)) s A n c z ∧ Below B w0 ((w2.setCell ⟨g, 0, none⟩ (.bool s)).setCell ⟨g, 1, none⟩ (.slice A n c)) := by
  refine ⟨(hI.setCell _ (u := .bool s0) f2 (by simp)).setCell _ (u := .slice A0 n0 c0) ?_ (by simp), (h0.setCell hB _).setCell hB _⟩
  rw [World.cell?_setCell_other]
  · exact f3
  · simp

/-- What the memory says of the result's cell, and how it stays. -/
def RC (W : World) (g : Nat) : Prop := W.cell? ⟨g, 0, none⟩ = some (.bool false) ∧ W.cell? ⟨g, 1, none⟩ = some (.slice none 0 0) ∧ (∀ o, W.frozen? ⟨g, o, none⟩ = false) ∧ g < W.heap.size
theorem RC.below {W w1 : World} {g : Nat} (h : RC W g) (hb : Below W.heap.size W w1) : RC w1 g :=
  ⟨((kept_cells hb).1 _ _ h.2.2.2).trans h.1, ((kept_cells hb).1 _ _ h.2.2.2).trans h.2.1, fun o => ((kept_cells hb).2 _ _ h.2.2.2).trans (h.2.2.1 o), Nat.lt_of_lt_of_le h.2.2.2 hb.size⟩
theorem cell_below {W w1 : World} {g o : Nat} {v : Value} (h : W.cell? ⟨g, o, none⟩ = some v) (hb : Below W.heap.size W w1) : w1.cell? ⟨g, o, none⟩ = some v :=
  ((kept_cells hb).1 _ _ (World.block_lt_of_cell? _ _ h)).trans h

/-- What a region that draws holds, behind a call. -/
theorem keepS2 {w0 W w1 : World} {b0 o0 b1 o1 : Nat} {v0 v1 : Value} (hb : Below W.heap.size W w1)
    (h : Below w0.heap.size w0 W ∧ W.cell? ⟨b0, o0, none⟩ = some v0 ∧ W.cell? ⟨b1, o1, none⟩ = some v1) :
    Below w0.heap.size w0 w1 ∧ w1.cell? ⟨b0, o0, none⟩ = some v0 ∧ w1.cell? ⟨b1, o1, none⟩ = some v1 :=
  ⟨h.1.trans (hb.mono h.1.size), cell_below h.2.1 hb, cell_below h.2.2 hb⟩
theorem keepS4 {w0 W w1 : World} {b0 o0 b1 o1 b2 o2 b3 o3 : Nat} {v0 v1 v2 v3 : Value} (hb : Below W.heap.size W w1)
    (h : Below w0.heap.size w0 W ∧ W.cell? ⟨b0, o0, none⟩ = some v0 ∧ W.cell? ⟨b1, o1, none⟩ = some v1 ∧ W.cell? ⟨b2, o2, none⟩ = some v2 ∧ W.cell? ⟨b3, o3, none⟩ = some v3) :
    Below w0.heap.size w0 w1 ∧ w1.cell? ⟨b0, o0, none⟩ = some v0 ∧ w1.cell? ⟨b1, o1, none⟩ = some v1 ∧ w1.cell? ⟨b2, o2, none⟩ = some v2 ∧ w1.cell? ⟨b3, o3, none⟩ = some v3 :=
  ⟨h.1.trans (hb.mono h.1.size), cell_below h.2.1 hb, cell_below h.2.2.1 hb, cell_below h.2.2.2.1 hb, cell_below h.2.2.2.2 hb⟩

theorem sgn_mul (x y : Int) : sgn (decide (x < 0) != decide (y < 0)) (x.natAbs * y.natAbs) = x * y := by
  have h : ((x.natAbs * y.natAbs : Nat) : Int) = (x.natAbs : Int) * (y.natAbs : Int) := by rw [Int.natCast_mul]
  unfold sgn
  rw [h]
  by_cases hx : x < 0 <;> by_cases hy : y < 0 <;> simp only [hx, hy, decide_true, decide_false]
  · have e1 : (x.natAbs : Int) = -x := by omega
    have e2 : (y.natAbs : Int) = -y := by omega
    rw [e1, e2, Int.neg_mul_neg]; rfl
  · have e1 : (x.natAbs : Int) = -x := by omega
    have e2 : (y.natAbs : Int) = y := by omega
    rw [e1, e2, Int.neg_mul]; exact Int.neg_neg _
  · have e1 : (x.natAbs : Int) = x := by omega
    have e2 : (y.natAbs : Int) = -y := by omega
    rw [e1, e2, Int.mul_neg]; exact Int.neg_neg _
  · have e1 : (x.natAbs : Int) = x := by omega
    have e2 : (y.natAbs : Int) = y := by omega
    rw [e1, e2]; simp

set_option maxHeartbeats 400000 in
theorem int_add (u v : Value) (x y : Int) (w : World) (hu : IsInt w u x) (hv : IsInt w v y) (hsx : isz x ≤ 1099511627775) (hsy : isz y ≤ 1099511627775) :
    Calls Tryz.prog 105 #[u, v] w fun e w' => (∃ v, e = .returned v ∧ IsInt w' v (x + y)) ∧ Below w.heap.size w w' := by
  obtain ⟨s, A, n, c, rfl, rfl, rfl, hx, hc⟩ := hu
  obtain ⟨s, B, m, d, rfl, rfl, rfl, hy, hd⟩ := hv
  unfold isz sz at hsx hsy
  by_cases hss : decide (x < 0) = decide (y < 0)
  · rw [← hss]
    have e2 : sgn (decide (x < 0)) (x.natAbs + y.natAbs) = x + y := by unfold sgn; by_cases h : x < 0 <;> simp [h] <;> simp [h] at hss <;> omega
    have hl := sz_add x.natAbs y.natAbs
    unfold sz at hl
    have hA := fun W (hW : Below w.heap.size w W) => nat_add A B c d _ _ (words x.natAbs) (words y.natAbs) W (hx.below hW) (hy.below hW) rfl rfl (by omega) (by omega)
    rw [val_words, val_words] at hA
    clear hss
    generalize decide (x < 0) = sx at *
    go_enter Tryz.func105, Tryz.ntmps105
    go_wp2
    go_quiet (fail)
    go_wp2_with fail
    generalize hW : World.drewN _ _ = W
    have hBW : Below w.heap.size w W := by
      rw [← hW]; exact below_drewN' ((((Below.refl _ _).alloc (Nat.le_refl _) _).alloc (by simp) _).alloc (by simp; omega) _) _
    have hc0 : W.cell? ⟨w.heap.size, 0, none⟩ = some (.bool sx) := by rw [← hW]; simp [go_sem]
    have hRC : RC W (w.heap.size + 1 + 1) := by rw [← hW]; exact ⟨by simp [go_sem], by simp [go_sem], by simp [go_sem], by simp⟩
    have hWz : w.heap.size + 3 ≤ W.heap.size := by rw [← hW]; simp
    clear hW
    go_region_held3 (fun w' => w'.cell? ⟨w.heap.size, 0, none⟩ = some (.bool sx)) (first | (go_keep; done) | (rw [World.cell?_setCell_other, World.cell?_setCell_other]; assumption; all_goals simp) | ((try dsimp only); (repeat' apply And.intro); all_goals (first | (go_keep; done) | (rw [World.cell?_setCell_other, World.cell?_setCell_other]; assumption; all_goals simp)))) (first
      | (go_at_call 129
         refine (hA _ (hBW.trans (below_drew' _))).mono ?_
         rintro e w1 ⟨⟨_, rfl, A', c', rfl, hr, hcr⟩, hb⟩
         have hz1 : W.heap.size ≤ w1.heap.size := hb.size
         have hb' : Below W.heap.size W w1 := (below_drew' _).trans hb
         have d0 := cell_below hc0 hb'
         have hR1 := hRC.below hb'
         obtain ⟨d2, d3, df, dg⟩ := hR1)
      | (go_at_call 125
         refine (nat_signed A' c' _ sx _ _ hr rfl hcr (by omega)).mono ?_
         rintro e w2 ⟨⟨v, rfl, hv⟩, hb2⟩
         have hz2 : w1.heap.size ≤ w2.heap.size := hb2.size
         have hb2' : Below w1.heap.size w1 w2 := hb2
         have f0 := cell_below d0 hb2'
         obtain ⟨f2, f3, ff, fg⟩ := RC.below ⟨d2, d3, df, dg⟩ hb2'
         rw [val_words, e2] at hv
         obtain ⟨s, A2, n2, c2, rfl, hI⟩ := hv))
    all_goals
      have hJ := int_put (hBW.trans ((hb'.trans (hb2'.mono hz1)).mono hBW.size)) (by omega) f2 f3 hI
      go_wp2
      exact bodyPost_ret (v := .agg #[.bool s, .slice A2 n2 c2]) (by simp [results, Tryz.results105, go_sem, f2, f3]) rfl ⟨⟨_, rfl, _, _, _, _, rfl, hJ.1⟩, hJ.2⟩
  · have hC := fun W (hW : Below w.heap.size w W) => nat_cmp A B c d _ _ (words x.natAbs) (words y.natAbs) W (hx.below hW) (hy.below hW) rfl rfl (by rw [val_words]) (by rw [val_words])
    rw [val_words, val_words] at hC
    have hss' : (decide (x < 0) == decide (y < 0)) = false := by simpa using hss
    by_cases hlt : x.natAbs < y.natAbs
    · have e2 : sgn (decide (y < 0)) (y.natAbs - x.natAbs) = x + y := by unfold sgn; by_cases h : y < 0 <;> simp [h] <;> simp [h] at hss <;> omega
      have hl : (words (y.natAbs - x.natAbs)).length ≤ (words y.natAbs).length := words_length_mono (by omega)
      have hA := fun W (hW : Below w.heap.size w W) => nat_sub B A d c _ _ (words y.natAbs) (words x.natAbs) W (hy.below hW) (hx.below hW) rfl rfl (by omega) (words_length_mono (by omega)) (by rw [val_words, val_words]; omega)
      have hcc : decide (cmpI (x.natAbs : Int) (y.natAbs : Int) < 0) = true := by unfold cmpI; rw [if_pos (by omega)]; rfl
      rw [val_words, val_words] at hA
      have hcc' := of_decide_eq_true hcc
      generalize cmpI (x.natAbs : Int) (y.natAbs : Int) = cc at *
      clear hss
      generalize decide (x < 0) = sx at *
      generalize decide (y < 0) = sy at *
      go_enter Tryz.func105, Tryz.ntmps105
      go_wp2
      go_quiet (fail)
      go_wp2_with fail
      generalize hW : World.drewN _ _ = W
      have hBW : Below w.heap.size w W := by
        rw [← hW]; exact below_drewN' ((((Below.refl _ _).alloc (Nat.le_refl _) _).alloc (by simp) _).alloc (by simp; omega) _) _
      have hc0 : W.cell? ⟨w.heap.size + 1, 0, none⟩ = some (.bool sy) := by rw [← hW]; simp [go_sem]
      have hRC : RC W (w.heap.size + 1 + 1) := by rw [← hW]; exact ⟨by simp [go_sem], by simp [go_sem], by simp [go_sem], by simp⟩
      have hWz : w.heap.size + 3 ≤ W.heap.size := by rw [← hW]; simp
      clear hW
      refine (hC _ hBW).mono ?_
      rintro e W1 ⟨rfl, hbw⟩
      have hBW := hBW.trans (hbw.mono hBW.size)
      have hc0 := cell_below hc0 hbw
      have hRC := hRC.below hbw
      have hWz := Nat.le_trans hWz hbw.size
      clear hC
      obtain ⟨g1, g2, g3, g4⟩ := hRC
      have hRC : RC W1 (w.heap.size + 1 + 1) := ⟨g1, g2, g3, g4⟩
      go_wp2_with fail
      go_region_held3 (fun w' => w'.cell? ⟨w.heap.size + 1, 0, none⟩ = some (.bool sy)) (first | (go_keep; done) | (rw [World.cell?_setCell_other, World.cell?_setCell_other]; assumption; all_goals simp) | ((try dsimp only); (repeat' apply And.intro); all_goals (first | (go_keep; done) | (rw [World.cell?_setCell_other, World.cell?_setCell_other]; assumption; all_goals simp)))) (first
        | (go_at_call 130
           refine (hA _ (hBW.trans (below_drew' _))).mono ?_
           rintro e w1 ⟨⟨_, rfl, A', c', rfl, hr, hcr⟩, hb⟩
           have hz1 : W1.heap.size ≤ w1.heap.size := hb.size
           have hb' : Below W1.heap.size W1 w1 := (below_drew' _).trans hb
           have d0 := cell_below hc0 hb'
           have hR1 := hRC.below hb'
           obtain ⟨d2, d3, df, dg⟩ := hR1)
        | (go_at_call 125
           refine (nat_signed A' c' _ sy _ _ hr rfl hcr (by omega)).mono ?_
           rintro e w2 ⟨⟨v, rfl, hv⟩, hb2⟩
           have hz2 : w1.heap.size ≤ w2.heap.size := hb2.size
           have hb2' : Below w1.heap.size w1 w2 := hb2
           have f0 := cell_below d0 hb2'
           obtain ⟨f2, f3, ff, fg⟩ := RC.below ⟨d2, d3, df, dg⟩ hb2'
           rw [val_words, e2] at hv
           obtain ⟨s, A2, n2, c2, rfl, hI⟩ := hv))
      all_goals
        have hJ := int_put (hBW.trans ((hb'.trans (hb2'.mono hz1)).mono hBW.size)) (by omega) f2 f3 hI
        go_wp2
        exact bodyPost_ret (v := .agg #[.bool s, .slice A2 n2 c2]) (by simp [results, Tryz.results105, go_sem, f2, f3]) rfl ⟨⟨_, rfl, _, _, _, _, rfl, hJ.1⟩, hJ.2⟩
    · have e2 : sgn (decide (x < 0)) (x.natAbs - y.natAbs) = x + y := by unfold sgn; by_cases h : x < 0 <;> simp [h] <;> simp [h] at hss <;> omega
      have hl : (words (x.natAbs - y.natAbs)).length ≤ (words x.natAbs).length := words_length_mono (by omega)
      have hA := fun W (hW : Below w.heap.size w W) => nat_sub A B c d _ _ (words x.natAbs) (words y.natAbs) W (hx.below hW) (hy.below hW) rfl rfl (by omega) (words_length_mono (by omega)) (by rw [val_words, val_words]; omega)
      have hcc : decide (cmpI (x.natAbs : Int) (y.natAbs : Int) < 0) = false := by unfold cmpI; rw [if_neg (by omega)]; split <;> simp
      rw [val_words, val_words] at hA
      have hcc' := of_decide_eq_false hcc
      generalize cmpI (x.natAbs : Int) (y.natAbs : Int) = cc at *
      clear hss
      generalize decide (x < 0) = sx at *
      generalize decide (y < 0) = sy at *
      go_enter Tryz.func105, Tryz.ntmps105
      go_wp2
      go_quiet (fail)
      go_wp2_with fail
      generalize hW : World.drewN _ _ = W
      have hBW : Below w.heap.size w W := by
        rw [← hW]; exact below_drewN' ((((Below.refl _ _).alloc (Nat.le_refl _) _).alloc (by simp) _).alloc (by simp; omega) _) _
      have hc0 : W.cell? ⟨w.heap.size, 0, none⟩ = some (.bool sx) := by rw [← hW]; simp [go_sem]
      have hRC : RC W (w.heap.size + 1 + 1) := by rw [← hW]; exact ⟨by simp [go_sem], by simp [go_sem], by simp [go_sem], by simp⟩
      have hWz : w.heap.size + 3 ≤ W.heap.size := by rw [← hW]; simp
      clear hW
      refine (hC _ hBW).mono ?_
      rintro e W1 ⟨rfl, hbw⟩
      have hBW := hBW.trans (hbw.mono hBW.size)
      have hc0 := cell_below hc0 hbw
      have hRC := hRC.below hbw
      have hWz := Nat.le_trans hWz hbw.size
      clear hC
      obtain ⟨g1, g2, g3, g4⟩ := hRC
      have hRC : RC W1 (w.heap.size + 1 + 1) := ⟨g1, g2, g3, g4⟩
      go_wp2_with fail
      go_region_held3 (fun w' => w'.cell? ⟨w.heap.size, 0, none⟩ = some (.bool sx)) (first | (go_keep; done) | (rw [World.cell?_setCell_other, World.cell?_setCell_other]; assumption; all_goals simp) | ((try dsimp only); (repeat' apply And.intro); all_goals (first | (go_keep; done) | (rw [World.cell?_setCell_other, World.cell?_setCell_other]; assumption; all_goals simp)))) (first
        | (go_at_call 130
           refine (hA _ (hBW.trans (below_drew' _))).mono ?_
           rintro e w1 ⟨⟨_, rfl, A', c', rfl, hr, hcr⟩, hb⟩
           have hz1 : W1.heap.size ≤ w1.heap.size := hb.size
           have hb' : Below W1.heap.size W1 w1 := (below_drew' _).trans hb
           have d0 := cell_below hc0 hb'
           have hR1 := hRC.below hb'
           obtain ⟨d2, d3, df, dg⟩ := hR1)
        | (go_at_call 125
           refine (nat_signed A' c' _ sx _ _ hr rfl hcr (by omega)).mono ?_
           rintro e w2 ⟨⟨v, rfl, hv⟩, hb2⟩
           have hz2 : w1.heap.size ≤ w2.heap.size := hb2.size
           have hb2' : Below w1.heap.size w1 w2 := hb2
           have f0 := cell_below d0 hb2'
           obtain ⟨f2, f3, ff, fg⟩ := RC.below ⟨d2, d3, df, dg⟩ hb2'
           rw [val_words, e2] at hv
           obtain ⟨s, A2, n2, c2, rfl, hI⟩ := hv))
      all_goals
        have hJ := int_put (hBW.trans ((hb'.trans (hb2'.mono hz1)).mono hBW.size)) (by omega) f2 f3 hI
        go_wp2
        exact bodyPost_ret (v := .agg #[.bool s, .slice A2 n2 c2]) (by simp [results, Tryz.results105, go_sem, f2, f3]) rfl ⟨⟨_, rfl, _, _, _, _, rfl, hJ.1⟩, hJ.2⟩

set_option maxHeartbeats 400000 in
theorem int_mul (u v : Value) (x y : Int) (w : World) (hu : IsInt w u x) (hv : IsInt w v y) (hsx : isz x ≤ 549755813888) (hsy : isz y ≤ 549755813888) :
    Calls Tryz.prog 131 #[u, v] w fun e w' => (∃ v, e = .returned v ∧ IsInt w' v (x * y)) ∧ Below w.heap.size w w' := by
  obtain ⟨s, A, n, c, rfl, rfl, rfl, hx, hc⟩ := hu
  obtain ⟨s, B, m, d, rfl, rfl, rfl, hy, hd⟩ := hv
  unfold isz sz at hsx hsy
  have e2 : sgn (decide (x < 0) != decide (y < 0)) (x.natAbs * y.natAbs) = x * y := sgn_mul x y
  have hl := sz_mul x.natAbs y.natAbs
  unfold sz at hl
  have hA := fun W (hW : Below w.heap.size w W) => nat_mul A B c d _ _ (words x.natAbs) (words y.natAbs) W (hx.below hW) (hy.below hW) rfl rfl (by omega) (by omega)
  rw [val_words, val_words] at hA
  generalize decide (x < 0) = sx at *
  generalize decide (y < 0) = sy at *
  go_enter Tryz.func131, Tryz.ntmps131
  go_wp2_with fail
  generalize hW : World.alloc (World.alloc _ _) _ = W
  have hBW : Below w.heap.size w W := by
    rw [← hW]; exact (((Below.refl _ _).alloc (Nat.le_refl _) _).alloc (by simp) _).alloc (by simp; omega) _
  have hc0 : W.cell? ⟨w.heap.size, 0, none⟩ = some (.bool sx) := by rw [← hW]; simp [go_sem]
  have hc1 : W.cell? ⟨w.heap.size + 1, 0, none⟩ = some (.bool sy) := by rw [← hW]; simp [go_sem]
  have hc2 : W.cell? ⟨w.heap.size, 1, none⟩ = some (.slice A (words x.natAbs).length c) := by rw [← hW]; simp [go_sem]
  have hc3 : W.cell? ⟨w.heap.size + 1, 1, none⟩ = some (.slice B (words y.natAbs).length d) := by rw [← hW]; simp [go_sem]
  have hRC : RC W (w.heap.size + 1 + 1) := by rw [← hW]; exact ⟨by simp [go_sem], by simp [go_sem], by simp [go_sem], by simp⟩
  have hWz : w.heap.size + 3 ≤ W.heap.size := by rw [← hW]; simp
  clear hW
  go_region_held3 (fun w' => w'.cell? ⟨w.heap.size, 0, none⟩ = some (.bool sx) ∧ w'.cell? ⟨w.heap.size + 1, 0, none⟩ = some (.bool sy) ∧ w'.cell? ⟨w.heap.size, 1, none⟩ = some (.slice A (words x.natAbs).length c) ∧ w'.cell? ⟨w.heap.size + 1, 1, none⟩ = some (.slice B (words y.natAbs).length d)) (first | (go_keep; done) | (rw [World.cell?_setCell_other, World.cell?_setCell_other]; assumption; all_goals simp) | ((try dsimp only); (repeat' apply And.intro); all_goals (first | (go_keep; done) | (rw [World.cell?_setCell_other, World.cell?_setCell_other]; assumption; all_goals simp)))) (first
    | (go_at_call 152
       refine (hA _ (hBW.trans (below_drew' _))).mono ?_
       rintro e w1 ⟨⟨_, rfl, A', c', rfl, hr, hcr⟩, hb⟩
       have hz1 : W.heap.size ≤ w1.heap.size := hb.size
       have hb' : Below W.heap.size W w1 := (below_drew' _).trans hb
       have e0 := cell_below hc0 hb'
       have e1 := cell_below hc1 hb'
       have e2_ := cell_below hc2 hb'
       have e3 := cell_below hc3 hb'
       have hR1 := hRC.below hb'
       obtain ⟨d2, d3, df, dg⟩ := hR1)
    | (go_at_call 125
       refine (nat_signed A' c' _ (sx != sy) _ _ hr rfl hcr (by omega)).mono ?_
       rintro e w2 ⟨⟨v, rfl, hv⟩, hb2⟩
       have hz2 : w1.heap.size ≤ w2.heap.size := hb2.size
       have hb2' : Below w1.heap.size w1 w2 := hb2
       have f0_ := cell_below e0 hb2'
       have f1_ := cell_below e1 hb2'
       have f2_ := cell_below e2_ hb2'
       have f3_ := cell_below e3 hb2'
       obtain ⟨f2, f3, ff, fg⟩ := RC.below ⟨d2, d3, df, dg⟩ hb2'
       rw [val_words, e2] at hv
       obtain ⟨s, A2, n2, c2, rfl, hI⟩ := hv))
  all_goals
    have hJ := int_put (hBW.trans ((hb'.trans (hb2'.mono hz1)).mono hBW.size)) (by omega) f2 f3 hI
    go_wp2
    exact bodyPost_ret (v := .agg #[.bool s, .slice A2 n2 c2]) (by simp [results, Tryz.results131, go_sem, f2, f3]) rfl ⟨⟨_, rfl, _, _, _, _, rfl, hJ.1⟩, hJ.2⟩

end Go.Proofs.YtlklgeidffjidaaGreat

/- Walks: integers: differences, comparisons, division, common divisors (package integer). -/
namespace Go.Proofs.YtlklgeidffjidaaGreat
open Go.RowKit

theorem nat_div (A B : Option Addr) (c d n m a b : Nat) (w : World) (hx : Ws w A (words a)) (hy : Ws w B (words b)) (hn : n = (words a).length) (hm : m = (words b).length) (hc : n ≤ c) (hd : m ≤ d) (hs : n ≤ 1099511627776) (hb : 0 < b) :
    Calls Tryz.prog 124 #[.slice A n c, .slice B m d] w fun e w' => (∃ v r, e = .returned (.tuple #[v, r]) ∧ IsNat w' v (a / b) ∧ IsNat w' r (a % b)) ∧ Below w.heap.size w w' := by
  by_cases hlt : a < b
  · exact nat_div_less A B c d n m a b w hx hy hn hm hc hlt
  · have h0 : m ≠ 0 := by
      intro e; rw [hm] at e; have := words_eq_nil.1 (List.eq_nil_of_length_eq_zero e); omega
    by_cases h1 : m = 1
    · exact nat_div_word A B c d n m a b w hx hy hn hm hs (by omega) h1
    · exact nat_div_great A B c d n m (m - 2) a b w hx hy hn hm hc hd hs (by omega) (by omega)

set_option maxHeartbeats 400000 in
theorem int_sub (u v : Value) (x y : Int) (w : World) (hu : IsInt w u x) (hv : IsInt w v y) (hsx : isz x ≤ 1099511627775) (hsy : isz y ≤ 1099511627775) :
    Calls Tryz.prog 111 #[u, v] w fun e w' => (∃ v, e = .returned v ∧ IsInt w' v (x - y)) ∧ Below w.heap.size w w' := by
  have hN := fun W (hW : Below w.heap.size w W) => int_neg v y W (hv.below hW) (by omega)
  have hA := fun W v' (hW : Below w.heap.size w W) (h' : IsInt W v' (-y)) => int_add u v' x (-y) W (hu.below hW) h' hsx (by rw [isz_neg]; exact hsy)
  rw [← Int.sub_eq_add_neg] at hA
  obtain ⟨s, A, n, c, rfl, -⟩ := hu
  obtain ⟨t, B, m, d, rfl, -⟩ := hv
  go_enter Tryz.func111, Tryz.ntmps111
  go_wp2_with fail
  generalize hW : World.alloc (World.alloc _ _) _ = W
  have hBW : Below w.heap.size w W := by
    rw [← hW]; exact (((Below.refl _ _).alloc (Nat.le_refl _) _).alloc (by simp) _).alloc (by simp; omega) _
  have hc0 : W.cell? ⟨w.heap.size, 0, none⟩ = some (.bool s) := by rw [← hW]; simp [go_sem]
  have hc1 : W.cell? ⟨w.heap.size + 1, 0, none⟩ = some (.bool t) := by rw [← hW]; simp [go_sem]
  have hc2 : W.cell? ⟨w.heap.size, 1, none⟩ = some (.slice A n c) := by rw [← hW]; simp [go_sem]
  have hc3 : W.cell? ⟨w.heap.size + 1, 1, none⟩ = some (.slice B m d) := by rw [← hW]; simp [go_sem]
  have hRC : RC W (w.heap.size + 1 + 1) := by rw [← hW]; exact ⟨by simp [go_sem], by simp [go_sem], by simp [go_sem], by simp⟩
  have hWz : w.heap.size + 3 ≤ W.heap.size := by rw [← hW]; simp
  clear hW
  go_region_held3 (fun w' => w'.cell? ⟨w.heap.size, 0, none⟩ = some (.bool s) ∧ w'.cell? ⟨w.heap.size + 1, 0, none⟩ = some (.bool t) ∧ w'.cell? ⟨w.heap.size, 1, none⟩ = some (.slice A n c) ∧ w'.cell? ⟨w.heap.size + 1, 1, none⟩ = some (.slice B m d))
    (first | (go_keep; done) | ((try dsimp only); (repeat' apply And.intro); all_goals (first | (go_keep; done) | (rw [World.cell?_setCell_other, World.cell?_setCell_other]; assumption; all_goals simp))))
    (first
      | (go_at_call 120
         refine (hN _ (hBW.trans (below_drew' _))).mono ?_
         rintro e w1 ⟨⟨v', rfl, hr⟩, hb⟩
         have hz1 : W.heap.size ≤ w1.heap.size := hb.size
         have hb' : Below W.heap.size W w1 := (below_drew' _).trans hb
         have e0 := cell_below hc0 hb'
         have e1 := cell_below hc1 hb'
         have e2 := cell_below hc2 hb'
         have e3 := cell_below hc3 hb'
         have hBW1 := hBW.trans (hb'.mono hBW.size)
         obtain ⟨d2, d3, df, dg⟩ := hRC.below hb')
      | (go_at_call 105
         refine (hA _ _ hBW1 hr).mono ?_
         rintro e w2 ⟨⟨v, rfl, hv⟩, hb2⟩
         have hz2 : w1.heap.size ≤ w2.heap.size := hb2.size
         have hb2' : Below w1.heap.size w1 w2 := hb2
         have f0_ := cell_below e0 hb2'
         have f1_ := cell_below e1 hb2'
         have f2_ := cell_below e2 hb2'
         have f3_ := cell_below e3 hb2'
         obtain ⟨f2, f3, ff, fg⟩ := RC.below ⟨d2, d3, df, dg⟩ hb2'
         obtain ⟨s, A2, n2, c2, rfl, hI⟩ := hv))
  all_goals
    have hJ := int_put (hBW.trans ((hb'.trans (hb2'.mono hz1)).mono hBW.size)) (by omega) f2 f3 hI
    go_wp2
    exact bodyPost_ret (v := .agg #[.bool s, .slice A2 n2 c2]) (by simp [results, Tryz.results111, go_sem, f2, f3]) rfl ⟨⟨_, rfl, _, _, _, _, rfl, hJ.1⟩, hJ.2⟩

theorem cmpI_sign {x y : Int} (h : decide (x < 0) ≠ decide (y < 0)) : cmpI (cmpI x 0) (cmpI y 0) = cmpI x y := by
  have h' : ¬ (x < 0 ↔ y < 0) := by simpa using h
  unfold cmpI
  by_cases hx : x < 0 <;> by_cases hy : y < 0
  · omega
  · rw [if_pos hx, if_neg hy, if_pos (show x < y from by omega)]; split <;> rfl
  · rw [if_neg hx, if_pos hy, if_neg (show ¬ x < y from by omega), if_pos (show y < x from by omega)]; split <;> rfl
  · omega

set_option maxHeartbeats 800000 in
theorem int_cmp (u v : Value) (x y : Int) (w : World) (hu : IsInt w u x) (hv : IsInt w v y) :
    Calls Tryz.prog 100 #[u, v] w fun e w' => e = .returned (.int .i64 (cmpI x y)) ∧ Below w.heap.size w w' := by
  have hS1 := fun W (hW : Below w.heap.size w W) => int_sign u x W (hu.below hW)
  have hS2 := fun W (hW : Below w.heap.size w W) => int_sign v y W (hv.below hW)
  obtain ⟨s, A, n, c, rfl, rfl, rfl, hx, hc⟩ := hu
  obtain ⟨s, B, m, d, rfl, rfl, rfl, hy, hd⟩ := hv
  by_cases hss : decide (x < 0) = decide (y < 0)
  · by_cases hxn : x < 0
    · have hyn : y < 0 := by rw [decide_eq_true hxn] at hss; exact of_decide_eq_true hss.symm
      have hC := fun W (hW : Below w.heap.size w W) => nat_cmp B A d c _ _ (words y.natAbs) (words x.natAbs) W (hy.below hW) (hx.below hW) rfl rfl (by rw [val_words]) (by rw [val_words])
      rw [val_words, val_words] at hC
      have e : cmpI (y.natAbs : Int) (x.natAbs : Int) = cmpI x y := by unfold cmpI; split <;> split <;> (try split) <;> (try split) <;> omega
      rw [e] at hC
      rw [decide_eq_true hxn] at hS1 ⊢
      rw [decide_eq_true hyn] at hS2 ⊢
      clear hS1 hS2 hss e
      go_enter Tryz.func100, Tryz.ntmps100
      go_wp2_with fail
      refine (hC _ ?_).mono ?_
      · exact ((Below.refl _ _).alloc (Nat.le_refl _) _).alloc (by simp) _
      rintro e w1 ⟨rfl, hb⟩
      go_wp2
      go_ret
      exact ⟨rfl, (((Below.refl _ _).alloc (Nat.le_refl _) _).alloc (by simp) _).trans (hb.mono (by simp; omega))⟩
    · have hyn : ¬ y < 0 := by rw [decide_eq_false hxn] at hss; exact of_decide_eq_false hss.symm
      have hC := fun W (hW : Below w.heap.size w W) => nat_cmp A B c d _ _ (words x.natAbs) (words y.natAbs) W (hx.below hW) (hy.below hW) rfl rfl (by rw [val_words]) (by rw [val_words])
      rw [val_words, val_words] at hC
      have e : cmpI (x.natAbs : Int) (y.natAbs : Int) = cmpI x y := by unfold cmpI; split <;> split <;> (try split) <;> (try split) <;> omega
      rw [e] at hC
      rw [decide_eq_false hxn] at hS1 ⊢
      rw [decide_eq_false hyn] at hS2 ⊢
      clear hS1 hS2 hss e
      go_enter Tryz.func100, Tryz.ntmps100
      go_wp2_with fail
      refine (hC _ ?_).mono ?_
      · exact ((Below.refl _ _).alloc (Nat.le_refl _) _).alloc (by simp) _
      rintro e w1 ⟨rfl, hb⟩
      go_wp2
      go_ret
      exact ⟨rfl, (((Below.refl _ _).alloc (Nat.le_refl _) _).alloc (by simp) _).trans (hb.mono (by simp; omega))⟩
  · have hK := fun W => cmp_int (cmpI x 0) (cmpI y 0) W
    rw [cmpI_sign hss] at hK
    have hss' : (decide (x < 0) == decide (y < 0)) = false := by simpa using hss
    clear hss
    generalize decide (x < 0) = s at *
    generalize decide (y < 0) = t at *
    generalize (words x.natAbs).length = n at *
    generalize (words y.natAbs).length = m at *
    go_enter Tryz.func100, Tryz.ntmps100
    go_wp2_with fail
    generalize hW : World.alloc (World.alloc _ _) _ = W
    have hBW : Below w.heap.size w W := by
      rw [← hW]; exact ((Below.refl _ _).alloc (Nat.le_refl _) _).alloc (by simp) _
    have hc0 : W.cell? ⟨w.heap.size, 0, none⟩ = some (.bool s) := by rw [← hW]; simp [go_sem]
    have hc1 : W.cell? ⟨w.heap.size + 1, 0, none⟩ = some (.bool t) := by rw [← hW]; simp [go_sem]
    have hc2 : W.cell? ⟨w.heap.size, 1, none⟩ = some (.slice A n c) := by rw [← hW]; simp [go_sem]
    have hc3 : W.cell? ⟨w.heap.size + 1, 1, none⟩ = some (.slice B m d) := by rw [← hW]; simp [go_sem]
    clear hW
    go_region_held3 (fun w' => Below w.heap.size w w' ∧ w'.cell? ⟨w.heap.size, 0, none⟩ = some (.bool s) ∧ w'.cell? ⟨w.heap.size + 1, 0, none⟩ = some (.bool t) ∧ w'.cell? ⟨w.heap.size, 1, none⟩ = some (.slice A n c) ∧ w'.cell? ⟨w.heap.size + 1, 1, none⟩ = some (.slice B m d))
      (first | (go_keep; done) | exact ⟨hBW.trans (below_drew' _), hc0, hc1, hc2, hc3⟩ | exact keepS4 (by assumption) (by assumption))
      (first
        | (go_at_call_of 99 (Value.bool s)
           refine (hS1 _ ?_).mono ?_
           · exact And.left (by assumption)
           rintro e w1 ⟨rfl, hb⟩)
        | (go_at_call_of 99 (Value.bool t)
           refine (hS2 _ ?_).mono ?_
           · exact And.left (by assumption)
           rintro e w1 ⟨rfl, hb⟩)
        | (go_at_call 122
           refine (hK _).mono ?_
           rintro e w2 ⟨rfl, rfl⟩))
    all_goals
      go_wp2
      go_ret
      exact ⟨rfl, And.left (by assumption)⟩

theorem ediv_key (x y Q R : Int) (_hy : y ≠ 0) (h : Q * y + R = x) (h0 : 0 ≤ R) (h1 : R < (y.natAbs : Int)) : Q = x / y ∧ R = x % y := by
  by_cases hp : 0 < y
  · have := (Int.ediv_emod_unique (a := x) (q := Q) (r := R) hp).2 ⟨by rw [Int.mul_comm]; omega, h0, by omega⟩
    exact ⟨this.1.symm, this.2.symm⟩
  · have := (Int.ediv_emod_unique (a := x) (b := -y) (q := -Q) (r := R) (by omega)).2 ⟨by rw [Int.neg_mul_neg, Int.mul_comm]; omega, h0, by omega⟩
    rw [Int.ediv_neg, Int.emod_neg] at this
    exact ⟨by omega, this.2.symm⟩

theorem ediv_signs (x y : Int) (hy : y ≠ 0) :
    (¬ (x < 0 ∧ 0 < x.natAbs % y.natAbs) → sgn (decide (x < 0) != decide (y < 0)) (x.natAbs / y.natAbs) = x / y ∧ ((x.natAbs % y.natAbs : Nat) : Int) = x % y) ∧
    ((x < 0 ∧ 0 < x.natAbs % y.natAbs) → sgn (decide (x < 0) != decide (y < 0)) (x.natAbs / y.natAbs + 1) = x / y ∧ ((y.natAbs - x.natAbs % y.natAbs : Nat) : Int) = x % y) := by
  have hb : 0 < y.natAbs := by omega
  have hd := Nat.div_add_mod x.natAbs y.natAbs
  have hm := Nat.mod_lt x.natAbs hb
  generalize x.natAbs / y.natAbs = q at *
  generalize x.natAbs % y.natAbs = r at *
  have hd' : (y.natAbs : Int) * q + r = x.natAbs := by rw [← hd]; simp
  unfold sgn
  by_cases hx : x < 0 <;> by_cases hy' : y < 0 <;> simp only [hx, hy', decide_true, decide_false]
  · have e1 : (x.natAbs : Int) = -x := by omega
    have e2 : (y.natAbs : Int) = -y := by omega
    rw [e1, e2, Int.neg_mul, Int.mul_comm] at hd'
    refine ⟨fun h => ediv_key x y _ _ hy ?_ (by omega) (by omega), fun h => ediv_key x y _ _ hy ?_ (by omega) (by omega)⟩
    · have hr : r = 0 := by simpa using h
      show (q : Int) * y + r = x
      omega
    · show ((q + 1 : Nat) : Int) * y + _ = x
      rw [Int.natCast_add, Int.add_mul]
      omega
  · have e1 : (x.natAbs : Int) = -x := by omega
    have e2 : (y.natAbs : Int) = y := by omega
    rw [e1, e2, Int.mul_comm] at hd'
    refine ⟨fun h => ediv_key x y _ _ hy ?_ (by omega) (by omega), fun h => ediv_key x y _ _ hy ?_ (by omega) (by omega)⟩
    · have hr : r = 0 := by simpa using h
      show -(q : Int) * y + r = x
      rw [Int.neg_mul]
      omega
    · show -((q + 1 : Nat) : Int) * y + _ = x
      rw [Int.neg_mul, Int.natCast_add, Int.add_mul]
      omega
  · have e1 : (x.natAbs : Int) = x := by omega
    have e2 : (y.natAbs : Int) = -y := by omega
    rw [e1, e2, Int.neg_mul, Int.mul_comm] at hd'
    refine ⟨fun _ => ediv_key x y _ _ hy ?_ (by omega) (by omega), fun h => absurd h.1 (by simp)⟩
    · show -(q : Int) * y + r = x
      rw [Int.neg_mul]
      omega
  · have e1 : (x.natAbs : Int) = x := by omega
    have e2 : (y.natAbs : Int) = y := by omega
    rw [e1, e2, Int.mul_comm] at hd'
    refine ⟨fun _ => ediv_key x y _ _ hy ?_ (by omega) (by omega), fun h => absurd h.1 (by simp)⟩
    · show (q : Int) * y + r = x
      omega

end Go.Proofs.YtlklgeidffjidaaGreat

/- Walks: integers: division with remainder, common divisors (package integer). -/
namespace Go.Proofs.YtlklgeidffjidaaGreat
open Go.RowKit

theorem words_pos_len {a : Nat} (h : 0 < a) : 0 < (words a).length := by
  apply Nat.pos_of_ne_zero; intro e; have := words_eq_nil.1 (List.eq_nil_of_length_eq_zero e); omega

theorem int_nil (w : World) : IntP w false none 0 0 0 := ⟨rfl, by rw [Int.natAbs_zero, words_zero]; rfl, by rw [Int.natAbs_zero, words_zero]; exact Ws.nil _ _, Nat.le_refl _⟩

theorem int_put2 {w0 w : World} {B g1 g2 : Nat} {s s' : Bool} {A A' : Option Addr} {n n' c c' : Nat} {z z' : Int} (h0 : Below B w0 w) (hB1 : B ≤ g1) (hB2 : B ≤ g2) (hne : g1 ≠ g2) (h1 : RC w g1) (h2 : RC w g2) (hI : IntP w s A n c z) (hJ : IntP w s' A' n' c' z') :
    IntP ((((w.setCell ⟨g1, 0, none⟩ (.bool s)).setCell ⟨g1, 1, none⟩ (.slice A n c)).setCell ⟨g2, 0, none⟩ (.bool s')).setCell ⟨g2, 1, none⟩ (.slice A' n' c')) s A n c z ∧
    IntP ((((w.setCell ⟨g1, 0, none⟩ (.bool s)).setCell ⟨g1, 1, none⟩ (.slice A n c)).setCell ⟨g2, 0, none⟩ (.bool s')).setCell ⟨g2, 1, none⟩ (.slice A' n' c')) s' A' n' c' z' ∧
    Below B w0 ((((w.setCell ⟨g1, 0, none⟩ (.bool s)).setCell ⟨g1, 1, none⟩ (.slice A n c)).setCell ⟨g2, 0, none⟩ (.bool s')).setCell ⟨g2, 1, none⟩ (.slice A' n' c')) := by
  have ne : ∀ o o', (⟨g2, o, none⟩ : Addr) ≠ ⟨g1, o', none⟩ := by intro o o' e; injection e with e; exact hne e.symm
  have k1 : (w.setCell ⟨g1, 0, none⟩ (.bool s)).cell? ⟨g1, 1, none⟩ = some (.slice none 0 0) := by
    rw [World.cell?_setCell_other]
    · exact h1.2.1
    · simp
  have k2 : ((w.setCell ⟨g1, 0, none⟩ (.bool s)).setCell ⟨g1, 1, none⟩ (.slice A n c)).cell? ⟨g2, 0, none⟩ = some (.bool false) := by
    rw [World.cell?_setCell_other _ _ _ _ (by first | exact ne _ _ | exact (ne _ _).symm), World.cell?_setCell_other _ _ _ _ (by first | exact ne _ _ | exact (ne _ _).symm)]; exact h2.1
  have k3 : (((w.setCell ⟨g1, 0, none⟩ (.bool s)).setCell ⟨g1, 1, none⟩ (.slice A n c)).setCell ⟨g2, 0, none⟩ (.bool s')).cell? ⟨g2, 1, none⟩ = some (.slice none 0 0) := by
    rw [World.cell?_setCell_other _ _ _ _ (by simp), World.cell?_setCell_other _ _ _ _ (by first | exact ne _ _ | exact (ne _ _).symm), World.cell?_setCell_other _ _ _ _ (by first | exact ne _ _ | exact (ne _ _).symm)]; exact h2.2.1
  exact ⟨(((hI.setCell _ h1.1 (by simp)).setCell _ k1 (by simp)).setCell _ k2 (by simp)).setCell _ k3 (by simp),
    (((hJ.setCell _ h1.1 (by simp)).setCell _ k1 (by simp)).setCell _ k2 (by simp)).setCell _ k3 (by simp),
    (((h0.setCell hB1 _).setCell hB1 _).setCell hB2 _).setCell hB2 _⟩

set_option maxHeartbeats 400000 in
theorem int_divmod_zero (u v : Value) (x : Int) (w : World) (hu : IsInt w u x) (hv : IsInt w v 0) :
    Calls Tryz.prog 128 #[u, v] w fun e w' => (∃ q r, e = .returned (.tuple #[q, r, .int .i64 10]) ∧ IsInt w' q 0 ∧ IsInt w' r 0) ∧ Below w.heap.size w w' := by
  obtain ⟨s, A, n, c, rfl, rfl, rfl, hx, hc⟩ := hu
  obtain ⟨s, B, m, d, rfl, rfl, rfl, hy, hd⟩ := hv
  have e0 : (words (Int.natAbs 0)).length = 0 := by rw [Int.natAbs_zero, words_zero]; rfl
  rw [e0]
  generalize decide (x < 0) = sx at *
  go_enter Tryz.func128, Tryz.ntmps128
  go_wp2
  have ha := fun W => int_nil W
  refine bodyPost_ret (v := .tuple #[.agg #[.bool false, .slice none 0 0], .agg #[.bool false, .slice none 0 0], .int .i64 10]) (by simp [results, Tryz.results128, go_sem]) rfl ⟨⟨_, _, rfl, ⟨_, _, _, _, rfl, ha _⟩, ⟨_, _, _, _, rfl, ha _⟩⟩, ?_⟩
  exact ((((Below.refl _ _).alloc (Nat.le_refl _) _).alloc (by simp) _).alloc (by simp; omega) _).alloc (by simp; omega) _

set_option maxHeartbeats 2000000 in
set_option maxRecDepth 100000 in
theorem int_divmod (u v : Value) (x y : Int) (w : World) (hu : IsInt w u x) (hv : IsInt w v y) (hsx : isz x ≤ 1099511627775) (hsy : isz y ≤ 1099511627775) (hy0 : y ≠ 0) :
    Calls Tryz.prog 128 #[u, v] w fun e w' => (∃ q r, e = .returned (.tuple #[q, r, .int .i64 0]) ∧ IsInt w' q (x / y) ∧ IsInt w' r (x % y)) ∧ Below w.heap.size w w' := by
  obtain ⟨s, A, n, c, rfl, rfl, rfl, hx, hc⟩ := hu
  obtain ⟨s, B, m, d, rfl, rfl, rfl, hy, hd⟩ := hv
  unfold isz sz at hsx hsy
  have hb : 0 < y.natAbs := by omega
  have hl := words_pos_len hb
  obtain ⟨k1, k2⟩ := ediv_signs x y hy0
  have hq : (words (x.natAbs / y.natAbs)).length ≤ (words x.natAbs).length := words_length_mono (Nat.div_le_self _ _)
  have hr : (words (x.natAbs % y.natAbs)).length ≤ (words y.natAbs).length := words_length_mono (Nat.le_of_lt (Nat.mod_lt _ hb))
  have hD := fun W (hW : Below w.heap.size w W) => nat_div A B c d _ _ x.natAbs y.natAbs W (hx.below hW) (hy.below hW) rfl rfl hc hd (by omega) hb
  have hm := Nat.mod_lt x.natAbs hb
  have hr0 : x.natAbs % y.natAbs = 0 → (words (x.natAbs % y.natAbs)).length = 0 := by intro h; rw [h, words_zero]; rfl
  have hr1 : 0 < x.natAbs % y.natAbs → 0 < (words (x.natAbs % y.natAbs)).length := words_pos_len
  by_cases hx0 : x < 0
  · by_cases hrr : x.natAbs % y.natAbs = 0
    · obtain ⟨e1, e2⟩ := k1 (fun h => by omega)
      have hr0 := hr0 hrr
      rw [decide_eq_true hx0] at e1 ⊢
      rw [Bool.true_bne] at e1
      clear k1 k2 hr1 hrr
      generalize x.natAbs / y.natAbs = q at *
      generalize x.natAbs % y.natAbs = r at *
      generalize decide (y < 0) = sy at *
      go_enter Tryz.func128, Tryz.ntmps128
      go_wp2_with fail
      generalize hW : World.alloc (World.alloc (World.alloc _ _) _) _ = W
      have hBW : Below w.heap.size w W := by
        rw [← hW]; exact ((((Below.refl _ _).alloc (Nat.le_refl _) _).alloc (by simp) _).alloc (by simp; omega) _).alloc (by simp; omega) _
      have hc0 : W.cell? ⟨w.heap.size, 0, none⟩ = some (.bool true) := by rw [← hW]; simp [go_sem]
      have hc1 : W.cell? ⟨w.heap.size + 1, 0, none⟩ = some (.bool sy) := by rw [← hW]; simp [go_sem]
      have hR1 : RC W (w.heap.size + 1 + 1) := by rw [← hW]; exact ⟨by simp [go_sem], by simp [go_sem], by simp [go_sem], by first | (simp; done) | (simp; omega)⟩
      have hR2 : RC W (w.heap.size + 1 + 1 + 1) := by rw [← hW]; exact ⟨by simp [go_sem], by simp [go_sem], by simp [go_sem], by simp⟩
      clear hW
      refine (hD _ hBW).mono ?_
      rintro e w1 ⟨⟨_, _, rfl, ⟨Q, c1, rfl, hQ, hQc⟩, ⟨R, c2, rfl, hR, hRc⟩⟩, hb1⟩
      have hBW1 := hBW.trans (hb1.mono hBW.size)
      have hc0 := cell_below hc0 hb1
      have hc1 := cell_below hc1 hb1
      have hR1 := RC.below hR1 hb1
      have hR2 := RC.below hR2 hb1
      clear hD
      go_wp2_with fail
      refine (nat_signed Q c1 _ (!sy) (words q) _ hQ rfl hQc (by omega)).mono ?_
      rintro e w2 ⟨⟨v1, rfl, hv1⟩, hb2⟩
      rw [val_words, e1] at hv1
      have hBW2 := hBW1.trans (hb2.mono hBW1.size)
      have hc0 := cell_below hc0 hb2
      have hc1 := cell_below hc1 hb2
      have hR1 := RC.below hR1 hb2
      have hR2 := RC.below hR2 hb2
      go_wp2_with fail
      refine (nat_signed R c2 _ false (words r) _ (hR.below hb2) hr0.symm hRc (by omega)).mono ?_
      rintro e w3 ⟨⟨v2, rfl, hv2⟩, hb3⟩
      have e2' : sgn false (r) = x % y := by rw [← e2]; rfl
      rw [val_words, e2'] at hv2
      have hBW3 := hBW2.trans (hb3.mono hBW2.size)
      have hv1 := hv1.below hb3
      have hR1 := RC.below hR1 hb3
      have hR2 := RC.below hR2 hb3
      obtain ⟨s1, A1, n1, m1, rfl, hI1⟩ := hv1
      obtain ⟨s2, A2, n2, m2, rfl, hI2⟩ := hv2
      obtain ⟨j1, j2, j3⟩ := int_put2 hBW3 (by omega) (by omega) (by omega) hR1 hR2 hI1 hI2
      obtain ⟨r1, r2, r3, r4⟩ := hR1
      obtain ⟨t1, t2, t3, t4⟩ := hR2
      go_wp2
      exact bodyPost_ret (v := .tuple #[.agg #[.bool s1, .slice A1 n1 m1], .agg #[.bool s2, .slice A2 n2 m2], .int .i64 0]) (by simp [results, Tryz.results128, go_sem, r1, r2, t1, t2]) rfl ⟨⟨_, _, rfl, ⟨_, _, _, _, rfl, j1⟩, ⟨_, _, _, _, rfl, j2⟩⟩, j3⟩
    · obtain ⟨e1, e2⟩ := k2 ⟨hx0, by omega⟩
      have hr1 := hr1 (by omega)
      rw [decide_eq_true hx0] at e1 ⊢
      rw [Bool.true_bne] at e1
      clear k1 k2 hr0 hrr
      have hql := sz_add (x.natAbs / y.natAbs) 1
      unfold sz at hql
      obtain ⟨o1, ho1⟩ : ∃ o1 : Nat, Hid (o1 = 1) := ⟨1, Lib.hid rfl⟩
      have hN1 := fun W => nat_natural o1 W (by rw [ho1.out]; omega)
      rw [show ((o1 : Nat) : Int) = 1 from by rw [ho1.out]; rfl] at hN1
      rw [← ho1.out] at e1 hql
      have hl1 : (words o1).length ≤ 1 := by rw [ho1.out, words_one]; exact Nat.le_refl _
      have hrl : (words (y.natAbs - x.natAbs % y.natAbs)).length ≤ (words y.natAbs).length := words_length_mono (by omega)
      generalize x.natAbs / y.natAbs = q at *
      generalize x.natAbs % y.natAbs = r at *
      generalize decide (y < 0) = sy at *
      go_enter Tryz.func128, Tryz.ntmps128
      go_wp2_with fail
      generalize hW : World.alloc (World.alloc (World.alloc _ _) _) _ = W
      have hBW : Below w.heap.size w W := by
        rw [← hW]; exact ((((Below.refl _ _).alloc (Nat.le_refl _) _).alloc (by simp) _).alloc (by simp; omega) _).alloc (by simp; omega) _
      have hc0 : W.cell? ⟨w.heap.size, 0, none⟩ = some (.bool true) := by rw [← hW]; simp [go_sem]
      have hc1 : W.cell? ⟨w.heap.size + 1, 0, none⟩ = some (.bool sy) := by rw [← hW]; simp [go_sem]
      have hR1 : RC W (w.heap.size + 1 + 1) := by rw [← hW]; exact ⟨by simp [go_sem], by simp [go_sem], by simp [go_sem], by first | (simp; done) | (simp; omega)⟩
      have hR2 : RC W (w.heap.size + 1 + 1 + 1) := by rw [← hW]; exact ⟨by simp [go_sem], by simp [go_sem], by simp [go_sem], by simp⟩
      clear hW
      refine (hD _ hBW).mono ?_
      rintro e w1 ⟨⟨_, _, rfl, ⟨Q, c1, rfl, hQ, hQc⟩, ⟨R, c2, rfl, hR, hRc⟩⟩, hb1⟩
      have hBW1 := hBW.trans (hb1.mono hBW.size)
      have hc0 := cell_below hc0 hb1
      have hc1 := cell_below hc1 hb1
      have hR1 := RC.below hR1 hb1
      have hR2 := RC.below hR2 hb1
      clear hD
      go_wp2_with fail
      refine (hN1 _).mono ?_
      rintro e w1a ⟨⟨_, rfl, O, oc, rfl, hO, hOc⟩, hb1a⟩
      have hBW1a := hBW1.trans (hb1a.mono hBW1.size)
      have hc0 := cell_below hc0 hb1a
      have hc1 := cell_below hc1 hb1a
      have hR1 := RC.below hR1 hb1a
      have hR2 := RC.below hR2 hb1a
      go_wp2_with fail
      refine (nat_add Q O c1 oc _ _ (words q) (words o1) _ (hQ.below hb1a) hO rfl rfl (by omega) (by omega)).mono ?_
      rintro e w1b ⟨⟨_, rfl, hP⟩, hb1b⟩
      rw [val_words, val_words] at hP
      obtain ⟨Q2, c3, rfl, hQ2, hQc2⟩ := hP
      have hBW1b := hBW1a.trans (hb1b.mono hBW1a.size)
      have hc0 := cell_below hc0 hb1b
      have hc1 := cell_below hc1 hb1b
      have hR1 := RC.below hR1 hb1b
      have hR2 := RC.below hR2 hb1b
      go_wp2_with fail
      refine (nat_sub B R d c2 _ _ (words y.natAbs) (words r) _ (hy.below hBW1b) ((hR.below hb1a).below hb1b) rfl rfl (by omega) hr (by rw [val_words, val_words]; omega)).mono ?_
      rintro e w1c ⟨⟨_, rfl, hP⟩, hb1c⟩
      rw [val_words, val_words] at hP
      obtain ⟨R2, c4, rfl, hR2', hRc2⟩ := hP
      have hBW1c := hBW1b.trans (hb1c.mono hBW1b.size)
      have hc0 := cell_below hc0 hb1c
      have hc1 := cell_below hc1 hb1c
      have hR1 := RC.below hR1 hb1c
      have hR2 := RC.below hR2 hb1c
      have hQ2 := hQ2.below hb1c
      go_wp2_with fail
      refine (nat_signed Q2 c3 _ (!sy) (words (q + o1)) _ hQ2 rfl hQc2 (by have := ho1.out; omega)).mono ?_
      rintro e w2 ⟨⟨v1, rfl, hv1⟩, hb2⟩
      rw [val_words, e1] at hv1
      have hBW2 := hBW1c.trans (hb2.mono hBW1c.size)
      have hc0 := cell_below hc0 hb2
      have hc1 := cell_below hc1 hb2
      have hR1 := RC.below hR1 hb2
      have hR2 := RC.below hR2 hb2
      go_wp2_with fail
      refine (nat_signed R2 c4 _ false (words (y.natAbs - r)) _ (hR2'.below hb2) rfl hRc2 (by omega)).mono ?_
      rintro e w3 ⟨⟨v2, rfl, hv2⟩, hb3⟩
      have e2' : sgn false ((y.natAbs - r)) = x % y := by rw [← e2]; rfl
      rw [val_words, e2'] at hv2
      have hBW3 := hBW2.trans (hb3.mono hBW2.size)
      have hv1 := hv1.below hb3
      have hR1 := RC.below hR1 hb3
      have hR2 := RC.below hR2 hb3
      obtain ⟨s1, A1, n1, m1, rfl, hI1⟩ := hv1
      obtain ⟨s2, A2, n2, m2, rfl, hI2⟩ := hv2
      obtain ⟨j1, j2, j3⟩ := int_put2 hBW3 (by omega) (by omega) (by omega) hR1 hR2 hI1 hI2
      obtain ⟨r1, r2, r3, r4⟩ := hR1
      obtain ⟨t1, t2, t3, t4⟩ := hR2
      go_wp2
      exact bodyPost_ret (v := .tuple #[.agg #[.bool s1, .slice A1 n1 m1], .agg #[.bool s2, .slice A2 n2 m2], .int .i64 0]) (by simp [results, Tryz.results128, go_sem, r1, r2, t1, t2]) rfl ⟨⟨_, _, rfl, ⟨_, _, _, _, rfl, j1⟩, ⟨_, _, _, _, rfl, j2⟩⟩, j3⟩
  · obtain ⟨e1, e2⟩ := k1 (fun h => hx0 h.1)
    rw [decide_eq_false hx0] at e1 ⊢
    rw [Bool.false_bne] at e1
    clear k1 k2 hr0 hr1
    generalize x.natAbs / y.natAbs = q at *
    generalize x.natAbs % y.natAbs = r at *
    generalize decide (y < 0) = sy at *
    go_enter Tryz.func128, Tryz.ntmps128
    go_wp2_with fail
    generalize hW : World.alloc (World.alloc (World.alloc _ _) _) _ = W
    have hBW : Below w.heap.size w W := by
      rw [← hW]; exact ((((Below.refl _ _).alloc (Nat.le_refl _) _).alloc (by simp) _).alloc (by simp; omega) _).alloc (by simp; omega) _
    have hc0 : W.cell? ⟨w.heap.size, 0, none⟩ = some (.bool false) := by rw [← hW]; simp [go_sem]
    have hc1 : W.cell? ⟨w.heap.size + 1, 0, none⟩ = some (.bool sy) := by rw [← hW]; simp [go_sem]
    have hR1 : RC W (w.heap.size + 1 + 1) := by rw [← hW]; exact ⟨by simp [go_sem], by simp [go_sem], by simp [go_sem], by first | (simp; done) | (simp; omega)⟩
    have hR2 : RC W (w.heap.size + 1 + 1 + 1) := by rw [← hW]; exact ⟨by simp [go_sem], by simp [go_sem], by simp [go_sem], by simp⟩
    clear hW
    refine (hD _ hBW).mono ?_
    rintro e w1 ⟨⟨_, _, rfl, ⟨Q, c1, rfl, hQ, hQc⟩, ⟨R, c2, rfl, hR, hRc⟩⟩, hb1⟩
    have hBW1 := hBW.trans (hb1.mono hBW.size)
    have hc0 := cell_below hc0 hb1
    have hc1 := cell_below hc1 hb1
    have hR1 := RC.below hR1 hb1
    have hR2 := RC.below hR2 hb1
    clear hD
    go_wp2_with fail
    refine (nat_signed Q c1 _ sy (words q) _ hQ rfl hQc (by omega)).mono ?_
    rintro e w2 ⟨⟨v1, rfl, hv1⟩, hb2⟩
    rw [val_words, e1] at hv1
    have hBW2 := hBW1.trans (hb2.mono hBW1.size)
    have hc0 := cell_below hc0 hb2
    have hc1 := cell_below hc1 hb2
    have hR1 := RC.below hR1 hb2
    have hR2 := RC.below hR2 hb2
    go_wp2_with fail
    refine (nat_signed R c2 _ false (words r) _ (hR.below hb2) rfl hRc (by omega)).mono ?_
    rintro e w3 ⟨⟨v2, rfl, hv2⟩, hb3⟩
    have e2' : sgn false (r) = x % y := by rw [← e2]; rfl
    rw [val_words, e2'] at hv2
    have hBW3 := hBW2.trans (hb3.mono hBW2.size)
    have hv1 := hv1.below hb3
    have hR1 := RC.below hR1 hb3
    have hR2 := RC.below hR2 hb3
    obtain ⟨s1, A1, n1, m1, rfl, hI1⟩ := hv1
    obtain ⟨s2, A2, n2, m2, rfl, hI2⟩ := hv2
    obtain ⟨j1, j2, j3⟩ := int_put2 hBW3 (by omega) (by omega) (by omega) hR1 hR2 hI1 hI2
    obtain ⟨r1, r2, r3, r4⟩ := hR1
    obtain ⟨t1, t2, t3, t4⟩ := hR2
    go_wp2
    exact bodyPost_ret (v := .tuple #[.agg #[.bool s1, .slice A1 n1 m1], .agg #[.bool s2, .slice A2 n2 m2], .int .i64 0]) (by simp [results, Tryz.results128, go_sem, r1, r2, t1, t2]) rfl ⟨⟨_, _, rfl, ⟨_, _, _, _, rfl, j1⟩, ⟨_, _, _, _, rfl, j2⟩⟩, j3⟩

set_option maxHeartbeats 1000000 in
theorem int_gcd (u v : Value) (x y : Int) (w : World) (hu : IsInt w u x) (hv : IsInt w v y) (hsx : isz x ≤ 1099511627775) (hsy : isz y ≤ 1099511627775) :
    Calls Tryz.prog 101 #[u, v] w fun e w' => (∃ v, e = .returned v ∧ IsInt w' v (Nat.gcd x.natAbs y.natAbs : Nat)) ∧ Below w.heap.size w w' := by
  obtain ⟨s, A, n, c, rfl, rfl, rfl, hx, hc⟩ := hu
  obtain ⟨s, B, m, d, rfl, rfl, rfl, hy, hd⟩ := hv
  unfold isz sz at hsx hsy
  generalize decide (x < 0) = sx at *
  generalize decide (y < 0) = sy at *
  go_enter Tryz.func101, Tryz.ntmps101
  go_wp2
  go_quiet (fail)
  go_wp2_with fail
  generalize hW : World.drewN _ _ = W
  have hBW : Below w.heap.size w W := by
    rw [← hW]; exact below_drewN' ((((Below.refl _ _).alloc (Nat.le_refl _) _).alloc (by simp) _).alloc (by simp; omega) _) _
  have hR1 : RC W (w.heap.size + 1 + 1) := by rw [← hW]; exact ⟨by simp [go_sem], by simp [go_sem], by simp [go_sem], by simp⟩
  clear hW
  have hm : (words x.natAbs).length ≤ 1099511627775 ∧ (words y.natAbs).length ≤ 1099511627775 := ⟨hsx, hsy⟩
  have hx := hx.below hBW
  have hy := hy.below hBW
  obtain ⟨G, HGG⟩ : ∃ G, Hid (Nat.gcd x.natAbs y.natAbs = G) := ⟨_, Lib.hid rfl⟩
  clear hsx hsy
  go_loopg [5, 6, 7, 8] (y.natAbs) (fun k s5 s6 s7 s8 wr => ∃ (a n c m d : Nat) (A B : Option Addr), s5 = .slice A n c ∧ s6 = .slice B m d ∧ Hid (n = (words a).length) ∧ Hid (m = (words k).length) ∧ Ws wr A (words a) ∧ Ws wr B (words k) ∧
      n ≤ c ∧ m ≤ d ∧ n ≤ 1099511627775 ∧ m ≤ 1099511627775 ∧ Hid (Nat.gcd a k = G) ∧ Below w.heap.size w wr ∧ RC wr (w.heap.size + 1 + 1))
  case atStart => exact ⟨_, _, _, _, _, _, _, rfl, rfl, Lib.hid rfl, Lib.hid rfl, hx, hy, hc, hd, hm.1, hm.2, HGG, hBW, hR1⟩
  case round =>
    clear hx hy hBW hR1 hc hd hm
    obtain ⟨a, n, c, m, d, A, B, rfl, rfl, hn, hm, hA, hB, hc, hd, hsn, hsm, hG, hBW, hR⟩ := hrel
    by_cases h0 : gk = 0
    · subst h0
      have hm0 : m = 0 := by rw [hm.out, words_zero]; rfl
      subst hm0
      have hG' := hG.out
      rw [Nat.gcd_zero_right] at hG'
      go_wp2_with fail
      refine (nat_signed A c n false (words a) _ hA hn.out (by rw [← hn.out]; exact hc) (by rw [← hn.out]; omega)).mono ?_
      rintro e w3 ⟨⟨v2, rfl, hv2⟩, hb3⟩
      have e2' : sgn false (val (words a)) = (G : Int) := by rw [val_words, hG']; rfl
      rw [e2'] at hv2
      have hBW3 := hBW.trans (hb3.mono hBW.size)
      have hR := RC.below hR hb3
      obtain ⟨s1, A1, n1, m1, rfl, hI1⟩ := hv2
      have hJ := int_put hBW3 (by omega) hR.1 hR.2.1 hI1
      obtain ⟨r1, r2, r3, r4⟩ := hR
      go_wp2
      exact bodyPost_ret (v := .agg #[.bool s1, .slice A1 n1 m1]) (by simp [results, Tryz.results101, go_sem, r1, r2]) rfl ⟨⟨_, rfl, _, _, _, _, rfl, by rw [HGG.out]; exact hJ.1⟩, hJ.2⟩
    · have hgk : 0 < gk := Nat.pos_of_ne_zero h0
      have hml : 0 < m := by rw [hm.out]; exact words_pos_len hgk
      have hlt := Nat.mod_lt a hgk
      have hgg : Nat.gcd gk (a % gk) = Nat.gcd a gk := by rw [Nat.gcd_comm a gk, Nat.gcd_rec gk a, Nat.gcd_comm]
      have hrl : (words (a % gk)).length ≤ (words gk).length := words_length_mono (Nat.le_of_lt hlt)
      have Hgg := Lib.hid hgg
      have Hrl := Lib.hid hrl
      clear hgg hrl h0
      go_wp2_with fail
      refine (nat_div A B c d n m a gk _ hA hB hn.out hm.out hc hd (by omega) hgk).mono ?_
      rintro e w3 ⟨⟨_, _, rfl, ⟨Q, c1, rfl, hQ, hQc⟩, ⟨R, c2, rfl, hR', hRc⟩⟩, hb3⟩
      have hBW3 := hBW.trans (hb3.mono hBW.size)
      have hR3 := RC.below hR hb3
      go_wp2
      go_roundg (a % gk)
      case measure => exact hlt
      case rel => exact ⟨gk, m, d, _, c2, B, R, rfl, rfl, hm, Lib.hid rfl, hB.below hb3, hR', hd, hRc, hsm, Nat.le_trans Hrl.out (by rw [← hm.out]; exact hsm), Lib.hid (Hgg.out.trans hG.out), hBW3, hR3⟩

end Go.Proofs.YtlklgeidffjidaaGreat

/- Walks: rational numbers (package rational). -/
namespace Go.Proofs.YtlklgeidffjidaaGreat
open Go.RowKit

theorem cell_alloc {W : World} {X : Obj} {g o : Nat} {v : Value} (h : W.cell? ⟨g, o, none⟩ = some v) : (W.alloc X).cell? ⟨g, o, none⟩ = some v :=
  cell_below h ((Below.refl _ _).alloc (Nat.le_refl _) _)
theorem below_alloc_drew {B : Nat} {w0 W : World} {X : Obj} (hz : B ≤ W.heap.size) (h : Below B w0 W.drew) : Below B w0 (W.alloc X).drew := by
  have k := h.alloc (o := X) hz
  exact ⟨k.os, k.tape, k.output, k.size, k.block⟩
theorem keepC1 {B : Nat} {w0 W w1 : World} {b0 o0 : Nat} {v0 : Value} (hz : B ≤ w0.heap.size)
    (h : Below B w0 W ∧ W.cell? ⟨b0, o0, none⟩ = some v0) (hb : Below W.heap.size W w1) :
    Below B w0 w1 ∧ w1.cell? ⟨b0, o0, none⟩ = some v0 :=
  ⟨h.1.trans (hb.mono (Nat.le_trans hz h.1.size)), cell_below h.2 hb⟩
theorem keepT1 {B : Nat} {w0 W w1 : World} {b0 o0 : Nat} {v0 : Value} (hb : Below B W w1) (l0 : b0 < B)
    (h : Below B w0 W ∧ W.cell? ⟨b0, o0, none⟩ = some v0) :
    Below B w0 w1 ∧ w1.cell? ⟨b0, o0, none⟩ = some v0 :=
  ⟨h.1.trans hb, (hb.cell (p := ⟨b0, o0, none⟩) l0).trans h.2⟩
theorem keepA1 {B : Nat} {w0 W : World} {X : Obj} {b0 o0 : Nat} {v0 : Value} (hz : B ≤ w0.heap.size)
    (h : Below B w0 W ∧ W.cell? ⟨b0, o0, none⟩ = some v0) :
    Below B w0 (W.alloc X) ∧ (W.alloc X).cell? ⟨b0, o0, none⟩ = some v0 :=
  ⟨h.1.alloc (Nat.le_trans hz h.1.size) _, cell_alloc h.2⟩
theorem keepD1 {B : Nat} {w0 W : World} {X : Obj} {b0 o0 : Nat} {v0 : Value} (hz : B ≤ w0.heap.size)
    (h : Below B w0 W.drew ∧ W.drew.cell? ⟨b0, o0, none⟩ = some v0) :
    Below B w0 (W.alloc X).drew ∧ (W.alloc X).drew.cell? ⟨b0, o0, none⟩ = some v0 :=
  ⟨below_alloc_drew (Nat.le_trans hz h.1.size) h.1, cell_alloc (W := W) h.2⟩
theorem keepC2 {B : Nat} {w0 W w1 : World} {b0 o0 b1 o1 : Nat} {v0 v1 : Value} (hz : B ≤ w0.heap.size)
    (h : Below B w0 W ∧ W.cell? ⟨b0, o0, none⟩ = some v0 ∧ W.cell? ⟨b1, o1, none⟩ = some v1) (hb : Below W.heap.size W w1) :
    Below B w0 w1 ∧ w1.cell? ⟨b0, o0, none⟩ = some v0 ∧ w1.cell? ⟨b1, o1, none⟩ = some v1 :=
  ⟨h.1.trans (hb.mono (Nat.le_trans hz h.1.size)), cell_below h.2.1 hb, cell_below h.2.2 hb⟩
theorem keepT2 {B : Nat} {w0 W w1 : World} {b0 o0 b1 o1 : Nat} {v0 v1 : Value} (hb : Below B W w1) (l0 : b0 < B) (l1 : b1 < B)
    (h : Below B w0 W ∧ W.cell? ⟨b0, o0, none⟩ = some v0 ∧ W.cell? ⟨b1, o1, none⟩ = some v1) :
    Below B w0 w1 ∧ w1.cell? ⟨b0, o0, none⟩ = some v0 ∧ w1.cell? ⟨b1, o1, none⟩ = some v1 :=
  ⟨h.1.trans hb, (hb.cell (p := ⟨b0, o0, none⟩) l0).trans h.2.1, (hb.cell (p := ⟨b1, o1, none⟩) l1).trans h.2.2⟩
theorem keepA2 {B : Nat} {w0 W : World} {X : Obj} {b0 o0 b1 o1 : Nat} {v0 v1 : Value} (hz : B ≤ w0.heap.size)
    (h : Below B w0 W ∧ W.cell? ⟨b0, o0, none⟩ = some v0 ∧ W.cell? ⟨b1, o1, none⟩ = some v1) :
    Below B w0 (W.alloc X) ∧ (W.alloc X).cell? ⟨b0, o0, none⟩ = some v0 ∧ (W.alloc X).cell? ⟨b1, o1, none⟩ = some v1 :=
  ⟨h.1.alloc (Nat.le_trans hz h.1.size) _, cell_alloc h.2.1, cell_alloc h.2.2⟩
theorem keepD2 {B : Nat} {w0 W : World} {X : Obj} {b0 o0 b1 o1 : Nat} {v0 v1 : Value} (hz : B ≤ w0.heap.size)
    (h : Below B w0 W.drew ∧ W.drew.cell? ⟨b0, o0, none⟩ = some v0 ∧ W.drew.cell? ⟨b1, o1, none⟩ = some v1) :
    Below B w0 (W.alloc X).drew ∧ (W.alloc X).drew.cell? ⟨b0, o0, none⟩ = some v0 ∧ (W.alloc X).drew.cell? ⟨b1, o1, none⟩ = some v1 :=
  ⟨below_alloc_drew (Nat.le_trans hz h.1.size) h.1, cell_alloc (W := W) h.2.1, cell_alloc (W := W) h.2.2⟩
theorem keepC3 {B : Nat} {w0 W w1 : World} {b0 o0 b1 o1 b2 o2 : Nat} {v0 v1 v2 : Value} (hz : B ≤ w0.heap.size)
    (h : Below B w0 W ∧ W.cell? ⟨b0, o0, none⟩ = some v0 ∧ W.cell? ⟨b1, o1, none⟩ = some v1 ∧ W.cell? ⟨b2, o2, none⟩ = some v2) (hb : Below W.heap.size W w1) :
    Below B w0 w1 ∧ w1.cell? ⟨b0, o0, none⟩ = some v0 ∧ w1.cell? ⟨b1, o1, none⟩ = some v1 ∧ w1.cell? ⟨b2, o2, none⟩ = some v2 :=
  ⟨h.1.trans (hb.mono (Nat.le_trans hz h.1.size)), cell_below h.2.1 hb, cell_below h.2.2.1 hb, cell_below h.2.2.2 hb⟩
theorem keepT3 {B : Nat} {w0 W w1 : World} {b0 o0 b1 o1 b2 o2 : Nat} {v0 v1 v2 : Value} (hb : Below B W w1) (l0 : b0 < B) (l1 : b1 < B) (l2 : b2 < B)
    (h : Below B w0 W ∧ W.cell? ⟨b0, o0, none⟩ = some v0 ∧ W.cell? ⟨b1, o1, none⟩ = some v1 ∧ W.cell? ⟨b2, o2, none⟩ = some v2) :
    Below B w0 w1 ∧ w1.cell? ⟨b0, o0, none⟩ = some v0 ∧ w1.cell? ⟨b1, o1, none⟩ = some v1 ∧ w1.cell? ⟨b2, o2, none⟩ = some v2 :=
  ⟨h.1.trans hb, (hb.cell (p := ⟨b0, o0, none⟩) l0).trans h.2.1, (hb.cell (p := ⟨b1, o1, none⟩) l1).trans h.2.2.1, (hb.cell (p := ⟨b2, o2, none⟩) l2).trans h.2.2.2⟩
theorem keepA3 {B : Nat} {w0 W : World} {X : Obj} {b0 o0 b1 o1 b2 o2 : Nat} {v0 v1 v2 : Value} (hz : B ≤ w0.heap.size)
    (h : Below B w0 W ∧ W.cell? ⟨b0, o0, none⟩ = some v0 ∧ W.cell? ⟨b1, o1, none⟩ = some v1 ∧ W.cell? ⟨b2, o2, none⟩ = some v2) :
    Below B w0 (W.alloc X) ∧ (W.alloc X).cell? ⟨b0, o0, none⟩ = some v0 ∧ (W.alloc X).cell? ⟨b1, o1, none⟩ = some v1 ∧ (W.alloc X).cell? ⟨b2, o2, none⟩ = some v2 :=
  ⟨h.1.alloc (Nat.le_trans hz h.1.size) _, cell_alloc h.2.1, cell_alloc h.2.2.1, cell_alloc h.2.2.2⟩
theorem keepD3 {B : Nat} {w0 W : World} {X : Obj} {b0 o0 b1 o1 b2 o2 : Nat} {v0 v1 v2 : Value} (hz : B ≤ w0.heap.size)
    (h : Below B w0 W.drew ∧ W.drew.cell? ⟨b0, o0, none⟩ = some v0 ∧ W.drew.cell? ⟨b1, o1, none⟩ = some v1 ∧ W.drew.cell? ⟨b2, o2, none⟩ = some v2) :
    Below B w0 (W.alloc X).drew ∧ (W.alloc X).drew.cell? ⟨b0, o0, none⟩ = some v0 ∧ (W.alloc X).drew.cell? ⟨b1, o1, none⟩ = some v1 ∧ (W.alloc X).drew.cell? ⟨b2, o2, none⟩ = some v2 :=
  ⟨below_alloc_drew (Nat.le_trans hz h.1.size) h.1, cell_alloc (W := W) h.2.1, cell_alloc (W := W) h.2.2.1, cell_alloc (W := W) h.2.2.2⟩
theorem keepC4 {B : Nat} {w0 W w1 : World} {b0 o0 b1 o1 b2 o2 b3 o3 : Nat} {v0 v1 v2 v3 : Value} (hz : B ≤ w0.heap.size)
    (h : Below B w0 W ∧ W.cell? ⟨b0, o0, none⟩ = some v0 ∧ W.cell? ⟨b1, o1, none⟩ = some v1 ∧ W.cell? ⟨b2, o2, none⟩ = some v2 ∧ W.cell? ⟨b3, o3, none⟩ = some v3) (hb : Below W.heap.size W w1) :
    Below B w0 w1 ∧ w1.cell? ⟨b0, o0, none⟩ = some v0 ∧ w1.cell? ⟨b1, o1, none⟩ = some v1 ∧ w1.cell? ⟨b2, o2, none⟩ = some v2 ∧ w1.cell? ⟨b3, o3, none⟩ = some v3 :=
  ⟨h.1.trans (hb.mono (Nat.le_trans hz h.1.size)), cell_below h.2.1 hb, cell_below h.2.2.1 hb, cell_below h.2.2.2.1 hb, cell_below h.2.2.2.2 hb⟩
theorem keepT4 {B : Nat} {w0 W w1 : World} {b0 o0 b1 o1 b2 o2 b3 o3 : Nat} {v0 v1 v2 v3 : Value} (hb : Below B W w1) (l0 : b0 < B) (l1 : b1 < B) (l2 : b2 < B) (l3 : b3 < B)
    (h : Below B w0 W ∧ W.cell? ⟨b0, o0, none⟩ = some v0 ∧ W.cell? ⟨b1, o1, none⟩ = some v1 ∧ W.cell? ⟨b2, o2, none⟩ = some v2 ∧ W.cell? ⟨b3, o3, none⟩ = some v3) :
    Below B w0 w1 ∧ w1.cell? ⟨b0, o0, none⟩ = some v0 ∧ w1.cell? ⟨b1, o1, none⟩ = some v1 ∧ w1.cell? ⟨b2, o2, none⟩ = some v2 ∧ w1.cell? ⟨b3, o3, none⟩ = some v3 :=
  ⟨h.1.trans hb, (hb.cell (p := ⟨b0, o0, none⟩) l0).trans h.2.1, (hb.cell (p := ⟨b1, o1, none⟩) l1).trans h.2.2.1, (hb.cell (p := ⟨b2, o2, none⟩) l2).trans h.2.2.2.1, (hb.cell (p := ⟨b3, o3, none⟩) l3).trans h.2.2.2.2⟩
theorem keepA4 {B : Nat} {w0 W : World} {X : Obj} {b0 o0 b1 o1 b2 o2 b3 o3 : Nat} {v0 v1 v2 v3 : Value} (hz : B ≤ w0.heap.size)
    (h : Below B w0 W ∧ W.cell? ⟨b0, o0, none⟩ = some v0 ∧ W.cell? ⟨b1, o1, none⟩ = some v1 ∧ W.cell? ⟨b2, o2, none⟩ = some v2 ∧ W.cell? ⟨b3, o3, none⟩ = some v3) :
    Below B w0 (W.alloc X) ∧ (W.alloc X).cell? ⟨b0, o0, none⟩ = some v0 ∧ (W.alloc X).cell? ⟨b1, o1, none⟩ = some v1 ∧ (W.alloc X).cell? ⟨b2, o2, none⟩ = some v2 ∧ (W.alloc X).cell? ⟨b3, o3, none⟩ = some v3 :=
  ⟨h.1.alloc (Nat.le_trans hz h.1.size) _, cell_alloc h.2.1, cell_alloc h.2.2.1, cell_alloc h.2.2.2.1, cell_alloc h.2.2.2.2⟩
theorem keepD4 {B : Nat} {w0 W : World} {X : Obj} {b0 o0 b1 o1 b2 o2 b3 o3 : Nat} {v0 v1 v2 v3 : Value} (hz : B ≤ w0.heap.size)
    (h : Below B w0 W.drew ∧ W.drew.cell? ⟨b0, o0, none⟩ = some v0 ∧ W.drew.cell? ⟨b1, o1, none⟩ = some v1 ∧ W.drew.cell? ⟨b2, o2, none⟩ = some v2 ∧ W.drew.cell? ⟨b3, o3, none⟩ = some v3) :
    Below B w0 (W.alloc X).drew ∧ (W.alloc X).drew.cell? ⟨b0, o0, none⟩ = some v0 ∧ (W.alloc X).drew.cell? ⟨b1, o1, none⟩ = some v1 ∧ (W.alloc X).drew.cell? ⟨b2, o2, none⟩ = some v2 ∧ (W.alloc X).drew.cell? ⟨b3, o3, none⟩ = some v3 :=
  ⟨below_alloc_drew (Nat.le_trans hz h.1.size) h.1, cell_alloc (W := W) h.2.1, cell_alloc (W := W) h.2.2.1, cell_alloc (W := W) h.2.2.2.1, cell_alloc (W := W) h.2.2.2.2⟩
theorem keepC5 {B : Nat} {w0 W w1 : World} {b0 o0 b1 o1 b2 o2 b3 o3 b4 o4 : Nat} {v0 v1 v2 v3 v4 : Value} (hz : B ≤ w0.heap.size)
    (h : Below B w0 W ∧ W.cell? ⟨b0, o0, none⟩ = some v0 ∧ W.cell? ⟨b1, o1, none⟩ = some v1 ∧ W.cell? ⟨b2, o2, none⟩ = some v2 ∧ W.cell? ⟨b3, o3, none⟩ = some v3 ∧ W.cell? ⟨b4, o4, none⟩ = some v4) (hb : Below W.heap.size W w1) :
    Below B w0 w1 ∧ w1.cell? ⟨b0, o0, none⟩ = some v0 ∧ w1.cell? ⟨b1, o1, none⟩ = some v1 ∧ w1.cell? ⟨b2, o2, none⟩ = some v2 ∧ w1.cell? ⟨b3, o3, none⟩ = some v3 ∧ w1.cell? ⟨b4, o4, none⟩ = some v4 :=
  ⟨h.1.trans (hb.mono (Nat.le_trans hz h.1.size)), cell_below h.2.1 hb, cell_below h.2.2.1 hb, cell_below h.2.2.2.1 hb, cell_below h.2.2.2.2.1 hb, cell_below h.2.2.2.2.2 hb⟩
theorem keepT5 {B : Nat} {w0 W w1 : World} {b0 o0 b1 o1 b2 o2 b3 o3 b4 o4 : Nat} {v0 v1 v2 v3 v4 : Value} (hb : Below B W w1) (l0 : b0 < B) (l1 : b1 < B) (l2 : b2 < B) (l3 : b3 < B) (l4 : b4 < B)
    (h : Below B w0 W ∧ W.cell? ⟨b0, o0, none⟩ = some v0 ∧ W.cell? ⟨b1, o1, none⟩ = some v1 ∧ W.cell? ⟨b2, o2, none⟩ = some v2 ∧ W.cell? ⟨b3, o3, none⟩ = some v3 ∧ W.cell? ⟨b4, o4, none⟩ = some v4) :
    Below B w0 w1 ∧ w1.cell? ⟨b0, o0, none⟩ = some v0 ∧ w1.cell? ⟨b1, o1, none⟩ = some v1 ∧ w1.cell? ⟨b2, o2, none⟩ = some v2 ∧ w1.cell? ⟨b3, o3, none⟩ = some v3 ∧ w1.cell? ⟨b4, o4, none⟩ = some v4 :=
  ⟨h.1.trans hb, (hb.cell (p := ⟨b0, o0, none⟩) l0).trans h.2.1, (hb.cell (p := ⟨b1, o1, none⟩) l1).trans h.2.2.1, (hb.cell (p := ⟨b2, o2, none⟩) l2).trans h.2.2.2.1, (hb.cell (p := ⟨b3, o3, none⟩) l3).trans h.2.2.2.2.1, (hb.cell (p := ⟨b4, o4, none⟩) l4).trans h.2.2.2.2.2⟩
theorem keepA5 {B : Nat} {w0 W : World} {X : Obj} {b0 o0 b1 o1 b2 o2 b3 o3 b4 o4 : Nat} {v0 v1 v2 v3 v4 : Value} (hz : B ≤ w0.heap.size)
    (h : Below B w0 W ∧ W.cell? ⟨b0, o0, none⟩ = some v0 ∧ W.cell? ⟨b1, o1, none⟩ = some v1 ∧ W.cell? ⟨b2, o2, none⟩ = some v2 ∧ W.cell? ⟨b3, o3, none⟩ = some v3 ∧ W.cell? ⟨b4, o4, none⟩ = some v4) :
    Below B w0 (W.alloc X) ∧ (W.alloc X).cell? ⟨b0, o0, none⟩ = some v0 ∧ (W.alloc X).cell? ⟨b1, o1, none⟩ = some v1 ∧ (W.alloc X).cell? ⟨b2, o2, none⟩ = some v2 ∧ (W.alloc X).cell? ⟨b3, o3, none⟩ = some v3 ∧ (W.alloc X).cell? ⟨b4, o4, none⟩ = some v4 :=
  ⟨h.1.alloc (Nat.le_trans hz h.1.size) _, cell_alloc h.2.1, cell_alloc h.2.2.1, cell_alloc h.2.2.2.1, cell_alloc h.2.2.2.2.1, cell_alloc h.2.2.2.2.2⟩
theorem keepD5 {B : Nat} {w0 W : World} {X : Obj} {b0 o0 b1 o1 b2 o2 b3 o3 b4 o4 : Nat} {v0 v1 v2 v3 v4 : Value} (hz : B ≤ w0.heap.size)
    (h : Below B w0 W.drew ∧ W.drew.cell? ⟨b0, o0, none⟩ = some v0 ∧ W.drew.cell? ⟨b1, o1, none⟩ = some v1 ∧ W.drew.cell? ⟨b2, o2, none⟩ = some v2 ∧ W.drew.cell? ⟨b3, o3, none⟩ = some v3 ∧ W.drew.cell? ⟨b4, o4, none⟩ = some v4) :
    Below B w0 (W.alloc X).drew ∧ (W.alloc X).drew.cell? ⟨b0, o0, none⟩ = some v0 ∧ (W.alloc X).drew.cell? ⟨b1, o1, none⟩ = some v1 ∧ (W.alloc X).drew.cell? ⟨b2, o2, none⟩ = some v2 ∧ (W.alloc X).drew.cell? ⟨b3, o3, none⟩ = some v3 ∧ (W.alloc X).drew.cell? ⟨b4, o4, none⟩ = some v4 :=
  ⟨below_alloc_drew (Nat.le_trans hz h.1.size) h.1, cell_alloc (W := W) h.2.1, cell_alloc (W := W) h.2.2.1, cell_alloc (W := W) h.2.2.2.1, cell_alloc (W := W) h.2.2.2.2.1, cell_alloc (W := W) h.2.2.2.2.2⟩
theorem keepC6 {B : Nat} {w0 W w1 : World} {b0 o0 b1 o1 b2 o2 b3 o3 b4 o4 b5 o5 : Nat} {v0 v1 v2 v3 v4 v5 : Value} (hz : B ≤ w0.heap.size)
    (h : Below B w0 W ∧ W.cell? ⟨b0, o0, none⟩ = some v0 ∧ W.cell? ⟨b1, o1, none⟩ = some v1 ∧ W.cell? ⟨b2, o2, none⟩ = some v2 ∧ W.cell? ⟨b3, o3, none⟩ = some v3 ∧ W.cell? ⟨b4, o4, none⟩ = some v4 ∧ W.cell? ⟨b5, o5, none⟩ = some v5) (hb : Below W.heap.size W w1) :
    Below B w0 w1 ∧ w1.cell? ⟨b0, o0, none⟩ = some v0 ∧ w1.cell? ⟨b1, o1, none⟩ = some v1 ∧ w1.cell? ⟨b2, o2, none⟩ = some v2 ∧ w1.cell? ⟨b3, o3, none⟩ = some v3 ∧ w1.cell? ⟨b4, o4, none⟩ = some v4 ∧ w1.cell? ⟨b5, o5, none⟩ = some v5 :=
  ⟨h.1.trans (hb.mono (Nat.le_trans hz h.1.size)), cell_below h.2.1 hb, cell_below h.2.2.1 hb, cell_below h.2.2.2.1 hb, cell_below h.2.2.2.2.1 hb, cell_below h.2.2.2.2.2.1 hb, cell_below h.2.2.2.2.2.2 hb⟩
theorem keepT6 {B : Nat} {w0 W w1 : World} {b0 o0 b1 o1 b2 o2 b3 o3 b4 o4 b5 o5 : Nat} {v0 v1 v2 v3 v4 v5 : Value} (hb : Below B W w1) (l0 : b0 < B) (l1 : b1 < B) (l2 : b2 < B) (l3 : b3 < B) (l4 : b4 < B) (l5 : b5 < B)
    (h : Below B w0 W ∧ W.cell? ⟨b0, o0, none⟩ = some v0 ∧ W.cell? ⟨b1, o1, none⟩ = some v1 ∧ W.cell? ⟨b2, o2, none⟩ = some v2 ∧ W.cell? ⟨b3, o3, none⟩ = some v3 ∧ W.cell? ⟨b4, o4, none⟩ = some v4 ∧ W.cell? ⟨b5, o5, none⟩ = some v5) :
    Below B w0 w1 ∧ w1.cell? ⟨b0, o0, none⟩ = some v0 ∧ w1.cell? ⟨b1, o1, none⟩ = some v1 ∧ w1.cell? ⟨b2, o2, none⟩ = some v2 ∧ w1.cell? ⟨b3, o3, none⟩ = some v3 ∧ w1.cell? ⟨b4, o4, none⟩ = some v4 ∧ w1.cell? ⟨b5, o5, none⟩ = some v5 :=
  ⟨h.1.trans hb, (hb.cell (p := ⟨b0, o0, none⟩) l0).trans h.2.1, (hb.cell (p := ⟨b1, o1, none⟩) l1).trans h.2.2.1, (hb.cell (p := ⟨b2, o2, none⟩) l2).trans h.2.2.2.1, (hb.cell (p := ⟨b3, o3, none⟩) l3).trans h.2.2.2.2.1, (hb.cell (p := ⟨b4, o4, none⟩) l4).trans h.2.2.2.2.2.1, (hb.cell (p := ⟨b5, o5, none⟩) l5).trans h.2.2.2.2.2.2⟩
theorem keepA6 {B : Nat} {w0 W : World} {X : Obj} {b0 o0 b1 o1 b2 o2 b3 o3 b4 o4 b5 o5 : Nat} {v0 v1 v2 v3 v4 v5 : Value} (hz : B ≤ w0.heap.size)
    (h : Below B w0 W ∧ W.cell? ⟨b0, o0, none⟩ = some v0 ∧ W.cell? ⟨b1, o1, none⟩ = some v1 ∧ W.cell? ⟨b2, o2, none⟩ = some v2 ∧ W.cell? ⟨b3, o3, none⟩ = some v3 ∧ W.cell? ⟨b4, o4, none⟩ = some v4 ∧ W.cell? ⟨b5, o5, none⟩ = some v5) :
    Below B w0 (W.alloc X) ∧ (W.alloc X).cell? ⟨b0, o0, none⟩ = some v0 ∧ (W.alloc X).cell? ⟨b1, o1, none⟩ = some v1 ∧ (W.alloc X).cell? ⟨b2, o2, none⟩ = some v2 ∧ (W.alloc X).cell? ⟨b3, o3, none⟩ = some v3 ∧ (W.alloc X).cell? ⟨b4, o4, none⟩ = some v4 ∧ (W.alloc X).cell? ⟨b5, o5, none⟩ = some v5 :=
  ⟨h.1.alloc (Nat.le_trans hz h.1.size) _, cell_alloc h.2.1, cell_alloc h.2.2.1, cell_alloc h.2.2.2.1, cell_alloc h.2.2.2.2.1, cell_alloc h.2.2.2.2.2.1, cell_alloc h.2.2.2.2.2.2⟩
theorem keepD6 {B : Nat} {w0 W : World} {X : Obj} {b0 o0 b1 o1 b2 o2 b3 o3 b4 o4 b5 o5 : Nat} {v0 v1 v2 v3 v4 v5 : Value} (hz : B ≤ w0.heap.size)
    (h : Below B w0 W.drew ∧ W.drew.cell? ⟨b0, o0, none⟩ = some v0 ∧ W.drew.cell? ⟨b1, o1, none⟩ = some v1 ∧ W.drew.cell? ⟨b2, o2, none⟩ = some v2 ∧ W.drew.cell? ⟨b3, o3, none⟩ = some v3 ∧ W.drew.cell? ⟨b4, o4, none⟩ = some v4 ∧ W.drew.cell? ⟨b5, o5, none⟩ = some v5) :
    Below B w0 (W.alloc X).drew ∧ (W.alloc X).drew.cell? ⟨b0, o0, none⟩ = some v0 ∧ (W.alloc X).drew.cell? ⟨b1, o1, none⟩ = some v1 ∧ (W.alloc X).drew.cell? ⟨b2, o2, none⟩ = some v2 ∧ (W.alloc X).drew.cell? ⟨b3, o3, none⟩ = some v3 ∧ (W.alloc X).drew.cell? ⟨b4, o4, none⟩ = some v4 ∧ (W.alloc X).drew.cell? ⟨b5, o5, none⟩ = some v5 :=
  ⟨below_alloc_drew (Nat.le_trans hz h.1.size) h.1, cell_alloc (W := W) h.2.1, cell_alloc (W := W) h.2.2.1, cell_alloc (W := W) h.2.2.2.1, cell_alloc (W := W) h.2.2.2.2.1, cell_alloc (W := W) h.2.2.2.2.2.1, cell_alloc (W := W) h.2.2.2.2.2.2⟩
theorem keepC8 {B : Nat} {w0 W w1 : World} {b0 o0 b1 o1 b2 o2 b3 o3 b4 o4 b5 o5 b6 o6 b7 o7 : Nat} {v0 v1 v2 v3 v4 v5 v6 v7 : Value} (hz : B ≤ w0.heap.size)
    (h : Below B w0 W ∧ W.cell? ⟨b0, o0, none⟩ = some v0 ∧ W.cell? ⟨b1, o1, none⟩ = some v1 ∧ W.cell? ⟨b2, o2, none⟩ = some v2 ∧ W.cell? ⟨b3, o3, none⟩ = some v3 ∧ W.cell? ⟨b4, o4, none⟩ = some v4 ∧ W.cell? ⟨b5, o5, none⟩ = some v5 ∧ W.cell? ⟨b6, o6, none⟩ = some v6 ∧ W.cell? ⟨b7, o7, none⟩ = some v7) (hb : Below W.heap.size W w1) :
    Below B w0 w1 ∧ w1.cell? ⟨b0, o0, none⟩ = some v0 ∧ w1.cell? ⟨b1, o1, none⟩ = some v1 ∧ w1.cell? ⟨b2, o2, none⟩ = some v2 ∧ w1.cell? ⟨b3, o3, none⟩ = some v3 ∧ w1.cell? ⟨b4, o4, none⟩ = some v4 ∧ w1.cell? ⟨b5, o5, none⟩ = some v5 ∧ w1.cell? ⟨b6, o6, none⟩ = some v6 ∧ w1.cell? ⟨b7, o7, none⟩ = some v7 :=
  ⟨h.1.trans (hb.mono (Nat.le_trans hz h.1.size)), cell_below h.2.1 hb, cell_below h.2.2.1 hb, cell_below h.2.2.2.1 hb, cell_below h.2.2.2.2.1 hb, cell_below h.2.2.2.2.2.1 hb, cell_below h.2.2.2.2.2.2.1 hb, cell_below h.2.2.2.2.2.2.2.1 hb, cell_below h.2.2.2.2.2.2.2.2 hb⟩
theorem keepT8 {B : Nat} {w0 W w1 : World} {b0 o0 b1 o1 b2 o2 b3 o3 b4 o4 b5 o5 b6 o6 b7 o7 : Nat} {v0 v1 v2 v3 v4 v5 v6 v7 : Value} (hb : Below B W w1) (l0 : b0 < B) (l1 : b1 < B) (l2 : b2 < B) (l3 : b3 < B) (l4 : b4 < B) (l5 : b5 < B) (l6 : b6 < B) (l7 : b7 < B)
    (h : Below B w0 W ∧ W.cell? ⟨b0, o0, none⟩ = some v0 ∧ W.cell? ⟨b1, o1, none⟩ = some v1 ∧ W.cell? ⟨b2, o2, none⟩ = some v2 ∧ W.cell? ⟨b3, o3, none⟩ = some v3 ∧ W.cell? ⟨b4, o4, none⟩ = some v4 ∧ W.cell? ⟨b5, o5, none⟩ = some v5 ∧ W.cell? ⟨b6, o6, none⟩ = some v6 ∧ W.cell? ⟨b7, o7, none⟩ = some v7) :
    Below B w0 w1 ∧ w1.cell? ⟨b0, o0, none⟩ = some v0 ∧ w1.cell? ⟨b1, o1, none⟩ = some v1 ∧ w1.cell? ⟨b2, o2, none⟩ = some v2 ∧ w1.cell? ⟨b3, o3, none⟩ = some v3 ∧ w1.cell? ⟨b4, o4, none⟩ = some v4 ∧ w1.cell? ⟨b5, o5, none⟩ = some v5 ∧ w1.cell? ⟨b6, o6, none⟩ = some v6 ∧ w1.cell? ⟨b7, o7, none⟩ = some v7 :=
  ⟨h.1.trans hb, (hb.cell (p := ⟨b0, o0, none⟩) l0).trans h.2.1, (hb.cell (p := ⟨b1, o1, none⟩) l1).trans h.2.2.1, (hb.cell (p := ⟨b2, o2, none⟩) l2).trans h.2.2.2.1, (hb.cell (p := ⟨b3, o3, none⟩) l3).trans h.2.2.2.2.1, (hb.cell (p := ⟨b4, o4, none⟩) l4).trans h.2.2.2.2.2.1, (hb.cell (p := ⟨b5, o5, none⟩) l5).trans h.2.2.2.2.2.2.1, (hb.cell (p := ⟨b6, o6, none⟩) l6).trans h.2.2.2.2.2.2.2.1, (hb.cell (p := ⟨b7, o7, none⟩) l7).trans h.2.2.2.2.2.2.2.2⟩
theorem keepA8 {B : Nat} {w0 W : World} {X : Obj} {b0 o0 b1 o1 b2 o2 b3 o3 b4 o4 b5 o5 b6 o6 b7 o7 : Nat} {v0 v1 v2 v3 v4 v5 v6 v7 : Value} (hz : B ≤ w0.heap.size)
    (h : Below B w0 W ∧ W.cell? ⟨b0, o0, none⟩ = some v0 ∧ W.cell? ⟨b1, o1, none⟩ = some v1 ∧ W.cell? ⟨b2, o2, none⟩ = some v2 ∧ W.cell? ⟨b3, o3, none⟩ = some v3 ∧ W.cell? ⟨b4, o4, none⟩ = some v4 ∧ W.cell? ⟨b5, o5, none⟩ = some v5 ∧ W.cell? ⟨b6, o6, none⟩ = some v6 ∧ W.cell? ⟨b7, o7, none⟩ = some v7) :
    Below B w0 (W.alloc X) ∧ (W.alloc X).cell? ⟨b0, o0, none⟩ = some v0 ∧ (W.alloc X).cell? ⟨b1, o1, none⟩ = some v1 ∧ (W.alloc X).cell? ⟨b2, o2, none⟩ = some v2 ∧ (W.alloc X).cell? ⟨b3, o3, none⟩ = some v3 ∧ (W.alloc X).cell? ⟨b4, o4, none⟩ = some v4 ∧ (W.alloc X).cell? ⟨b5, o5, none⟩ = some v5 ∧ (W.alloc X).cell? ⟨b6, o6, none⟩ = some v6 ∧ (W.alloc X).cell? ⟨b7, o7, none⟩ = some v7 :=
  ⟨h.1.alloc (Nat.le_trans hz h.1.size) _, cell_alloc h.2.1, cell_alloc h.2.2.1, cell_alloc h.2.2.2.1, cell_alloc h.2.2.2.2.1, cell_alloc h.2.2.2.2.2.1, cell_alloc h.2.2.2.2.2.2.1, cell_alloc h.2.2.2.2.2.2.2.1, cell_alloc h.2.2.2.2.2.2.2.2⟩
theorem keepD8 {B : Nat} {w0 W : World} {X : Obj} {b0 o0 b1 o1 b2 o2 b3 o3 b4 o4 b5 o5 b6 o6 b7 o7 : Nat} {v0 v1 v2 v3 v4 v5 v6 v7 : Value} (hz : B ≤ w0.heap.size)
    (h : Below B w0 W.drew ∧ W.drew.cell? ⟨b0, o0, none⟩ = some v0 ∧ W.drew.cell? ⟨b1, o1, none⟩ = some v1 ∧ W.drew.cell? ⟨b2, o2, none⟩ = some v2 ∧ W.drew.cell? ⟨b3, o3, none⟩ = some v3 ∧ W.drew.cell? ⟨b4, o4, none⟩ = some v4 ∧ W.drew.cell? ⟨b5, o5, none⟩ = some v5 ∧ W.drew.cell? ⟨b6, o6, none⟩ = some v6 ∧ W.drew.cell? ⟨b7, o7, none⟩ = some v7) :
    Below B w0 (W.alloc X).drew ∧ (W.alloc X).drew.cell? ⟨b0, o0, none⟩ = some v0 ∧ (W.alloc X).drew.cell? ⟨b1, o1, none⟩ = some v1 ∧ (W.alloc X).drew.cell? ⟨b2, o2, none⟩ = some v2 ∧ (W.alloc X).drew.cell? ⟨b3, o3, none⟩ = some v3 ∧ (W.alloc X).drew.cell? ⟨b4, o4, none⟩ = some v4 ∧ (W.alloc X).drew.cell? ⟨b5, o5, none⟩ = some v5 ∧ (W.alloc X).drew.cell? ⟨b6, o6, none⟩ = some v6 ∧ (W.alloc X).drew.cell? ⟨b7, o7, none⟩ = some v7 :=
  ⟨below_alloc_drew (Nat.le_trans hz h.1.size) h.1, cell_alloc (W := W) h.2.1, cell_alloc (W := W) h.2.2.1, cell_alloc (W := W) h.2.2.2.1, cell_alloc (W := W) h.2.2.2.2.1, cell_alloc (W := W) h.2.2.2.2.2.1, cell_alloc (W := W) h.2.2.2.2.2.2.1, cell_alloc (W := W) h.2.2.2.2.2.2.2.1, cell_alloc (W := W) h.2.2.2.2.2.2.2.2⟩
theorem keepC9 {B : Nat} {w0 W w1 : World} {b0 o0 b1 o1 b2 o2 b3 o3 b4 o4 b5 o5 b6 o6 b7 o7 b8 o8 : Nat} {v0 v1 v2 v3 v4 v5 v6 v7 v8 : Value} (hz : B ≤ w0.heap.size)
    (h : Below B w0 W ∧ W.cell? ⟨b0, o0, none⟩ = some v0 ∧ W.cell? ⟨b1, o1, none⟩ = some v1 ∧ W.cell? ⟨b2, o2, none⟩ = some v2 ∧ W.cell? ⟨b3, o3, none⟩ = some v3 ∧ W.cell? ⟨b4, o4, none⟩ = some v4 ∧ W.cell? ⟨b5, o5, none⟩ = some v5 ∧ W.cell? ⟨b6, o6, none⟩ = some v6 ∧ W.cell? ⟨b7, o7, none⟩ = some v7 ∧ W.cell? ⟨b8, o8, none⟩ = some v8) (hb : Below W.heap.size W w1) :
    Below B w0 w1 ∧ w1.cell? ⟨b0, o0, none⟩ = some v0 ∧ w1.cell? ⟨b1, o1, none⟩ = some v1 ∧ w1.cell? ⟨b2, o2, none⟩ = some v2 ∧ w1.cell? ⟨b3, o3, none⟩ = some v3 ∧ w1.cell? ⟨b4, o4, none⟩ = some v4 ∧ w1.cell? ⟨b5, o5, none⟩ = some v5 ∧ w1.cell? ⟨b6, o6, none⟩ = some v6 ∧ w1.cell? ⟨b7, o7, none⟩ = some v7 ∧ w1.cell? ⟨b8, o8, none⟩ = some v8 :=
  ⟨h.1.trans (hb.mono (Nat.le_trans hz h.1.size)), cell_below h.2.1 hb, cell_below h.2.2.1 hb, cell_below h.2.2.2.1 hb, cell_below h.2.2.2.2.1 hb, cell_below h.2.2.2.2.2.1 hb, cell_below h.2.2.2.2.2.2.1 hb, cell_below h.2.2.2.2.2.2.2.1 hb, cell_below h.2.2.2.2.2.2.2.2.1 hb, cell_below h.2.2.2.2.2.2.2.2.2 hb⟩
theorem keepT9 {B : Nat} {w0 W w1 : World} {b0 o0 b1 o1 b2 o2 b3 o3 b4 o4 b5 o5 b6 o6 b7 o7 b8 o8 : Nat} {v0 v1 v2 v3 v4 v5 v6 v7 v8 : Value} (hb : Below B W w1) (l0 : b0 < B) (l1 : b1 < B) (l2 : b2 < B) (l3 : b3 < B) (l4 : b4 < B) (l5 : b5 < B) (l6 : b6 < B) (l7 : b7 < B) (l8 : b8 < B)
    (h : Below B w0 W ∧ W.cell? ⟨b0, o0, none⟩ = some v0 ∧ W.cell? ⟨b1, o1, none⟩ = some v1 ∧ W.cell? ⟨b2, o2, none⟩ = some v2 ∧ W.cell? ⟨b3, o3, none⟩ = some v3 ∧ W.cell? ⟨b4, o4, none⟩ = some v4 ∧ W.cell? ⟨b5, o5, none⟩ = some v5 ∧ W.cell? ⟨b6, o6, none⟩ = some v6 ∧ W.cell? ⟨b7, o7, none⟩ = some v7 ∧ W.cell? ⟨b8, o8, none⟩ = some v8) :
    Below B w0 w1 ∧ w1.cell? ⟨b0, o0, none⟩ = some v0 ∧ w1.cell? ⟨b1, o1, none⟩ = some v1 ∧ w1.cell? ⟨b2, o2, none⟩ = some v2 ∧ w1.cell? ⟨b3, o3, none⟩ = some v3 ∧ w1.cell? ⟨b4, o4, none⟩ = some v4 ∧ w1.cell? ⟨b5, o5, none⟩ = some v5 ∧ w1.cell? ⟨b6, o6, none⟩ = some v6 ∧ w1.cell? ⟨b7, o7, none⟩ = some v7 ∧ w1.cell? ⟨b8, o8, none⟩ = some v8 :=
  ⟨h.1.trans hb, (hb.cell (p := ⟨b0, o0, none⟩) l0).trans h.2.1, (hb.cell (p := ⟨b1, o1, none⟩) l1).trans h.2.2.1, (hb.cell (p := ⟨b2, o2, none⟩) l2).trans h.2.2.2.1, (hb.cell (p := ⟨b3, o3, none⟩) l3).trans h.2.2.2.2.1, (hb.cell (p := ⟨b4, o4, none⟩) l4).trans h.2.2.2.2.2.1, (hb.cell (p := ⟨b5, o5, none⟩) l5).trans h.2.2.2.2.2.2.1, (hb.cell (p := ⟨b6, o6, none⟩) l6).trans h.2.2.2.2.2.2.2.1, (hb.cell (p := ⟨b7, o7, none⟩) l7).trans h.2.2.2.2.2.2.2.2.1, (hb.cell (p := ⟨b8, o8, none⟩) l8).trans h.2.2.2.2.2.2.2.2.2⟩
theorem keepA9 {B : Nat} {w0 W : World} {X : Obj} {b0 o0 b1 o1 b2 o2 b3 o3 b4 o4 b5 o5 b6 o6 b7 o7 b8 o8 : Nat} {v0 v1 v2 v3 v4 v5 v6 v7 v8 : Value} (hz : B ≤ w0.heap.size)
    (h : Below B w0 W ∧ W.cell? ⟨b0, o0, none⟩ = some v0 ∧ W.cell? ⟨b1, o1, none⟩ = some v1 ∧ W.cell? ⟨b2, o2, none⟩ = some v2 ∧ W.cell? ⟨b3, o3, none⟩ = some v3 ∧ W.cell? ⟨b4, o4, none⟩ = some v4 ∧ W.cell? ⟨b5, o5, none⟩ = some v5 ∧ W.cell? ⟨b6, o6, none⟩ = some v6 ∧ W.cell? ⟨b7, o7, none⟩ = some v7 ∧ W.cell? ⟨b8, o8, none⟩ = some v8) :
    Below B w0 (W.alloc X) ∧ (W.alloc X).cell? ⟨b0, o0, none⟩ = some v0 ∧ (W.alloc X).cell? ⟨b1, o1, none⟩ = some v1 ∧ (W.alloc X).cell? ⟨b2, o2, none⟩ = some v2 ∧ (W.alloc X).cell? ⟨b3, o3, none⟩ = some v3 ∧ (W.alloc X).cell? ⟨b4, o4, none⟩ = some v4 ∧ (W.alloc X).cell? ⟨b5, o5, none⟩ = some v5 ∧ (W.alloc X).cell? ⟨b6, o6, none⟩ = some v6 ∧ (W.alloc X).cell? ⟨b7, o7, none⟩ = some v7 ∧ (W.alloc X).cell? ⟨b8, o8, none⟩ = some v8 :=
  ⟨h.1.alloc (Nat.le_trans hz h.1.size) _, cell_alloc h.2.1, cell_alloc h.2.2.1, cell_alloc h.2.2.2.1, cell_alloc h.2.2.2.2.1, cell_alloc h.2.2.2.2.2.1, cell_alloc h.2.2.2.2.2.2.1, cell_alloc h.2.2.2.2.2.2.2.1, cell_alloc h.2.2.2.2.2.2.2.2.1, cell_alloc h.2.2.2.2.2.2.2.2.2⟩
theorem keepD9 {B : Nat} {w0 W : World} {X : Obj} {b0 o0 b1 o1 b2 o2 b3 o3 b4 o4 b5 o5 b6 o6 b7 o7 b8 o8 : Nat} {v0 v1 v2 v3 v4 v5 v6 v7 v8 : Value} (hz : B ≤ w0.heap.size)
    (h : Below B w0 W.drew ∧ W.drew.cell? ⟨b0, o0, none⟩ = some v0 ∧ W.drew.cell? ⟨b1, o1, none⟩ = some v1 ∧ W.drew.cell? ⟨b2, o2, none⟩ = some v2 ∧ W.drew.cell? ⟨b3, o3, none⟩ = some v3 ∧ W.drew.cell? ⟨b4, o4, none⟩ = some v4 ∧ W.drew.cell? ⟨b5, o5, none⟩ = some v5 ∧ W.drew.cell? ⟨b6, o6, none⟩ = some v6 ∧ W.drew.cell? ⟨b7, o7, none⟩ = some v7 ∧ W.drew.cell? ⟨b8, o8, none⟩ = some v8) :
    Below B w0 (W.alloc X).drew ∧ (W.alloc X).drew.cell? ⟨b0, o0, none⟩ = some v0 ∧ (W.alloc X).drew.cell? ⟨b1, o1, none⟩ = some v1 ∧ (W.alloc X).drew.cell? ⟨b2, o2, none⟩ = some v2 ∧ (W.alloc X).drew.cell? ⟨b3, o3, none⟩ = some v3 ∧ (W.alloc X).drew.cell? ⟨b4, o4, none⟩ = some v4 ∧ (W.alloc X).drew.cell? ⟨b5, o5, none⟩ = some v5 ∧ (W.alloc X).drew.cell? ⟨b6, o6, none⟩ = some v6 ∧ (W.alloc X).drew.cell? ⟨b7, o7, none⟩ = some v7 ∧ (W.alloc X).drew.cell? ⟨b8, o8, none⟩ = some v8 :=
  ⟨below_alloc_drew (Nat.le_trans hz h.1.size) h.1, cell_alloc (W := W) h.2.1, cell_alloc (W := W) h.2.2.1, cell_alloc (W := W) h.2.2.2.1, cell_alloc (W := W) h.2.2.2.2.1, cell_alloc (W := W) h.2.2.2.2.2.1, cell_alloc (W := W) h.2.2.2.2.2.2.1, cell_alloc (W := W) h.2.2.2.2.2.2.2.1, cell_alloc (W := W) h.2.2.2.2.2.2.2.2.1, cell_alloc (W := W) h.2.2.2.2.2.2.2.2.2⟩
theorem keepC10 {B : Nat} {w0 W w1 : World} {b0 o0 b1 o1 b2 o2 b3 o3 b4 o4 b5 o5 b6 o6 b7 o7 b8 o8 b9 o9 : Nat} {v0 v1 v2 v3 v4 v5 v6 v7 v8 v9 : Value} (hz : B ≤ w0.heap.size)
    (h : Below B w0 W ∧ W.cell? ⟨b0, o0, none⟩ = some v0 ∧ W.cell? ⟨b1, o1, none⟩ = some v1 ∧ W.cell? ⟨b2, o2, none⟩ = some v2 ∧ W.cell? ⟨b3, o3, none⟩ = some v3 ∧ W.cell? ⟨b4, o4, none⟩ = some v4 ∧ W.cell? ⟨b5, o5, none⟩ = some v5 ∧ W.cell? ⟨b6, o6, none⟩ = some v6 ∧ W.cell? ⟨b7, o7, none⟩ = some v7 ∧ W.cell? ⟨b8, o8, none⟩ = some v8 ∧ W.cell? ⟨b9, o9, none⟩ = some v9) (hb : Below W.heap.size W w1) :
    Below B w0 w1 ∧ w1.cell? ⟨b0, o0, none⟩ = some v0 ∧ w1.cell? ⟨b1, o1, none⟩ = some v1 ∧ w1.cell? ⟨b2, o2, none⟩ = some v2 ∧ w1.cell? ⟨b3, o3, none⟩ = some v3 ∧ w1.cell? ⟨b4, o4, none⟩ = some v4 ∧ w1.cell? ⟨b5, o5, none⟩ = some v5 ∧ w1.cell? ⟨b6, o6, none⟩ = some v6 ∧ w1.cell? ⟨b7, o7, none⟩ = some v7 ∧ w1.cell? ⟨b8, o8, none⟩ = some v8 ∧ w1.cell? ⟨b9, o9, none⟩ = some v9 :=
  ⟨h.1.trans (hb.mono (Nat.le_trans hz h.1.size)), cell_below h.2.1 hb, cell_below h.2.2.1 hb, cell_below h.2.2.2.1 hb, cell_below h.2.2.2.2.1 hb, cell_below h.2.2.2.2.2.1 hb, cell_below h.2.2.2.2.2.2.1 hb, cell_below h.2.2.2.2.2.2.2.1 hb, cell_below h.2.2.2.2.2.2.2.2.1 hb, cell_below h.2.2.2.2.2.2.2.2.2.1 hb, cell_below h.2.2.2.2.2.2.2.2.2.2 hb⟩
theorem keepT10 {B : Nat} {w0 W w1 : World} {b0 o0 b1 o1 b2 o2 b3 o3 b4 o4 b5 o5 b6 o6 b7 o7 b8 o8 b9 o9 : Nat} {v0 v1 v2 v3 v4 v5 v6 v7 v8 v9 : Value} (hb : Below B W w1) (l0 : b0 < B) (l1 : b1 < B) (l2 : b2 < B) (l3 : b3 < B) (l4 : b4 < B) (l5 : b5 < B) (l6 : b6 < B) (l7 : b7 < B) (l8 : b8 < B) (l9 : b9 < B)
    (h : Below B w0 W ∧ W.cell? ⟨b0, o0, none⟩ = some v0 ∧ W.cell? ⟨b1, o1, none⟩ = some v1 ∧ W.cell? ⟨b2, o2, none⟩ = some v2 ∧ W.cell? ⟨b3, o3, none⟩ = some v3 ∧ W.cell? ⟨b4, o4, none⟩ = some v4 ∧ W.cell? ⟨b5, o5, none⟩ = some v5 ∧ W.cell? ⟨b6, o6, none⟩ = some v6 ∧ W.cell? ⟨b7, o7, none⟩ = some v7 ∧ W.cell? ⟨b8, o8, none⟩ = some v8 ∧ W.cell? ⟨b9, o9, none⟩ = some v9) :
    Below B w0 w1 ∧ w1.cell? ⟨b0, o0, none⟩ = some v0 ∧ w1.cell? ⟨b1, o1, none⟩ = some v1 ∧ w1.cell? ⟨b2, o2, none⟩ = some v2 ∧ w1.cell? ⟨b3, o3, none⟩ = some v3 ∧ w1.cell? ⟨b4, o4, none⟩ = some v4 ∧ w1.cell? ⟨b5, o5, none⟩ = some v5 ∧ w1.cell? ⟨b6, o6, none⟩ = some v6 ∧ w1.cell? ⟨b7, o7, none⟩ = some v7 ∧ w1.cell? ⟨b8, o8, none⟩ = some v8 ∧ w1.cell? ⟨b9, o9, none⟩ = some v9 :=
  ⟨h.1.trans hb, (hb.cell (p := ⟨b0, o0, none⟩) l0).trans h.2.1, (hb.cell (p := ⟨b1, o1, none⟩) l1).trans h.2.2.1, (hb.cell (p := ⟨b2, o2, none⟩) l2).trans h.2.2.2.1, (hb.cell (p := ⟨b3, o3, none⟩) l3).trans h.2.2.2.2.1, (hb.cell (p := ⟨b4, o4, none⟩) l4).trans h.2.2.2.2.2.1, (hb.cell (p := ⟨b5, o5, none⟩) l5).trans h.2.2.2.2.2.2.1, (hb.cell (p := ⟨b6, o6, none⟩) l6).trans h.2.2.2.2.2.2.2.1, (hb.cell (p := ⟨b7, o7, none⟩) l7).trans h.2.2.2.2.2.2.2.2.1, (hb.cell (p := ⟨b8, o8, none⟩) l8).trans h.2.2.2.2.2.2.2.2.2.1, (hb.cell (p := ⟨b9, o9, none⟩) l9).trans h.2.2.2.2.2.2.2.2.2.2⟩
theorem keepA10 {B : Nat} {w0 W : World} {X : Obj} {b0 o0 b1 o1 b2 o2 b3 o3 b4 o4 b5 o5 b6 o6 b7 o7 b8 o8 b9 o9 : Nat} {v0 v1 v2 v3 v4 v5 v6 v7 v8 v9 : Value} (hz : B ≤ w0.heap.size)
    (h : Below B w0 W ∧ W.cell? ⟨b0, o0, none⟩ = some v0 ∧ W.cell? ⟨b1, o1, none⟩ = some v1 ∧ W.cell? ⟨b2, o2, none⟩ = some v2 ∧ W.cell? ⟨b3, o3, none⟩ = some v3 ∧ W.cell? ⟨b4, o4, none⟩ = some v4 ∧ W.cell? ⟨b5, o5, none⟩ = some v5 ∧ W.cell? ⟨b6, o6, none⟩ = some v6 ∧ W.cell? ⟨b7, o7, none⟩ = some v7 ∧ W.cell? ⟨b8, o8, none⟩ = some v8 ∧ W.cell? ⟨b9, o9, none⟩ = some v9) :
    Below B w0 (W.alloc X) ∧ (W.alloc X).cell? ⟨b0, o0, none⟩ = some v0 ∧ (W.alloc X).cell? ⟨b1, o1, none⟩ = some v1 ∧ (W.alloc X).cell? ⟨b2, o2, none⟩ = some v2 ∧ (W.alloc X).cell? ⟨b3, o3, none⟩ = some v3 ∧ (W.alloc X).cell? ⟨b4, o4, none⟩ = some v4 ∧ (W.alloc X).cell? ⟨b5, o5, none⟩ = some v5 ∧ (W.alloc X).cell? ⟨b6, o6, none⟩ = some v6 ∧ (W.alloc X).cell? ⟨b7, o7, none⟩ = some v7 ∧ (W.alloc X).cell? ⟨b8, o8, none⟩ = some v8 ∧ (W.alloc X).cell? ⟨b9, o9, none⟩ = some v9 :=
  ⟨h.1.alloc (Nat.le_trans hz h.1.size) _, cell_alloc h.2.1, cell_alloc h.2.2.1, cell_alloc h.2.2.2.1, cell_alloc h.2.2.2.2.1, cell_alloc h.2.2.2.2.2.1, cell_alloc h.2.2.2.2.2.2.1, cell_alloc h.2.2.2.2.2.2.2.1, cell_alloc h.2.2.2.2.2.2.2.2.1, cell_alloc h.2.2.2.2.2.2.2.2.2.1, cell_alloc h.2.2.2.2.2.2.2.2.2.2⟩
theorem keepD10 {B : Nat} {w0 W : World} {X : Obj} {b0 o0 b1 o1 b2 o2 b3 o3 b4 o4 b5 o5 b6 o6 b7 o7 b8 o8 b9 o9 : Nat} {v0 v1 v2 v3 v4 v5 v6 v7 v8 v9 : Value} (hz : B ≤ w0.heap.size)
    (h : Below B w0 W.drew ∧ W.drew.cell? ⟨b0, o0, none⟩ = some v0 ∧ W.drew.cell? ⟨b1, o1, none⟩ = some v1 ∧ W.drew.cell? ⟨b2, o2, none⟩ = some v2 ∧ W.drew.cell? ⟨b3, o3, none⟩ = some v3 ∧ W.drew.cell? ⟨b4, o4, none⟩ = some v4 ∧ W.drew.cell? ⟨b5, o5, none⟩ = some v5 ∧ W.drew.cell? ⟨b6, o6, none⟩ = some v6 ∧ W.drew.cell? ⟨b7, o7, none⟩ = some v7 ∧ W.drew.cell? ⟨b8, o8, none⟩ = some v8 ∧ W.drew.cell? ⟨b9, o9, none⟩ = some v9) :
    Below B w0 (W.alloc X).drew ∧ (W.alloc X).drew.cell? ⟨b0, o0, none⟩ = some v0 ∧ (W.alloc X).drew.cell? ⟨b1, o1, none⟩ = some v1 ∧ (W.alloc X).drew.cell? ⟨b2, o2, none⟩ = some v2 ∧ (W.alloc X).drew.cell? ⟨b3, o3, none⟩ = some v3 ∧ (W.alloc X).drew.cell? ⟨b4, o4, none⟩ = some v4 ∧ (W.alloc X).drew.cell? ⟨b5, o5, none⟩ = some v5 ∧ (W.alloc X).drew.cell? ⟨b6, o6, none⟩ = some v6 ∧ (W.alloc X).drew.cell? ⟨b7, o7, none⟩ = some v7 ∧ (W.alloc X).drew.cell? ⟨b8, o8, none⟩ = some v8 ∧ (W.alloc X).drew.cell? ⟨b9, o9, none⟩ = some v9 :=
  ⟨below_alloc_drew (Nat.le_trans hz h.1.size) h.1, cell_alloc (W := W) h.2.1, cell_alloc (W := W) h.2.2.1, cell_alloc (W := W) h.2.2.2.1, cell_alloc (W := W) h.2.2.2.2.1, cell_alloc (W := W) h.2.2.2.2.2.1, cell_alloc (W := W) h.2.2.2.2.2.2.1, cell_alloc (W := W) h.2.2.2.2.2.2.2.1, cell_alloc (W := W) h.2.2.2.2.2.2.2.2.1, cell_alloc (W := W) h.2.2.2.2.2.2.2.2.2.1, cell_alloc (W := W) h.2.2.2.2.2.2.2.2.2.2⟩
theorem keepC12 {B : Nat} {w0 W w1 : World} {b0 o0 b1 o1 b2 o2 b3 o3 b4 o4 b5 o5 b6 o6 b7 o7 b8 o8 b9 o9 b10 o10 b11 o11 : Nat} {v0 v1 v2 v3 v4 v5 v6 v7 v8 v9 v10 v11 : Value} (hz : B ≤ w0.heap.size)
    (h : Below B w0 W ∧ W.cell? ⟨b0, o0, none⟩ = some v0 ∧ W.cell? ⟨b1, o1, none⟩ = some v1 ∧ W.cell? ⟨b2, o2, none⟩ = some v2 ∧ W.cell? ⟨b3, o3, none⟩ = some v3 ∧ W.cell? ⟨b4, o4, none⟩ = some v4 ∧ W.cell? ⟨b5, o5, none⟩ = some v5 ∧ W.cell? ⟨b6, o6, none⟩ = some v6 ∧ W.cell? ⟨b7, o7, none⟩ = some v7 ∧ W.cell? ⟨b8, o8, none⟩ = some v8 ∧ W.cell? ⟨b9, o9, none⟩ = some v9 ∧ W.cell? ⟨b10, o10, none⟩ = some v10 ∧ W.cell? ⟨b11, o11, none⟩ = some v11) (hb : Below W.heap.size W w1) :
    Below B w0 w1 ∧ w1.cell? ⟨b0, o0, none⟩ = some v0 ∧ w1.cell? ⟨b1, o1, none⟩ = some v1 ∧ w1.cell? ⟨b2, o2, none⟩ = some v2 ∧ w1.cell? ⟨b3, o3, none⟩ = some v3 ∧ w1.cell? ⟨b4, o4, none⟩ = some v4 ∧ w1.cell? ⟨b5, o5, none⟩ = some v5 ∧ w1.cell? ⟨b6, o6, none⟩ = some v6 ∧ w1.cell? ⟨b7, o7, none⟩ = some v7 ∧ w1.cell? ⟨b8, o8, none⟩ = some v8 ∧ w1.cell? ⟨b9, o9, none⟩ = some v9 ∧ w1.cell? ⟨b10, o10, none⟩ = some v10 ∧ w1.cell? ⟨b11, o11, none⟩ = some v11 :=
  ⟨h.1.trans (hb.mono (Nat.le_trans hz h.1.size)), cell_below h.2.1 hb, cell_below h.2.2.1 hb, cell_below h.2.2.2.1 hb, cell_below h.2.2.2.2.1 hb, cell_below h.2.2.2.2.2.1 hb, cell_below h.2.2.2.2.2.2.1 hb, cell_below h.2.2.2.2.2.2.2.1 hb, cell_below h.2.2.2.2.2.2.2.2.1 hb, cell_below h.2.2.2.2.2.2.2.2.2.1 hb, cell_below h.2.2.2.2.2.2.2.2.2.2.1 hb, cell_below h.2.2.2.2.2.2.2.2.2.2.2.1 hb, cell_below h.2.2.2.2.2.2.2.2.2.2.2.2 hb⟩
theorem keepT12 {B : Nat} {w0 W w1 : World} {b0 o0 b1 o1 b2 o2 b3 o3 b4 o4 b5 o5 b6 o6 b7 o7 b8 o8 b9 o9 b10 o10 b11 o11 : Nat} {v0 v1 v2 v3 v4 v5 v6 v7 v8 v9 v10 v11 : Value} (hb : Below B W w1) (l0 : b0 < B) (l1 : b1 < B) (l2 : b2 < B) (l3 : b3 < B) (l4 : b4 < B) (l5 : b5 < B) (l6 : b6 < B) (l7 : b7 < B) (l8 : b8 < B) (l9 : b9 < B) (l10 : b10 < B) (l11 : b11 < B)
    (h : Below B w0 W ∧ W.cell? ⟨b0, o0, none⟩ = some v0 ∧ W.cell? ⟨b1, o1, none⟩ = some v1 ∧ W.cell? ⟨b2, o2, none⟩ = some v2 ∧ W.cell? ⟨b3, o3, none⟩ = some v3 ∧ W.cell? ⟨b4, o4, none⟩ = some v4 ∧ W.cell? ⟨b5, o5, none⟩ = some v5 ∧ W.cell? ⟨b6, o6, none⟩ = some v6 ∧ W.cell? ⟨b7, o7, none⟩ = some v7 ∧ W.cell? ⟨b8, o8, none⟩ = some v8 ∧ W.cell? ⟨b9, o9, none⟩ = some v9 ∧ W.cell? ⟨b10, o10, none⟩ = some v10 ∧ W.cell? ⟨b11, o11, none⟩ = some v11) :
    Below B w0 w1 ∧ w1.cell? ⟨b0, o0, none⟩ = some v0 ∧ w1.cell? ⟨b1, o1, none⟩ = some v1 ∧ w1.cell? ⟨b2, o2, none⟩ = some v2 ∧ w1.cell? ⟨b3, o3, none⟩ = some v3 ∧ w1.cell? ⟨b4, o4, none⟩ = some v4 ∧ w1.cell? ⟨b5, o5, none⟩ = some v5 ∧ w1.cell? ⟨b6, o6, none⟩ = some v6 ∧ w1.cell? ⟨b7, o7, none⟩ = some v7 ∧ w1.cell? ⟨b8, o8, none⟩ = some v8 ∧ w1.cell? ⟨b9, o9, none⟩ = some v9 ∧ w1.cell? ⟨b10, o10, none⟩ = some v10 ∧ w1.cell? ⟨b11, o11, none⟩ = some v11 :=
  ⟨h.1.trans hb, (hb.cell (p := ⟨b0, o0, none⟩) l0).trans h.2.1, (hb.cell (p := ⟨b1, o1, none⟩) l1).trans h.2.2.1, (hb.cell (p := ⟨b2, o2, none⟩) l2).trans h.2.2.2.1, (hb.cell (p := ⟨b3, o3, none⟩) l3).trans h.2.2.2.2.1, (hb.cell (p := ⟨b4, o4, none⟩) l4).trans h.2.2.2.2.2.1, (hb.cell (p := ⟨b5, o5, none⟩) l5).trans h.2.2.2.2.2.2.1, (hb.cell (p := ⟨b6, o6, none⟩) l6).trans h.2.2.2.2.2.2.2.1, (hb.cell (p := ⟨b7, o7, none⟩) l7).trans h.2.2.2.2.2.2.2.2.1, (hb.cell (p := ⟨b8, o8, none⟩) l8).trans h.2.2.2.2.2.2.2.2.2.1, (hb.cell (p := ⟨b9, o9, none⟩) l9).trans h.2.2.2.2.2.2.2.2.2.2.1, (hb.cell (p := ⟨b10, o10, none⟩) l10).trans h.2.2.2.2.2.2.2.2.2.2.2.1, (hb.cell (p := ⟨b11, o11, none⟩) l11).trans h.2.2.2.2.2.2.2.2.2.2.2.2⟩
theorem keepA12 {B : Nat} {w0 W : World} {X : Obj} {b0 o0 b1 o1 b2 o2 b3 o3 b4 o4 b5 o5 b6 o6 b7 o7 b8 o8 b9 o9 b10 o10 b11 o11 : Nat} {v0 v1 v2 v3 v4 v5 v6 v7 v8 v9 v10 v11 : Value} (hz : B ≤ w0.heap.size)
    (h : Below B w0 W ∧ W.cell? ⟨b0, o0, none⟩ = some v0 ∧ W.cell? ⟨b1, o1, none⟩ = some v1 ∧ W.cell? ⟨b2, o2, none⟩ = some v2 ∧ W.cell? ⟨b3, o3, none⟩ = some v3 ∧ W.cell? ⟨b4, o4, none⟩ = some v4 ∧ W.cell? ⟨b5, o5, none⟩ = some v5 ∧ W.cell? ⟨b6, o6, none⟩ = some v6 ∧ W.cell? ⟨b7, o7, none⟩ = some v7 ∧ W.cell? ⟨b8, o8, none⟩ = some v8 ∧ W.cell? ⟨b9, o9, none⟩ = some v9 ∧ W.cell? ⟨b10, o10, none⟩ = some v10 ∧ W.cell? ⟨b11, o11, none⟩ = some v11) :
    Below B w0 (W.alloc X) ∧ (W.alloc X).cell? ⟨b0, o0, none⟩ = some v0 ∧ (W.alloc X).cell? ⟨b1, o1, none⟩ = some v1 ∧ (W.alloc X).cell? ⟨b2, o2, none⟩ = some v2 ∧ (W.alloc X).cell? ⟨b3, o3, none⟩ = some v3 ∧ (W.alloc X).cell? ⟨b4, o4, none⟩ = some v4 ∧ (W.alloc X).cell? ⟨b5, o5, none⟩ = some v5 ∧ (W.alloc X).cell? ⟨b6, o6, none⟩ = some v6 ∧ (W.alloc X).cell? ⟨b7, o7, none⟩ = some v7 ∧ (W.alloc X).cell? ⟨b8, o8, none⟩ = some v8 ∧ (W.alloc X).cell? ⟨b9, o9, none⟩ = some v9 ∧ (W.alloc X).cell? ⟨b10, o10, none⟩ = some v10 ∧ (W.alloc X).cell? ⟨b11, o11, none⟩ = some v11 :=
  ⟨h.1.alloc (Nat.le_trans hz h.1.size) _, cell_alloc h.2.1, cell_alloc h.2.2.1, cell_alloc h.2.2.2.1, cell_alloc h.2.2.2.2.1, cell_alloc h.2.2.2.2.2.1, cell_alloc h.2.2.2.2.2.2.1, cell_alloc h.2.2.2.2.2.2.2.1, cell_alloc h.2.2.2.2.2.2.2.2.1, cell_alloc h.2.2.2.2.2.2.2.2.2.1, cell_alloc h.2.2.2.2.2.2.2.2.2.2.1, cell_alloc h.2.2.2.2.2.2.2.2.2.2.2.1, cell_alloc h.2.2.2.2.2.2.2.2.2.2.2.2⟩
theorem keepD12 {B : Nat} {w0 W : World} {X : Obj} {b0 o0 b1 o1 b2 o2 b3 o3 b4 o4 b5 o5 b6 o6 b7 o7 b8 o8 b9 o9 b10 o10 b11 o11 : Nat} {v0 v1 v2 v3 v4 v5 v6 v7 v8 v9 v10 v11 : Value} (hz : B ≤ w0.heap.size)
    (h : Below B w0 W.drew ∧ W.drew.cell? ⟨b0, o0, none⟩ = some v0 ∧ W.drew.cell? ⟨b1, o1, none⟩ = some v1 ∧ W.drew.cell? ⟨b2, o2, none⟩ = some v2 ∧ W.drew.cell? ⟨b3, o3, none⟩ = some v3 ∧ W.drew.cell? ⟨b4, o4, none⟩ = some v4 ∧ W.drew.cell? ⟨b5, o5, none⟩ = some v5 ∧ W.drew.cell? ⟨b6, o6, none⟩ = some v6 ∧ W.drew.cell? ⟨b7, o7, none⟩ = some v7 ∧ W.drew.cell? ⟨b8, o8, none⟩ = some v8 ∧ W.drew.cell? ⟨b9, o9, none⟩ = some v9 ∧ W.drew.cell? ⟨b10, o10, none⟩ = some v10 ∧ W.drew.cell? ⟨b11, o11, none⟩ = some v11) :
    Below B w0 (W.alloc X).drew ∧ (W.alloc X).drew.cell? ⟨b0, o0, none⟩ = some v0 ∧ (W.alloc X).drew.cell? ⟨b1, o1, none⟩ = some v1 ∧ (W.alloc X).drew.cell? ⟨b2, o2, none⟩ = some v2 ∧ (W.alloc X).drew.cell? ⟨b3, o3, none⟩ = some v3 ∧ (W.alloc X).drew.cell? ⟨b4, o4, none⟩ = some v4 ∧ (W.alloc X).drew.cell? ⟨b5, o5, none⟩ = some v5 ∧ (W.alloc X).drew.cell? ⟨b6, o6, none⟩ = some v6 ∧ (W.alloc X).drew.cell? ⟨b7, o7, none⟩ = some v7 ∧ (W.alloc X).drew.cell? ⟨b8, o8, none⟩ = some v8 ∧ (W.alloc X).drew.cell? ⟨b9, o9, none⟩ = some v9 ∧ (W.alloc X).drew.cell? ⟨b10, o10, none⟩ = some v10 ∧ (W.alloc X).drew.cell? ⟨b11, o11, none⟩ = some v11 :=
  ⟨below_alloc_drew (Nat.le_trans hz h.1.size) h.1, cell_alloc (W := W) h.2.1, cell_alloc (W := W) h.2.2.1, cell_alloc (W := W) h.2.2.2.1, cell_alloc (W := W) h.2.2.2.2.1, cell_alloc (W := W) h.2.2.2.2.2.1, cell_alloc (W := W) h.2.2.2.2.2.2.1, cell_alloc (W := W) h.2.2.2.2.2.2.2.1, cell_alloc (W := W) h.2.2.2.2.2.2.2.2.1, cell_alloc (W := W) h.2.2.2.2.2.2.2.2.2.1, cell_alloc (W := W) h.2.2.2.2.2.2.2.2.2.2.1, cell_alloc (W := W) h.2.2.2.2.2.2.2.2.2.2.2.1, cell_alloc (W := W) h.2.2.2.2.2.2.2.2.2.2.2.2⟩

/-- The parts of a rational number: its numerator and its denominator, in lowest terms. -/
def RatP (w : World) (s : Bool) (A : Option Addr) (n c : Nat) (t : Bool) (B : Option Addr) (m d : Nat) (q : Rat) : Prop := IntP w s A n c q.num ∧ IntP w t B m d (q.den : Int)
theorem RatP.below {w w' : World} {s A n c t B m d q} (h : RatP w s A n c t B m d q) (hb : Below w.heap.size w w') : RatP w' s A n c t B m d q := ⟨h.1.below hb, h.2.below hb⟩
/-- A rational number in memory. -/
def IsRat (w : World) (v : Value) (q : Rat) : Prop := ∃ s A n c t B m d, v = .agg #[.bool s, .slice A n c, .bool t, .slice B m d] ∧ RatP w s A n c t B m d q
theorem IsRat.below {w w' : World} {v : Value} {q : Rat} (h : IsRat w v q) (hb : Below w.heap.size w w') : IsRat w' v q := by
  obtain ⟨s, A, n, c, t, B, m, d, e, h⟩ := h; exact ⟨s, A, n, c, t, B, m, d, e, h.below hb⟩
theorem RatP.is {w : World} {s A n c t B m d q} (h : RatP w s A n c t B m d q) : IsRat w (.agg #[.bool s, .slice A n c, .bool t, .slice B m d]) q := ⟨_, _, _, _, _, _, _, _, rfl, h⟩
theorem IntP.is {w : World} {s A n c z} (h : IntP w s A n c z) : IsInt w (.agg #[.bool s, .slice A n c]) z := ⟨_, _, _, _, rfl, h⟩

/-- The cell of a result of the type Rat. -/
def RC4 (W : World) (g : Nat) : Prop := W.cell? ⟨g, 0, none⟩ = some (.bool false) ∧ W.cell? ⟨g, 1, none⟩ = some (.slice none 0 0) ∧ W.cell? ⟨g, 2, none⟩ = some (.bool false) ∧ W.cell? ⟨g, 3, none⟩ = some (.slice none 0 0) ∧ (∀ o, W.frozen? ⟨g, o, none⟩ = false) ∧ g < W.heap.size
theorem RC4.below {W w1 : World} {g : Nat} (h : RC4 W g) (hb : Below W.heap.size W w1) : RC4 w1 g :=
  ⟨cell_below h.1 hb, cell_below h.2.1 hb, cell_below h.2.2.1 hb, cell_below h.2.2.2.1 hb, fun o => ((kept_cells hb).2 _ _ h.2.2.2.2.2).trans (h.2.2.2.2.1 o), Nat.lt_of_lt_of_le h.2.2.2.2.2 hb.size⟩
theorem rat_put {w0 w1 : World} {B0 g : Nat} {s t : Bool} {A B : Option Addr} {n c m d : Nat} {x y : Int} (h0 : Below B0 w0 w1) (hB : B0 ≤ g) (h : RC4 w1 g) (hI : IntP w1 s A n c x) (hJ : IntP w1 t B m d y) :
    (IntP ((((w1.setCell ⟨g, 0, none⟩ (.bool s)).setCell ⟨g, 1, none⟩ (.slice A n c)).setCell ⟨g, 2, none⟩ (.bool t)).setCell ⟨g, 3, none⟩ (.slice B m d)) s A n c x ∧
     IntP ((((w1.setCell ⟨g, 0, none⟩ (.bool s)).setCell ⟨g, 1, none⟩ (.slice A n c)).setCell ⟨g, 2, none⟩ (.bool t)).setCell ⟨g, 3, none⟩ (.slice B m d)) t B m d y) ∧
    Below B0 w0 ((((w1.setCell ⟨g, 0, none⟩ (.bool s)).setCell ⟨g, 1, none⟩ (.slice A n c)).setCell ⟨g, 2, none⟩ (.bool t)).setCell ⟨g, 3, none⟩ (.slice B m d)) := by
  have k1 : (w1.setCell ⟨g, 0, none⟩ (.bool s)).cell? ⟨g, 1, none⟩ = some (.slice none 0 0) := by
    rw [World.cell?_setCell_other _ _ _ _ (by simp)]; exact h.2.1
  have k2 : ((w1.setCell ⟨g, 0, none⟩ (.bool s)).setCell ⟨g, 1, none⟩ (.slice A n c)).cell? ⟨g, 2, none⟩ = some (.bool false) := by
    rw [World.cell?_setCell_other _ _ _ _ (by simp), World.cell?_setCell_other _ _ _ _ (by simp)]; exact h.2.2.1
  have k3 : (((w1.setCell ⟨g, 0, none⟩ (.bool s)).setCell ⟨g, 1, none⟩ (.slice A n c)).setCell ⟨g, 2, none⟩ (.bool t)).cell? ⟨g, 3, none⟩ = some (.slice none 0 0) := by
    rw [World.cell?_setCell_other _ _ _ _ (by simp), World.cell?_setCell_other _ _ _ _ (by simp), World.cell?_setCell_other _ _ _ _ (by simp)]; exact h.2.2.2.1
  exact ⟨⟨(((hI.setCell _ h.1 (by simp)).setCell _ k1 (by simp)).setCell _ k2 (by simp)).setCell _ k3 (by simp), (((hJ.setCell _ h.1 (by simp)).setCell _ k1 (by simp)).setCell _ k2 (by simp)).setCell _ k3 (by simp)⟩,
    (((h0.setCell hB _).setCell hB _).setCell hB _).setCell hB _⟩
theorem below_set4 {w1 : World} {B0 g : Nat} (hB : B0 ≤ g) (o0 o1 o2 o3 : Nat) (u0 u1 u2 u3 : Value) : Below B0 w1 ((((w1.setCell ⟨g, o0, none⟩ u0).setCell ⟨g, o1, none⟩ u1).setCell ⟨g, o2, none⟩ u2).setCell ⟨g, o3, none⟩ u3) :=
  ((((Below.refl _ _).setCell hB _).setCell hB _).setCell hB _).setCell hB _
theorem below_set2 {w1 : World} {B0 g : Nat} (hB : B0 ≤ g) (o0 o1 : Nat) (u0 u1 : Value) : Below B0 w1 ((w1.setCell ⟨g, o0, none⟩ u0).setCell ⟨g, o1, none⟩ u1) :=
  ((Below.refl _ _).setCell hB _).setCell hB _

/-- Two integers as a value of the type Rat. -/
def IsPair (w : World) (v : Value) (x y : Int) : Prop := ∃ s A n c t B m d, v = .agg #[.bool s, .slice A n c, .bool t, .slice B m d] ∧ IntP w s A n c x ∧ IntP w t B m d y

set_option maxHeartbeats 400000 in
theorem rat_of_aux (v : Value) (x one : Int) (w : World) (hv : IsInt w v x)
    (hO : ∀ W, Calls Tryz.prog 102 #[.int .i64 1] W fun e w' => (∃ v, e = .returned v ∧ IsInt w' v one) ∧ Below W.heap.size W w') :
    Calls Tryz.prog 107 #[v] w fun e w' => (∃ v, e = .returned v ∧ IsPair w' v x one) ∧ Below w.heap.size w w' := by
  obtain ⟨s, A, n, c, rfl, hI⟩ := hv
  go_enter Tryz.func107, Tryz.ntmps107
  go_wp2_with fail
  generalize hW : World.alloc _ _ = W
  have hBW : Below w.heap.size w W := by
    rw [← hW]; exact ((Below.refl _ _).alloc (Nat.le_refl _) _).alloc (by simp) _
  have hc0 : W.cell? ⟨w.heap.size, 0, none⟩ = some (.bool s) := by rw [← hW]; simp [go_sem]
  have hc1 : W.cell? ⟨w.heap.size, 1, none⟩ = some (.slice A n c) := by rw [← hW]; simp [go_sem]
  have hR : RC4 W (w.heap.size + 1) := by rw [← hW]; exact ⟨by simp [go_sem], by simp [go_sem], by simp [go_sem], by simp [go_sem], by simp [go_sem], by simp⟩
  have hz : w.heap.size + 1 ≤ W.heap.size := by rw [← hW]; simp
  clear hW
  go_region_held3 (fun w' => Below (w.heap.size + 1) W w' ∧ w'.cell? ⟨w.heap.size, 0, none⟩ = some (.bool s) ∧ w'.cell? ⟨w.heap.size, 1, none⟩ = some (.slice A n c))
    (first | (go_keep; done) | exact keepT2 (below_set4 (g := w.heap.size + 1) (by omega) _ _ _ _ _ _ _ _) (by omega) (by omega) (by assumption) | exact keepC2 hz (by assumption) (by assumption) | exact ⟨below_drew' _, hc0, hc1⟩)
    (first
      | (go_at_call 102
         refine (hO _).mono ?_
         rintro e w1 ⟨⟨v', rfl, hr⟩, hb⟩
         obtain ⟨s2, A2, n2, c2, rfl, hJ⟩ := hr
         obtain ⟨d0, d1, d2, d3, df, dl⟩ := hR.below ((below_drew' _).trans hb)))
  all_goals
    have hb' : Below W.heap.size W w1 := (below_drew' _).trans hb
    have hP := rat_put (hBW.trans (hb'.mono hBW.size)) (by omega) ⟨d0, d1, d2, d3, df, dl⟩ ((hI.below hBW).below hb') hJ
    go_wp2
    exact bodyPost_ret (v := .agg #[.bool s, .slice A n c, .bool s2, .slice A2 n2 c2]) (by simp [results, Tryz.results107, go_sem, d0, d1, d2, d3]) rfl ⟨⟨_, rfl, _, _, _, _, _, _, _, _, rfl, hP.1⟩, hP.2⟩
theorem rat_of (v : Value) (x : Int) (w : World) (hv : IsInt w v x) :
    Calls Tryz.prog 107 #[v] w fun e w' => (∃ v, e = .returned v ∧ IsRat w' v (x : Rat)) ∧ Below w.heap.size w w' := by
  refine (rat_of_aux v x 1 w hv (fun W => int_of 1 W (by omega) (by omega))).mono ?_
  rintro e w1 ⟨⟨v, rfl, s, A, n, c, t, B, m, d, rfl, h1, h2⟩, hb⟩
  refine ⟨⟨_, rfl, RatP.is ⟨?_, ?_⟩⟩, hb⟩
  · rw [Rat.num_intCast]; exact h1
  · rw [Rat.den_intCast]; exact h2

end Go.Proofs.YtlklgeidffjidaaGreat

/- Walks: the product of integers (package rational). -/
namespace Go.Proofs.YtlklgeidffjidaaGreat
open Go.RowKit

/-- A slice of integers that is read. -/
def IsInts (w : World) (A : Option Addr) (zs : List Int) : Prop :=
  ∀ j, j < zs.length → ∃ b off s B n c, A = some ⟨b, off, none⟩ ∧ b < w.heap.size ∧ w.cell? ⟨b, off + j * 2, none⟩ = some (.bool s) ∧ w.cell? ⟨b, off + j * 2 + 1, none⟩ = some (.slice B n c) ∧ IntP w s B n c (zs.getD j 0)
theorem IsInts.below {w w' : World} {A : Option Addr} {zs : List Int} (h : IsInts w A zs) (hb : Below w.heap.size w w') : IsInts w' A zs := by
  intro j hj
  obtain ⟨b, off, s, B, n, c, e, hl, h1, h2, h3⟩ := h j hj
  exact ⟨b, off, s, B, n, c, e, Nat.lt_of_lt_of_le hl hb.size, cell_below h1 hb, cell_below h2 hb, h3.below hb⟩

theorem RC.belowB {W w1 : World} {g B : Nat} (h : RC W g) (hb : Below B W w1) (hg : g < B) : RC w1 g :=
  ⟨(hb.cell (p := ⟨g, 0, none⟩) hg).trans h.1, (hb.cell (p := ⟨g, 1, none⟩) hg).trans h.2.1, fun o => (hb.frozen (p := ⟨g, o, none⟩) hg).trans (h.2.2.1 o), Nat.lt_of_lt_of_le h.2.2.2 hb.size⟩

def iprod (zs : List Int) : Int := zs.foldl (· * ·) 1
def isum (zs : List Int) : Nat := (zs.map isz).sum + 1
theorem iprod_take {zs : List Int} {i : Nat} (h : i < zs.length) : iprod (zs.take (i + 1)) = iprod (zs.take i) * zs.getD i 0 := by
  unfold iprod
  rw [List.take_succ_eq_append_getElem h, List.foldl_append]
  simp [List.getD_eq_getElem?_getD, List.getElem?_eq_getElem h]
theorem mem_le_sum {l : List Nat} {a : Nat} (h : a ∈ l) : a ≤ l.sum := by
  induction l with
  | nil => simp at h
  | cons b t ih =>
    rw [List.sum_cons]
    rcases List.mem_cons.1 h with h | h
    · omega
    · have := ih h; omega
theorem isz_getD {zs : List Int} {i : Nat} (h : i < zs.length) : isz (zs.getD i 0) ≤ isum zs := by
  have h1 : isz zs[i] ∈ zs.map isz := List.mem_map.2 ⟨_, List.getElem_mem h, rfl⟩
  have h2 : zs.getD i 0 = zs[i] := by simp [List.getD_eq_getElem?_getD, List.getElem?_eq_getElem h]
  rw [h2]
  have := mem_le_sum h1
  unfold isum; omega
theorem isz_iprod (zs : List Int) : isz (iprod zs) ≤ isum zs := by
  have : ∀ (l : List Int) (z : Int), isz (l.foldl (· * ·) z) ≤ isz z + (l.map isz).sum := by
    intro l
    induction l with
    | nil => intro z; simp
    | cons a t ih => intro z; have := ih (z * a); have := isz_mul z a; simp only [List.foldl_cons, List.map_cons, List.sum_cons]; omega
  have h := this zs 1
  have h1 : isz 1 = 1 := by decide +kernel
  unfold iprod isum; omega
theorem isum_take (zs : List Int) (i : Nat) : isum (zs.take i) ≤ isum zs := by
  unfold isum
  have : (zs.map isz).sum = ((zs.take i).map isz).sum + ((zs.drop i).map isz).sum := by rw [← List.sum_append, ← List.map_append, List.take_append_drop]
  omega

set_option maxHeartbeats 1000000 in
theorem rat_product (A : Option Addr) (n c : Nat) (zs : List Int) (w : World) (hA : IsInts w A zs) (hn : n = zs.length) (hs : isum zs ≤ 549755813888) (hl : zs.length ≤ 1000) :
    Calls Tryz.prog 106 #[.slice A n c] w fun e w' => (∃ v, e = .returned v ∧ IsInt w' v (iprod zs)) ∧ Below w.heap.size w w' := by
  have hnb : n ≤ 1000 := by omega
  clear hl
  obtain ⟨one, H1⟩ : ∃ z : Int, Hid (z = iprod (zs.take 0)) := ⟨_, Lib.hid rfl⟩
  have hO : ∀ W, Calls Tryz.prog 102 #[.int .i64 1] W fun e w' => (∃ v, e = .returned v ∧ IsInt w' v one) ∧ Below W.heap.size W w' := by
    rw [H1.out]; exact fun W => int_of 1 W (by omega) (by omega)
  have hp := fun i => isz_iprod (zs.take i)
  have hq := fun i => isum_take zs i
  have hHp : ∀ i, Hid (i < n → isz (iprod (zs.take i)) ≤ 549755813888 ∧ isz (zs.getD i 0) ≤ 549755813888 ∧ iprod (zs.take (i + 1)) = iprod (zs.take i) * zs.getD i 0) := fun i => Lib.hid (fun hi => ⟨Nat.le_trans (hp i) (Nat.le_trans (hq i) hs), Nat.le_trans (isz_getD (by omega)) hs, iprod_take (by omega)⟩)
  obtain ⟨P, HP⟩ : ∃ z : Int, Hid (z = iprod zs) := ⟨_, Lib.hid rfl⟩
  have HP2 : Hid (iprod (zs.take n) = P) := Lib.hid (by rw [HP.out, hn, List.take_length])
  have Hn := Lib.hid hn
  rw [← HP.out]
  clear hp hq hs hn
  go_enter Tryz.func106, Tryz.ntmps106
  go_wp2_with fail
  generalize hW : World.alloc _ _ = W
  have hBW : Below w.heap.size w W := by rw [← hW]; exact (Below.refl _ _).alloc (Nat.le_refl _) _
  have hR : RC W w.heap.size := by rw [← hW]; exact ⟨by simp [go_sem], by simp [go_sem], by simp [go_sem], by simp⟩
  clear hW
  refine (hO _).mono ?_
  rintro e w1 ⟨⟨_, rfl, s, B, m, d, rfl, hI⟩, hb⟩
  have hBW := hBW.trans (hb.mono hBW.size)
  have hR := hR.below hb
  go_wp2_with fail
  have hz : w1.heap.size = w1.heap.size := rfl
  generalize hW : World.alloc _ _ = W2
  have hB2 : Below w1.heap.size w1 W2 := by rw [← hW]; exact (Below.refl _ _).alloc (Nat.le_refl _) _
  have hg0 : W2.cell? ⟨w1.heap.size, 0, none⟩ = some (.bool s) := by rw [← hW]; simp [go_sem]
  have hg1 : W2.cell? ⟨w1.heap.size, 1, none⟩ = some (.slice B m d) := by rw [← hW]; simp [go_sem]
  have hgf : ∀ o, W2.frozen? ⟨w1.heap.size, o, none⟩ = false := by rw [← hW]; simp [go_sem]
  have hgl : w1.heap.size < W2.heap.size := by rw [← hW]; simp
  clear hW hz
  have hsz1 := hBW.size
  have hI2 := hI.below hB2
  have hBW2 := hBW.trans (hB2.mono hBW.size)
  have hR2 := hR.below hB2
  have hlt2 : w.heap.size < w1.heap.size := hR.2.2.2
  clear hBW hR hI hB2
  generalize w1.heap.size = g at *
  rw [H1.out] at hI2
  go_loopg [9] n (fun k s9 wr => ∃ (i : Nat) (s : Bool) (B : Option Addr) (m d : Nat), s9 = .int .i64 (i : Int) ∧ Hid (i + k = n) ∧ wr.cell? ⟨g, 0, none⟩ = some (.bool s) ∧ wr.cell? ⟨g, 1, none⟩ = some (.slice B m d) ∧ (∀ o, wr.frozen? ⟨g, o, none⟩ = false) ∧ g < wr.heap.size ∧
    Below w.heap.size w wr ∧ RC wr w.heap.size ∧ IntP wr s B m d (iprod (zs.take i)))
  case atStart => exact ⟨0, _, _, _, _, rfl, Lib.hid (by simp), hg0, hg1, hgf, hgl, hBW2, hR2, hI2⟩
  case round =>
    clear hg0 hg1 hgf hgl hBW2 hR2 hI2
    obtain ⟨i, s, B, m, d, rfl, hi, hg0, hg1, hgf, hgl, hBW, hR, hI⟩ := hrel
    by_cases h0 : i < n
    · obtain ⟨q1, q2, q3⟩ := (hHp i).out h0
      have Hq3 := Lib.hid q3
      clear q3
      obtain ⟨b, off, s2, B2, n2, c2, rfl, hbl, hb0, hb1, hI2⟩ := (hA.below hBW) i (by rw [← Hn.out]; exact h0)
      go_wp2_with fail
      generalize hW : World.alloc _ _ = W3
      have hB3 : Below wr.heap.size wr W3 := by rw [← hW]; exact (Below.refl _ _).alloc (Nat.le_refl _) _
      clear hW
      refine (int_mul _ _ _ _ W3 (hI.below hB3).is (hI2.below hB3).is q1 q2).mono ?_
      rintro e w3 ⟨⟨_, rfl, s4, B4, n4, c4, rfl, hI4⟩, hb3⟩
      have hbb := hB3.trans (hb3.mono hB3.size)
      have k0 := cell_below hg0 hbb
      have k1 := cell_below hg1 hbb
      have kf := fun o => ((kept_cells hbb).2 g o hgl).trans (hgf o)
      have kl : g < w3.heap.size := Nat.lt_of_lt_of_le hgl hbb.size
      have hJ := int_put (hBW.trans (hbb.mono hBW.size)) (by omega) k0 k1 hI4
      have hR3 := hR.below hbb
      rw [← Hq3.out] at hJ
      go_wp2
      go_roundg (gk - 1)
      case measure => have := hi.out; omega
      case rel => exact ⟨i + 1, _, _, _, _, by simp, Lib.hid (by have := hi.out; omega), by simp [go_sem, k0, k1], by simp [go_sem, k0, k1], by simp [go_sem, kf], by simpa [World.setCell] using kl, hJ.2, hR3.belowB (B := g) (below_set2 (Nat.le_refl _) _ _ _ _) hlt2, hJ.1⟩
    · have hin : i = n := by have := hi.out; omega
      subst hin
      rw [HP2.out] at hI
      have hJ := int_put hBW (Nat.le_refl _) hR.1 hR.2.1 hI
      obtain ⟨r1, r2, r3, r4⟩ := hR
      go_wp2
      exact bodyPost_ret (v := .agg #[.bool s, .slice B m d]) (by simp [results, Tryz.results106, go_sem, r1, r2]) rfl ⟨⟨_, rfl, _, _, _, _, rfl, hJ.1⟩, hJ.2⟩

end Go.Proofs.YtlklgeidffjidaaGreat

/- Walks: lowest terms (package rational). -/
namespace Go.Proofs.YtlklgeidffjidaaGreat
open Go.RowKit

theorem cmpI_neg {y : Int} (h : y < 0) : cmpI y 0 < 0 := by unfold cmpI; rw [if_pos h]; omega
theorem cmpI_nonneg {y : Int} (h : ¬ y < 0) : ¬ cmpI y 0 < 0 := by unfold cmpI; rw [if_neg h]; split <;> omega
/-- A local integer variable. -/
def IC (W : World) (g : Nat) (z : Int) : Prop := ∃ s A n c, W.cell? ⟨g, 0, none⟩ = some (.bool s) ∧ W.cell? ⟨g, 1, none⟩ = some (.slice A n c) ∧ (∀ o, W.frozen? ⟨g, o, none⟩ = false) ∧ g < W.heap.size ∧ IntP W s A n c z
theorem IC.below {W w1 : World} {g : Nat} {z : Int} (h : IC W g z) (hb : Below W.heap.size W w1) : IC w1 g z := by
  obtain ⟨s, A, n, c, h1, h2, h3, h4, h5⟩ := h
  exact ⟨s, A, n, c, cell_below h1 hb, cell_below h2 hb, fun o => ((kept_cells hb).2 _ _ h4).trans (h3 o), Nat.lt_of_lt_of_le h4 hb.size, h5.below hb⟩
/-- Another variable is written. -/
theorem IC.other {W : World} {g g' : Nat} {z z' : Int} (h : IC W g z) (h' : IC W g' z') (hne : g' ≠ g) (s' : Bool) (A' : Option Addr) (n' c' : Nat) : IC ((W.setCell ⟨g', 0, none⟩ (.bool s')).setCell ⟨g', 1, none⟩ (.slice A' n' c')) g z := by
  obtain ⟨s, A, n, c, h1, h2, h3, h4, h5⟩ := h
  obtain ⟨t, B, m, d, k1, k2, k3, k4, k5⟩ := h'
  have ne : ∀ o o', (⟨g, o, none⟩ : Addr) ≠ ⟨g', o', none⟩ := by intro o o' e; injection e with e; exact hne e.symm
  have ne' : ∀ o o', (⟨g', o, none⟩ : Addr) ≠ ⟨g, o', none⟩ := by intro o o' e; injection e with e; exact hne e
  have k2' : (W.setCell ⟨g', 0, none⟩ (.bool s')).cell? ⟨g', 1, none⟩ = some (.slice B m d) := by rw [World.cell?_setCell_other _ _ _ _ (by simp)]; exact k2
  refine ⟨s, A, n, c, ?_, ?_, ?_, ?_, (h5.setCell _ k1 (by simp)).setCell _ k2' (by simp)⟩
  · rw [World.cell?_setCell_other _ _ _ _ (by first | exact ne _ _ | exact ne' _ _), World.cell?_setCell_other _ _ _ _ (by first | exact ne _ _ | exact ne' _ _)]; exact h1
  · rw [World.cell?_setCell_other _ _ _ _ (by first | exact ne _ _ | exact ne' _ _), World.cell?_setCell_other _ _ _ _ (by first | exact ne _ _ | exact ne' _ _)]; exact h2
  · intro o; simp [go_sem, h3]
  · simpa [World.setCell] using h4
theorem IntP.other {W : World} {s A n c} {z z' : Int} {g' : Nat} (h : IntP W s A n c z) (h' : IC W g' z') (s' : Bool) (A' : Option Addr) (n' c' : Nat) : IntP ((W.setCell ⟨g', 0, none⟩ (.bool s')).setCell ⟨g', 1, none⟩ (.slice A' n' c')) s A n c z := by
  obtain ⟨t, B, m, d, k1, k2, k3, k4, k5⟩ := h'
  have k2' : (W.setCell ⟨g', 0, none⟩ (.bool s')).cell? ⟨g', 1, none⟩ = some (.slice B m d) := by rw [World.cell?_setCell_other _ _ _ _ (by simp)]; exact k2
  exact (h.setCell _ k1 (by simp)).setCell _ k2' (by simp)
/-- The variable itself is written. -/
theorem IC.put {W : World} {g : Nat} {z z' : Int} (h : IC W g z) {s' : Bool} {A' : Option Addr} {n' c' : Nat} (hI : IntP W s' A' n' c' z') : IC ((W.setCell ⟨g, 0, none⟩ (.bool s')).setCell ⟨g, 1, none⟩ (.slice A' n' c')) g z' := by
  obtain ⟨s, A, n, c, h1, h2, h3, h4, h5⟩ := h
  have hJ := int_put (Below.refl (W.heap.size - W.heap.size) W) (Nat.le_trans (by omega) (Nat.zero_le g)) h1 h2 hI
  refine ⟨s', A', n', c', by simp [go_sem, h1], by simp [go_sem, h2], fun o => by simp [go_sem, h3], by simpa [World.setCell] using h4, hJ.1⟩
theorem RC4.belowB {W w1 : World} {g B : Nat} (h : RC4 W g) (hb : Below B W w1) (hg : g < B) : RC4 w1 g :=
  ⟨(hb.cell (p := ⟨g, 0, none⟩) hg).trans h.1, (hb.cell (p := ⟨g, 1, none⟩) hg).trans h.2.1, (hb.cell (p := ⟨g, 2, none⟩) hg).trans h.2.2.1, (hb.cell (p := ⟨g, 3, none⟩) hg).trans h.2.2.2.1, fun o => (hb.frozen (p := ⟨g, o, none⟩) hg).trans (h.2.2.2.2.1 o), Nat.lt_of_lt_of_le h.2.2.2.2.2 hb.size⟩
/-- The result is kept where a variable is written. -/
theorem RC4.set2 {W : World} {g g' : Nat} (h : RC4 W g) (hne : g' ≠ g) (o0 o1 : Nat) (u0 u1 : Value) : RC4 ((W.setCell ⟨g', o0, none⟩ u0).setCell ⟨g', o1, none⟩ u1) g := by
  obtain ⟨h1, h2, h3, h4, h5, h6⟩ := h
  have ne : ∀ o o', (⟨g, o, none⟩ : Addr) ≠ ⟨g', o', none⟩ := by intro o o' e; injection e with e; exact hne e.symm
  have ne' : ∀ o o', (⟨g', o, none⟩ : Addr) ≠ ⟨g, o', none⟩ := by intro o o' e; injection e with e; exact hne e
  refine ⟨?_, ?_, ?_, ?_, fun o => by simp [go_sem, h5], by simpa [World.setCell] using h6⟩
  all_goals rw [World.cell?_setCell_other _ _ _ _ (by first | exact ne _ _ | exact ne' _ _), World.cell?_setCell_other _ _ _ _ (by first | exact ne _ _ | exact ne' _ _)]; assumption

set_option maxRecDepth 100000 in
set_option maxHeartbeats 2000000 in
theorem rat_lowest (u v : Value) (x y : Int) (w : World) (hu : IsInt w u x) (hv : IsInt w v y) (hsx : isz x ≤ 1099511627775) (hsy : isz y ≤ 1099511627775) (hy0 : y ≠ 0) :
    Calls Tryz.prog 104 #[u, v] w fun e w' => (∃ v, e = .returned v ∧ IsRat w' v (Rat.divInt x y)) ∧ Below w.heap.size w w' := by
  have hG := fun W (hW : Below w.heap.size w W) => int_gcd u v x y W (hu.below hW) (hv.below hW) hsx hsy
  have hs0 : isz (((Nat.gcd x.natAbs y.natAbs : Nat)) : Int) ≤ 1099511627775 := by
    rw [isz_nat]; exact Nat.le_trans (sz_mono (Nat.gcd_le_right _ (by omega))) hsy
  have hs1 : isz (lowg x y) ≤ 1099511627775 := by
    unfold isz; rw [lowg_natAbs]; rw [isz_nat] at hs0; exact hs0
  have hne := lowg_ne x hy0
  have hnum := low_num x hy0
  have hden := low_den x hy0
  have hlg : lowg x y = if y < 0 then -((Nat.gcd x.natAbs y.natAbs : Nat) : Int) else ((Nat.gcd x.natAbs y.natAbs : Nat) : Int) := rfl
  obtain ⟨su, A, n, c, rfl, hx⟩ := hu
  obtain ⟨sv, B, m, d, rfl, hy⟩ := hv
  generalize ((Nat.gcd x.natAbs y.natAbs : Nat) : Int) = G0 at *
  generalize hLG : lowg x y = LG at *
  have HNum := Lib.hid hnum
  have HDen := Lib.hid hden
  have Hlg := Lib.hid hlg
  generalize Rat.divInt x y = R at *
  clear hnum hden hlg hLG
  go_enter Tryz.func104, Tryz.ntmps104
  go_wp2_with fail
  generalize hW : World.alloc _ _ = W
  have hBW : Below w.heap.size w W := by rw [← hW]; exact (((Below.refl _ _).alloc (Nat.le_refl _) _).alloc (by simp) _).alloc (by simp; omega) _
  have hX : IC W w.heap.size x := ⟨su, A, n, c, by rw [← hW]; simp [go_sem], by rw [← hW]; simp [go_sem], fun o => by rw [← hW]; simp [go_sem], by rw [← hW]; simp; omega, hx.below hBW⟩
  have hY : IC W (w.heap.size + 1) y := ⟨sv, B, m, d, by rw [← hW]; simp [go_sem], by rw [← hW]; simp [go_sem], fun o => by rw [← hW]; simp [go_sem], by rw [← hW]; simp, hy.below hBW⟩
  have hR : RC4 W (w.heap.size + 1 + 1) := by rw [← hW]; exact ⟨by simp [go_sem], by simp [go_sem], by simp [go_sem], by simp [go_sem], by simp [go_sem], by simp⟩
  clear hW
  refine (hG _ hBW).mono ?_
  rintro e w1 ⟨⟨_, rfl, s1, A1, n1, c1, rfl, hI⟩, hb⟩
  have hBW := hBW.trans (hb.mono hBW.size)
  have hX := hX.below hb
  have hY := hY.below hb
  have hR := hR.below hb
  clear hb
  obtain ⟨s2, A2, n2, c2, k5, k6, k7, k8, hyy⟩ := id hY
  go_wp2_with fail
  generalize hW : World.alloc _ _ = W2
  have hB2 : Below w1.heap.size w1 W2 := by rw [← hW]; exact (Below.refl _ _).alloc (Nat.le_refl _) _
  have hgG : IC W2 w1.heap.size G0 := ⟨s1, A1, n1, c1, by rw [← hW]; simp [go_sem], by rw [← hW]; simp [go_sem], fun o => by rw [← hW]; simp [go_sem], by rw [← hW]; simp, hI.below hB2⟩
  clear hW
  have hBW := hBW.trans (hB2.mono hBW.size)
  have hX := hX.below hB2
  have hY := hY.below hB2
  have hlt : w.heap.size + 1 + 1 < w1.heap.size := hR.2.2.2.2.2
  have hR := hR.below hB2
  have hSg := int_sign _ y W2 (hyy.below hB2).is
  clear hI hG hx hy hB2 hyy
  generalize w1.heap.size = g at *
  by_cases h0 : y < 0
  · have hcc := cmpI_neg h0
    have hLG : LG = -G0 := by rw [Hlg.out, if_pos h0]
    generalize cmpI y 0 = cc at *
    clear h0 hy0
    refine hSg.mono ?_
    rintro e W3 ⟨rfl, hb⟩
    have hBW := hBW.trans (hb.mono hBW.size)
    have hX := hX.below hb
    have hY := hY.below hb
    have hgG := hgG.below hb
    have hR := hR.below hb
    clear k5 k6 k7 k8
    obtain ⟨s3, A3, n3, c3, k9, k10, k11, k12, hg⟩ := id hgG
    go_wp2_with fail
    refine (int_neg _ G0 W3 hg.is (by omega)).mono ?_
    rintro e W4 ⟨⟨_, rfl, s4, A4, n4, c4, rfl, hI⟩, hb⟩
    have hBW := hBW.trans (hb.mono hBW.size)
    have hX := hX.below hb
    have hY := hY.below hb
    have hgG := hgG.below hb
    have hR := hR.below hb
    clear k9 k10 k11 k12 hg
    rw [← hLG] at hI
    obtain ⟨s1, A1, n1, c1, k1, k2, k3, k4, hx⟩ := id hX
    obtain ⟨s3, A3, n3, c3, k9, k10, k11, k12, hg⟩ := id hgG
    have hx := hx.other hgG s4 A4 n4 c4
    have hy := hI.other hgG s4 A4 n4 c4
    have hgL := hgG.put hI
    have hX := hX.other hgG (by omega) s4 A4 n4 c4
    have hY := hY.other hgG (by omega) s4 A4 n4 c4
    have hR := hR.set2 (g' := g) (by omega) 0 1 (.bool s4) (.slice A4 n4 c4)
    have hBW := hBW.trans (below_set2 (g := g) (by omega) 0 1 (.bool s4) (.slice A4 n4 c4))
    go_wp2_with fail
    generalize World.setCell (World.setCell _ _ _) _ _ = W5 at *
    clear k1 k2 k3 k4 k9 k10 k11 k12 hg hI hgG
    refine (int_divmod _ _ x LG _ hx.is hy.is hsx hs1 hne).mono ?_
    rintro e W6 ⟨⟨_, _, rfl, ⟨s6, A6, n6, c6, rfl, hI⟩, _⟩, hb⟩
    have hBW := hBW.trans (hb.mono hBW.size)
    have hX := hX.below hb
    have hY := hY.below hb
    have hgL := hgL.below hb
    have hR := hR.below hb
    clear hx hy
    obtain ⟨s1, A1, n1, c1, k1, k2, k3, k4, hx⟩ := id hX
    obtain ⟨s2, A2, n2, c2, k5, k6, k7, k8, hy⟩ := id hY
    obtain ⟨s3, A3, n3, c3, k9, k10, k11, k12, hg⟩ := id hgL
    rw [← HNum.out] at hI
    have hy := hy.other hX s6 A6 n6 c6
    have hg := hg.other hX s6 A6 n6 c6
    have hXn := hX.put hI
    have hY := hY.other hX (by omega) s6 A6 n6 c6
    have hR := hR.set2 (g' := w.heap.size) (by omega) 0 1 (.bool s6) (.slice A6 n6 c6)
    have hBW := hBW.trans (below_set2 (g := w.heap.size) (by omega) 0 1 (.bool s6) (.slice A6 n6 c6))
    go_wp2_with fail
    generalize World.setCell (World.setCell _ _ _) _ _ = W7 at *
    clear k1 k2 k3 k4 k5 k6 k7 k8 k9 k10 k11 k12 hx hI hX hgL
    refine (int_divmod _ _ y LG _ hy.is hg.is hsy hs1 hne).mono ?_
    rintro e W8 ⟨⟨_, _, rfl, ⟨s8, A8, n8, c8, rfl, hI⟩, _⟩, hb⟩
    have hBW := hBW.trans (hb.mono hBW.size)
    have hX := hXn.below hb
    have hY := hY.below hb
    have hR := hR.below hb
    clear hy hg hXn
    obtain ⟨s1, A1, n1, c1, k1, k2, k3, k4, hx⟩ := id hX
    obtain ⟨s2, A2, n2, c2, k5, k6, k7, k8, hy⟩ := id hY
    obtain ⟨d0, d1, d2, d3, df, dl⟩ := id hR
    rw [← HDen.out] at hI
    have hx := hx.other hY s8 A8 n8 c8
    have hy := hI.other hY s8 A8 n8 c8
    have hR := hR.set2 (g' := w.heap.size + 1) (by omega) 0 1 (.bool s8) (.slice A8 n8 c8)
    have hBW := hBW.trans (below_set2 (g := w.heap.size + 1) (by omega) 0 1 (.bool s8) (.slice A8 n8 c8))
    have hP := rat_put hBW (by omega) hR hx hy
    go_wp2
    exact bodyPost_ret (v := .agg #[.bool s1, .slice A1 n1 c1, .bool s8, .slice A8 n8 c8]) (by simp [results, Tryz.results104, go_sem, d0, d1, d2, d3]) rfl ⟨⟨_, rfl, RatP.is ⟨hP.1.1, hP.1.2⟩⟩, hP.2⟩
  · have hcc := cmpI_nonneg h0
    have hLG : LG = G0 := by rw [Hlg.out, if_neg h0]
    generalize cmpI y 0 = cc at *
    subst hLG
    clear h0 hy0
    refine hSg.mono ?_
    rintro e W5 ⟨rfl, hb⟩
    have hBW := hBW.trans (hb.mono hBW.size)
    have hX := hX.below hb
    have hY := hY.below hb
    have hgL := hgG.below hb
    have hR := hR.below hb
    clear k5 k6 k7 k8 hgG
    obtain ⟨s1, A1, n1, c1, k1, k2, k3, k4, hx⟩ := id hX
    obtain ⟨s2, A2, n2, c2, k5, k6, k7, k8, hy⟩ := id hgL
    go_wp2_with fail
    clear k1 k2 k3 k4 k5 k6 k7 k8
    refine (int_divmod _ _ x LG _ hx.is hy.is hsx hs1 hne).mono ?_
    rintro e W6 ⟨⟨_, _, rfl, ⟨s6, A6, n6, c6, rfl, hI⟩, _⟩, hb⟩
    have hBW := hBW.trans (hb.mono hBW.size)
    have hX := hX.below hb
    have hY := hY.below hb
    have hgL := hgL.below hb
    have hR := hR.below hb
    clear hx hy
    obtain ⟨s1, A1, n1, c1, k1, k2, k3, k4, hx⟩ := id hX
    obtain ⟨s2, A2, n2, c2, k5, k6, k7, k8, hy⟩ := id hY
    obtain ⟨s3, A3, n3, c3, k9, k10, k11, k12, hg⟩ := id hgL
    rw [← HNum.out] at hI
    have hy := hy.other hX s6 A6 n6 c6
    have hg := hg.other hX s6 A6 n6 c6
    have hXn := hX.put hI
    have hY := hY.other hX (by omega) s6 A6 n6 c6
    have hR := hR.set2 (g' := w.heap.size) (by omega) 0 1 (.bool s6) (.slice A6 n6 c6)
    have hBW := hBW.trans (below_set2 (g := w.heap.size) (by omega) 0 1 (.bool s6) (.slice A6 n6 c6))
    go_wp2_with fail
    generalize World.setCell (World.setCell _ _ _) _ _ = W7 at *
    clear k1 k2 k3 k4 k5 k6 k7 k8 k9 k10 k11 k12 hx hI hX hgL
    refine (int_divmod _ _ y LG _ hy.is hg.is hsy hs1 hne).mono ?_
    rintro e W8 ⟨⟨_, _, rfl, ⟨s8, A8, n8, c8, rfl, hI⟩, _⟩, hb⟩
    have hBW := hBW.trans (hb.mono hBW.size)
    have hX := hXn.below hb
    have hY := hY.below hb
    have hR := hR.below hb
    clear hy hg hXn
    obtain ⟨s1, A1, n1, c1, k1, k2, k3, k4, hx⟩ := id hX
    obtain ⟨s2, A2, n2, c2, k5, k6, k7, k8, hy⟩ := id hY
    obtain ⟨d0, d1, d2, d3, df, dl⟩ := id hR
    rw [← HDen.out] at hI
    have hx := hx.other hY s8 A8 n8 c8
    have hy := hI.other hY s8 A8 n8 c8
    have hR := hR.set2 (g' := w.heap.size + 1) (by omega) 0 1 (.bool s8) (.slice A8 n8 c8)
    have hBW := hBW.trans (below_set2 (g := w.heap.size + 1) (by omega) 0 1 (.bool s8) (.slice A8 n8 c8))
    have hP := rat_put hBW (by omega) hR hx hy
    go_wp2
    exact bodyPost_ret (v := .agg #[.bool s1, .slice A1 n1 c1, .bool s8, .slice A8 n8 c8]) (by simp [results, Tryz.results104, go_sem, d0, d1, d2, d3]) rfl ⟨⟨_, rfl, RatP.is ⟨hP.1.1, hP.1.2⟩⟩, hP.2⟩

end Go.Proofs.YtlklgeidffjidaaGreat

/- What the walks of rational arithmetic hold across calls. -/
namespace Go.Proofs.YtlklgeidffjidaaGreat
open Go.RowKit

theorem IsInt.alloc {W : World} {X : Obj} {v : Value} {z : Int} (h : IsInt W v z) : IsInt (W.alloc X) v z := h.below ((Below.refl _ _).alloc (Nat.le_refl _) _)
theorem IsInt.drewn {W : World} {v : Value} {z : Int} (h : IsInt W v z) : IsInt W.drew v z := h.below (below_drew' _)
theorem RC4.alloc {W : World} {X : Obj} {g : Nat} (h : RC4 W g) : RC4 (W.alloc X) g := h.below ((Below.refl _ _).alloc (Nat.le_refl _) _)
theorem RC4.drewn {W : World} {g : Nat} (h : RC4 W g) : RC4 W.drew g := h.below (below_drew' _)
theorem cell_drew {W : World} {g o : Nat} {v : Value} (h : W.cell? ⟨g, o, none⟩ = some v) : W.drew.cell? ⟨g, o, none⟩ = some v := h
theorem ints_two {W : World} {g : Nat} {s t : Bool} {A B : Option Addr} {n c m d : Nat} {x y : Int} (h0 : W.cell? ⟨g, 0, none⟩ = some (.bool s)) (h1 : W.cell? ⟨g, 1, none⟩ = some (.slice A n c)) (h2 : W.cell? ⟨g, 2, none⟩ = some (.bool t)) (h3 : W.cell? ⟨g, 3, none⟩ = some (.slice B m d)) (hI : IntP W s A n c x) (hJ : IntP W t B m d y) : IsInts W (some ⟨g, 0, none⟩) [x, y] := by
  intro j hj
  match j, hj with
  | 0, _ => exact ⟨g, 0, s, A, n, c, rfl, World.block_lt_of_cell? _ _ h0, h0, h1, hI⟩
  | 1, _ => exact ⟨g, 0, t, B, m, d, rfl, World.block_lt_of_cell? _ _ h0, h2, h3, hJ⟩
theorem ints_one {W : World} {g : Nat} {s : Bool} {A : Option Addr} {n c : Nat} {x : Int} (h0 : W.cell? ⟨g, 0, none⟩ = some (.bool s)) (h1 : W.cell? ⟨g, 1, none⟩ = some (.slice A n c)) (hI : IntP W s A n c x) : IsInts W (some ⟨g, 0, none⟩) [x] := by
  intro j hj
  match j, hj with
  | 0, _ => exact ⟨g, 0, s, A, n, c, rfl, World.block_lt_of_cell? _ _ h0, h0, h1, hI⟩
theorem product_two (g : Nat) {s t : Bool} {A B : Option Addr} {n c m d : Nat} (x y : Int) (W : World) (h0 : W.cell? ⟨g, 0, none⟩ = some (.bool s)) (h1 : W.cell? ⟨g, 1, none⟩ = some (.slice A n c)) (h2 : W.cell? ⟨g, 2, none⟩ = some (.bool t)) (h3 : W.cell? ⟨g, 3, none⟩ = some (.slice B m d)) (hI : IntP W s A n c x) (hJ : IntP W t B m d y) (hs : isz x + isz y + 1 ≤ 549755813888) :
    Calls Tryz.prog 106 #[.slice (some ⟨g, 0, none⟩) 2 2] W fun e w' => (∃ v, e = .returned v ∧ IsInt w' v (x * y)) ∧ Below W.heap.size W w' := by
  have e : iprod [x, y] = x * y := by simp [iprod]
  have e2 : isum [x, y] = isz x + isz y + 1 := by simp [isum]
  have h := rat_product (some ⟨g, 0, none⟩) 2 2 [x, y] W (ints_two h0 h1 h2 h3 hI hJ) rfl (by rw [e2]; exact hs) (by simp)
  rw [e] at h
  exact h
theorem product_one (g : Nat) {s : Bool} {A : Option Addr} {n c : Nat} (x : Int) (W : World) (h0 : W.cell? ⟨g, 0, none⟩ = some (.bool s)) (h1 : W.cell? ⟨g, 1, none⟩ = some (.slice A n c)) (hI : IntP W s A n c x) (hs : isz x + 1 ≤ 549755813888) :
    Calls Tryz.prog 106 #[.slice (some ⟨g, 0, none⟩) 1 1] W fun e w' => (∃ v, e = .returned v ∧ IsInt w' v x) ∧ Below W.heap.size W w' := by
  have e : iprod [x] = x := by simp [iprod]
  have e2 : isum [x] = isz x + 1 := by simp [isum]
  have h := rat_product (some ⟨g, 0, none⟩) 1 1 [x] W (ints_one h0 h1 hI) rfl (by rw [e2]; exact hs) (by simp)
  rw [e] at h
  exact h
/-- The result is stored whole. -/
theorem rat_put' {w0 w1 : World} {B0 g : Nat} {s t : Bool} {A B : Option Addr} {n c m d : Nat} {q : Rat} (h0 : Below B0 w0 w1) (hB : B0 ≤ g) (h : RC4 w1 g) (hI : RatP w1 s A n c t B m d q) :
    RatP ((((w1.setCell ⟨g, 0, none⟩ (.bool s)).setCell ⟨g, 1, none⟩ (.slice A n c)).setCell ⟨g, 2, none⟩ (.bool t)).setCell ⟨g, 3, none⟩ (.slice B m d)) s A n c t B m d q ∧
    Below B0 w0 ((((w1.setCell ⟨g, 0, none⟩ (.bool s)).setCell ⟨g, 1, none⟩ (.slice A n c)).setCell ⟨g, 2, none⟩ (.bool t)).setCell ⟨g, 3, none⟩ (.slice B m d)) := rat_put h0 hB h hI.1 hI.2

end Go.Proofs.YtlklgeidffjidaaGreat
