/- Walks of the reference: word, compared, added, taken, times, shortly (eliminantref01). -/
import Derived.Test.YtlklgeidffjidaaGreatMUnivariateRing4
namespace Go.Proofs.YtlklgeidffjidaaGreat
open Go.RowKit
set_option linter.unusedSimpArgs false

set_option maxHeartbeats 400000 in
theorem ref_word (A : Option Addr) (c n : Nat) (z : Int) (i : Nat) (xs : List Nat) (w : World) (hx : Ws w A xs) (hn : n = xs.length) (hz : z = (i : Int)) (hi : i ≤ 4611686018427387904) :
    Calls Tryz.prog 133 #[.slice A n c, .int .i64 z] w fun e w' => e = .returned (.int .u64 ((nth xs i : Nat) : Int)) ∧ w = w' := by
  subst hn; subst hz
  have hl := hx.len
  by_cases h : i < xs.length
  · obtain ⟨b, off, rfl, hb, hcell⟩ := hx.2.2 (by omega)
    have hcm := hcell i h
    have hlt := hx.word i
    go_enter Tryz.func133, Tryz.ntmps133
    go_wp2
    go_ret
    exact ⟨rfl, rfl⟩
  · have Hf : Hid (nth xs i = 0) := by unfold Hid nth; rw [List.getD_eq_getElem?_getD, List.getElem?_eq_none (by omega)]; rfl
    go_enter Tryz.func133, Tryz.ntmps133
    go_wp2
    go_ret
    rw [Hf.out]
    exact ⟨rfl, rfl⟩

set_option maxHeartbeats 1000000 in
set_option maxRecDepth 100000 in
theorem ref_compared (A B : Option Addr) (c d n m : Nat) (xs ys : List Nat) (w : World) (hx : Ws w A xs) (hy : Ws w B ys) (hn : n = xs.length) (hm : m = ys.length) (hxc : words (val xs) = xs) (hyc : words (val ys) = ys) :
    Calls Tryz.prog 114 #[.slice A n c, .slice B m d] w fun e w' => e = .returned (.int .i64 (cmpI (val xs) (val ys))) ∧ Below w.heap.size w w' := by
  subst hn; subst hm
  have hl := hx.len
  have hl' := hy.len
  by_cases hne : xs.length = ys.length
  · have Hne := Lib.hid hne
    have hle1 : xs.length ≤ ys.length := by omega
    have hle2 : ys.length ≤ xs.length := by omega
    have h1 : ((xs.length : Int) < (ys.length : Int)) = False := by simp; omega
    have h2 : ((ys.length : Int) < (xs.length : Int)) = False := by simp; omega
    clear hne
    go_enter Tryz.func114, Tryz.ntmps114
    go_wp2
    go_loopw [5] (fun i wr => ∃ (k : Nat) (z : Int), k ≤ xs.length ∧ i = .int .i64 z ∧ z = (k : Int) - 1 ∧ (∀ j, k ≤ j → j < xs.length → nth xs j = nth ys j) ∧ Below w.heap.size w wr) (fun i _ => (intOf i + 1).toNat)
    case atStart => exact ⟨xs.length, _, Nat.le_refl _, by go_num, rfl, fun j h1 h2 => by omega, Below.refl _ _⟩
    case round =>
      obtain ⟨k, z, hk, rfl, hz, hsame, hb⟩ := hrel
      cases k with
      | succ m =>
        obtain rfl : z = (m : Int) := by omega
        clear hz
        obtain ⟨b, off, hA, hbl, hxc'⟩ := (hx.below hb).2.2 (by omega)
        obtain ⟨b', off', hB, hbl', hyc'⟩ := (hy.below hb).2.2 (by have := Hne.out; omega)
        subst hA; subst hB
        have hxk := hxc' m (by omega)
        have hyk := hyc' m (by have := Hne.out; omega)
        clear hxc' hyc'
        by_cases heq : nth xs m = nth ys m
        · have ht : (((nth xs m : Nat) : Int) < ((nth ys m : Nat) : Int)) = False := by simp; omega
          have ht' : (((nth ys m : Nat) : Int) < ((nth xs m : Nat) : Int)) = False := by simp; omega
          have Heq := Lib.hid heq
          clear heq
          go_wp2
          go_quiet (fail)
          have hb2 := below_drewN' hb nq
          have hxk2 : (wr.drewN nq).cell? ⟨b, off + m, none⟩ = _ := hxk
          have hyk2 : (wr.drewN nq).cell? ⟨b', off' + m, none⟩ = _ := hyk
          go_wp2
          generalize wr.drewN nq = W2 at *
          go_quiet (fail)
          go_wp2
          go_roundw
          case rel => exact ⟨m, _, by omega, by go_num, rfl, fun j h1 h2 => by
            by_cases e : j = m
            · rw [e]; exact Heq.out
            · exact hsame j (by omega) h2, by exact below_drewN' hb2 _⟩
          case measure => simp [intOf]
        · have Hf := Lib.hid (cmp_at hx.1 hy.1 Hne.out (show m < xs.length by omega) (fun j h1 h2 => hsame j (by omega) h2) heq)
          by_cases hlt : nth xs m < nth ys m
          · have ht : (((nth xs m : Nat) : Int) < ((nth ys m : Nat) : Int)) = True := by simp; omega
            have e : cmpI ((nth xs m : Nat) : Int) ((nth ys m : Nat) : Int) = -1 := by unfold cmpI; rw [if_pos (by omega)]
            have HE := Lib.hid e
            clear heq e
            go_wp2
            go_quiet (fail)
            go_wp2
            go_ret
            rw [← Hf.out, HE.out]
            exact ⟨rfl, below_drewN' hb _⟩
          · have ht : (((nth xs m : Nat) : Int) < ((nth ys m : Nat) : Int)) = False := by simp; omega
            have ht' : (((nth ys m : Nat) : Int) < ((nth xs m : Nat) : Int)) = True := by simp; omega
            have e : cmpI ((nth xs m : Nat) : Int) ((nth ys m : Nat) : Int) = 1 := by unfold cmpI; rw [if_neg (by omega), if_pos (by omega)]
            have HE := Lib.hid e
            clear heq e
            go_wp2
            go_quiet (fail)
            have hb2 := below_drewN' hb nq
            have hxk2 : (wr.drewN nq).cell? ⟨b, off + m, none⟩ = _ := hxk
            have hyk2 : (wr.drewN nq).cell? ⟨b', off' + m, none⟩ = _ := hyk
            go_wp2
            generalize wr.drewN nq = W2 at *
            go_quiet (fail)
            go_wp2
            go_ret
            rw [← Hf.out, HE.out]
            exact ⟨rfl, below_drewN' hb2 _⟩
      | zero =>
        obtain rfl : z = -1 := by omega
        have Hf := Lib.hid (cmp_same Hne.out (fun j h => hsame j (by omega) h))
        clear hsame hz
        go_wp2
        go_ret
        rw [Hf.out]
        exact ⟨rfl, hb⟩
  · have Hf := Lib.hid (cmp_len hxc hyc hne)
    by_cases hlt : xs.length < ys.length
    · have e : cmpI (xs.length : Int) ys.length = -1 := by unfold cmpI; rw [if_pos (by omega)]
      have HE := Lib.hid e
      clear hne hxc hyc e
      go_enter Tryz.func114, Tryz.ntmps114
      go_wp2
      go_ret
      rw [← Hf.out, HE.out]
      exact ⟨rfl, Below.refl _ _⟩
    · have e : cmpI (xs.length : Int) ys.length = 1 := by unfold cmpI; rw [if_neg (by omega), if_pos (by omega)]
      have HE := Lib.hid e
      have h3 : ys.length < xs.length := by omega
      clear hne hxc hyc e
      go_enter Tryz.func114, Tryz.ntmps114
      go_wp2
      go_ret
      rw [← Hf.out, HE.out]
      exact ⟨rfl, Below.refl _ _⟩

theorem added_end {xs ys cur : List Nat} {N cc : Nat} (hx : Digs xs) (hy : Digs ys) (h1 : xs.length ≤ N) (h2 : ys.length ≤ N) (hv : val cur + cc * base ^ (N + 1) = val (xs.take (N + 1)) + val (ys.take (N + 1))) : val cur = val xs + val ys := by
  rw [List.take_of_length_le (by omega), List.take_of_length_le (by omega)] at hv
  have a1 : val xs < base ^ N := Nat.lt_of_lt_of_le (val_lt hx) (Nat.pow_le_pow_right base_pos h1)
  have a2 : val ys < base ^ N := Nat.lt_of_lt_of_le (val_lt hy) (Nat.pow_le_pow_right base_pos h2)
  cases cc with
  | zero => omega
  | succ c =>
    exfalso
    rw [Nat.pow_succ, Nat.add_mul, Nat.one_mul] at hv
    have : 2 * base ^ N ≤ base ^ N * base := by rw [Nat.mul_comm]; exact Nat.mul_le_mul_left _ (by decide)
    omega

set_option maxHeartbeats 1000000 in
set_option maxRecDepth 100000 in
theorem ref_added (A B : Option Addr) (c d n m : Nat) (xs ys : List Nat) (w : World) (hx : Ws w A xs) (hy : Ws w B ys) (hn : n = xs.length) (hm : m = ys.length) (hs : xs.length ≤ 1099511627776) (ht : ys.length ≤ 1099511627776) :
    Calls Tryz.prog 113 #[.slice A n c, .slice B m d] w fun e w' => (∃ v, e = .returned v ∧ IsNat w' v (val xs + val ys)) ∧ Below w.heap.size w w' := by
  subst hn; subst hm
  have hl := hx.len
  have hl' := hy.len
  have e : max (xs.length : Int) ys.length = ((max xs.length ys.length : Nat) : Int) := by omega
  have h1 : xs.length ≤ max xs.length ys.length := by omega
  have h2 : ys.length ≤ max xs.length ys.length := by omega
  have h3 : max xs.length ys.length ≤ 1099511627776 := by omega
  go_enter Tryz.func113, Tryz.ntmps113
  go_wp2_with (at_make; refine wp_make_words rfl _ _ 27 107 rfl Tryz.underlying27 info_u32 .i64 .i64 _ _ (max xs.length ys.length + 1) rfl rfl (by simp) (by simp) (by omega) ?_)
  intro W hW hB
  clear e
  generalize max xs.length ys.length = N at *
  go_wp2
  go_loopw [7, 8] (fun cr i wr => ∃ (k cc : Nat) (cur : List Nat), k ≤ N + 1 ∧ cc ≤ 1 ∧ i = .int .i64 (k : Int) ∧ cr = .int .u64 (cc : Int) ∧ cur.length = N + 1 ∧ Digs cur ∧ Zs cur k ∧
      val cur + cc * base ^ k = val (xs.take k) + val (ys.take k) ∧ Wb wr w.heap.size cur ∧ Below w.heap.size w wr) (fun _ i _ => N + 1 - (intOf i).toNat)
  case atStart => exact ⟨0, 0, List.replicate (N + 1) 0, Nat.zero_le _, Nat.zero_le _, rfl, rfl, by simp, Digs.replicate _, Zs.replicate _ _, by simp [val_replicate], hW, hB⟩
  case round =>
    obtain ⟨k, cc, cur, hk, hcc, rfl, rfl, hlen, hd, hz, hv, hw, hb⟩ := hrel
    clear hW hB
    by_cases hlt : k < N + 1
    · have hw1 := hx.word k
      have hw2 := hy.word k
      have e1 : ((lo (nth xs k + nth ys k + cc) : Nat) : Int) = ((nth xs k : Int) + (nth ys k : Int) + (cc : Int)) % 4294967296 := lo_int (by simp)
      have e2 : ((hi (nth xs k + nth ys k + cc) : Nat) : Int) = ((nth xs k : Int) + (nth ys k : Int) + (cc : Int)) / 4294967296 := hi_int (by simp)
      have E1 := Lib.hid e1
      have E2 := Lib.hid e2
      clear e1 e2
      go_wp2_with fail
      refine (ref_word A c _ _ k xs _ (hx.below hb) rfl rfl (by omega)).mono ?_
      rintro e w' ⟨rfl, rfl⟩
      go_wp2_with fail
      refine (ref_word B d _ _ k ys _ (hy.below hb) rfl rfl (by omega)).mono ?_
      rintro e w' ⟨rfl, rfl⟩
      have hcell := hw.cell k (by omega)
      have hfree := hw.free k
      go_wp2
      go_roundw
      case rel =>
        obtain ⟨r1, r2, r3, r4⟩ := add_round hx.1 hy.1 (by omega) hcc hd hz hv
        exact ⟨k + 1, _, _, hlt, r1, by go_num, (congrArg (Value.int .u64) E2.out).symm, by simp [hlen], r2, r3, r4, hw.set' k _ E1.out.symm, hb.setCell (by simp) _⟩
      case measure => simp [intOf]; omega
    · obtain rfl : k = N + 1 := by omega
      have hv2 := added_end hx.1 hy.1 h1 h2 hv
      have hN := ref_trim (some ⟨w.heap.size, 0, none⟩) cur.length cur.length cur _ (hw.ws hd (by omega)) rfl (Nat.le_refl _)
      have hI := (hw.ws hd (by omega)).norm
      have hle := words_val_length_le hd
      rw [hv2] at hN hI hle
      rw [hlen] at hN hle
      clear hv2 hv hlen
      go_wp2_with fail
      refine hN.mono ?_
      rintro e w' ⟨rfl, rfl⟩
      go_wp2
      go_ret
      exact ⟨⟨_, rfl, _, _, rfl, hI, hle⟩, hb⟩

end Go.Proofs.YtlklgeidffjidaaGreat

/- Walks of the reference: taken, times, shortly (eliminantref01). -/
namespace Go.Proofs.YtlklgeidffjidaaGreat
open Go.RowKit
set_option linter.unusedSimpArgs false

theorem dif_ref {a b c : Nat} (_ha : a < 4294967296) (_hb : b < 4294967296) (_hc : c ≤ 1) : ((dif a b c : Nat) : Int) = (4294967296 + (a : Int) - b - c) % 4294967296 := by unfold dif; omega
theorem bor_ref {a b c : Nat} (_ha : a < 4294967296) (_hb : b < 4294967296) (_hc : c ≤ 1) : ((bor a b c : Nat) : Int) = 1 - (4294967296 + (a : Int) - b - c) / 4294967296 := by unfold bor; split <;> omega

set_option maxHeartbeats 1000000 in
set_option maxRecDepth 100000 in
theorem ref_taken (A B : Option Addr) (c d n m : Nat) (xs ys : List Nat) (w : World) (hx : Ws w A xs) (hy : Ws w B ys) (hn : n = xs.length) (hm : m = ys.length) (hs : xs.length ≤ 1099511627776) (hyl : ys.length ≤ xs.length) (hle : val ys ≤ val xs) :
    Calls Tryz.prog 115 #[.slice A n c, .slice B m d] w fun e w' => (∃ v, e = .returned v ∧ IsNat w' v (val xs - val ys)) ∧ Below w.heap.size w w' := by
  subst hn; subst hm
  have hl := hx.len
  have hl' := hy.len
  go_enter Tryz.func115, Tryz.ntmps115
  go_wp2_with (at_make; refine wp_make_words rfl _ _ 27 107 rfl Tryz.underlying27 info_u32 .i64 .i64 _ _ xs.length rfl rfl rfl rfl (by omega) ?_)
  intro W hW hB
  go_wp2
  go_loopw [6, 7] (fun cr i wr => ∃ (k cc : Nat) (cur : List Nat), k ≤ xs.length ∧ cc ≤ 1 ∧ i = .int .i64 (k : Int) ∧ cr = .int .u64 (cc : Int) ∧ cur.length = xs.length ∧ Digs cur ∧ Zs cur k ∧
      val cur + val (ys.take k) = val (xs.take k) + cc * base ^ k ∧ Wb wr w.heap.size cur ∧ Below w.heap.size w wr) (fun _ i _ => xs.length - (intOf i).toNat)
  case atStart => exact ⟨0, 0, List.replicate xs.length 0, Nat.zero_le _, Nat.zero_le _, rfl, rfl, by simp, Digs.replicate _, Zs.replicate _ _, by simp [val_replicate], hW, hB⟩
  case round =>
    obtain ⟨k, cc, cur, hk, hcc, rfl, rfl, hlen, hd, hz, hv, hw, hb⟩ := hrel
    clear hW hB
    by_cases hlt : k < xs.length
    · obtain ⟨b, off, rfl, hbl, hxc⟩ := (hx.below hb.drew).2.2 (by omega)
      have hxk := hxc k hlt
      clear hxc
      have hcell := hw.drew.cell k (by omega)
      have hfree := hw.drew.free k
      have h1 := hx.word k
      have h2 := hy.word k
      have E1 := Lib.hid (dif_ref h1 h2 hcc)
      have E2 := Lib.hid (bor_ref h1 h2 hcc)
      go_wp2
      go_region_with (first
        | (go_at_call 133; refine (ref_word B d _ _ k ys _ (hy.below hb.drew) rfl rfl (by omega)).mono ?_; rintro e w' ⟨rfl, rfl⟩))
      all_goals
        go_wp2
        go_roundw
      all_goals first
        | (obtain ⟨r2, r3, r4⟩ := sub_round hx.1 hy.1 (by omega) hcc hd hz hv
           exact ⟨k + 1, _, _, hlt, bor_le _ _ _, by go_num, (congrArg (Value.int .u64) E2.out).symm, by simp [hlen], r2, r3, r4, hw.drew.set' k _ E1.out.symm, hb.drew.setCell (by simp) _⟩)
        | (simp [intOf]; omega)
    · obtain rfl : k = xs.length := by omega
      have hv2 := sub_end hd hlen hle hyl hv
      have hN := ref_trim (some ⟨w.heap.size, 0, none⟩) cur.length cur.length cur _ (hw.ws hd (by omega)) rfl (Nat.le_refl _)
      have hI := (hw.ws hd (by omega)).norm
      have hle := words_val_length_le hd
      rw [hv2] at hN hI hle
      rw [hlen] at hN hle
      clear hv2 hv hlen
      go_wp2_with fail
      refine hN.mono ?_
      rintro e w' ⟨rfl, rfl⟩
      go_wp2
      go_ret
      exact ⟨⟨_, rfl, _, _, rfl, hI, hle⟩, hb⟩

set_option maxHeartbeats 1000000 in
set_option maxRecDepth 100000 in
theorem ref_times (A B : Option Addr) (c d n m : Nat) (xs ys : List Nat) (w : World) (hx : Ws w A xs) (hy : Ws w B ys) (hn : n = xs.length) (hm : m = ys.length) (hs : xs.length ≤ 1099511627776) (ht : ys.length ≤ 1099511627776) :
    Calls Tryz.prog 116 #[.slice A n c, .slice B m d] w fun e w' => (∃ v, e = .returned v ∧ IsNat w' v (val xs * val ys)) ∧ Below w.heap.size w w' := by
  subst hn; subst hm
  have hl := hx.len
  have hl' := hy.len
  go_enter Tryz.func116, Tryz.ntmps116
  go_wp2_with (at_make; refine wp_make_words rfl _ _ 27 107 rfl Tryz.underlying27 info_u32 .i64 .i64 _ _ (xs.length + ys.length) rfl rfl (by simp) (by simp) (by omega) ?_)
  intro W hW hB
  go_wp2
  go_loopw [6] (fun i wr => ∃ (i' : Nat) (cur : List Nat), i' ≤ xs.length ∧ i = .int .i64 (i' : Int) ∧ cur.length = xs.length + ys.length ∧ Digs cur ∧ Zs cur (i' + ys.length) ∧
      val cur = val (xs.take i') * val ys ∧ Wb wr w.heap.size cur ∧ Below w.heap.size w wr) (fun i _ => xs.length - (intOf i).toNat)
  case atStart => exact ⟨0, List.replicate (xs.length + ys.length) 0, Nat.zero_le _, rfl, by simp, Digs.replicate _, Zs.replicate _ _, by simp [val_replicate], hW, hB⟩
  case round =>
    obtain ⟨i', cur0, hi', rfl, hlen0, hd0, hz0, hv0, hw0, hb0⟩ := hrel
    clear hW hB
    by_cases hlt : i' < xs.length
    · go_wp2
      obtain ⟨wo, rfl⟩ : ∃ wo : World, wo = wr := ⟨_, rfl⟩
      go_loopw [7, 8] (fun cr j wr => ∃ (k cy : Nat) (cur : List Nat), k ≤ ys.length ∧ cy < base ∧ j = .int .i64 (k : Int) ∧ cr = .int .u64 (cy : Int) ∧ cur.length = xs.length + ys.length ∧ Digs cur ∧ Zs cur (i' + ys.length) ∧
        val cur + cy * base ^ (i' + k) = val (xs.take i') * val ys + nth xs i' * val (ys.take k) * base ^ i' ∧ Wb wr w.heap.size cur ∧ Below w.heap.size w wr) (fun _ j _ => ys.length - (intOf j).toNat)
      case atStart => exact ⟨0, 0, cur0, Nat.zero_le _, base_pos, rfl, rfl, hlen0, hd0, hz0, by simp [hv0], hw0, hb0⟩
      case round =>
        obtain ⟨k, cy, cur, hk, hcy, rfl, rfl, hlen, hd, hz, hv, hw, hb⟩ := hrel
        clear hw0 hb0 hd0 hz0 hv0 hlen0
        have hcy' : cy < 4294967296 := hcy
        by_cases hkl : k < ys.length
        · obtain ⟨b, off, rfl, hbl, hxc⟩ := (hx.below hb).2.2 (by omega)
          have hxk := hxc i' hlt
          clear hxc
          obtain ⟨b', off', rfl, hbl', hyc⟩ := (hy.below hb).2.2 (by omega)
          have hyk := hyc k hkl
          clear hyc
          have hcell := hw.cell (i' + k) (by omega)
          have hfree := hw.free (i' + k)
          have h1 := hx.word i'
          have h2 := hy.word k
          have h3 : nth cur (i' + k) < 4294967296 := hd.get _
          have h4 : ((nth xs i' : Nat) : Int) * ((nth ys k : Nat) : Int) ≤ 18446744065119617025 := by have := prod_le h1 h2; rw [← Int.natCast_mul]; omega
          have h5 : 0 ≤ ((nth xs i' : Nat) : Int) * ((nth ys k : Nat) : Int) := Int.mul_nonneg (by omega) (by omega)
          have E1 := Lib.hid (lo_int (n := cy + (nth xs i' * nth ys k + nth cur (i' + k))) (z := ((nth xs i' : Nat) : Int) * ((nth ys k : Nat) : Int) + ((nth cur (i' + k) : Nat) : Int) + (cy : Int)) (by simp; omega))
          have E2 := Lib.hid (hi_int (n := cy + (nth xs i' * nth ys k + nth cur (i' + k))) (z := ((nth xs i' : Nat) : Int) * ((nth ys k : Nat) : Int) + ((nth cur (i' + k) : Nat) : Int) + (cy : Int)) (by simp; omega))
          go_wp2
          go_quiet (fail)
          have hw2 : Wb (wr.drewN nq) w.heap.size cur := hw
          have hb2 := below_drewN' hb nq
          have hcell2 := hw2.cell (i' + k) (by omega)
          have hfree2 := hw2.free (i' + k)
          generalize wr.drewN nq = W2 at *
          go_wp2
          go_roundw
          case rel =>
            obtain ⟨r1, r2, r3⟩ := mul_round hx.1 hy.1 (by omega) hcy hd hv
            exact ⟨k + 1, _, _, hkl, r1, by go_num, (congrArg (Value.int .u64) E2.out).symm, by simp [hlen], r2, hz.set_below _ (by omega), r3, hw2.set' _ _ E1.out.symm, hb2.setCell (by simp) _⟩
          case measure => simp [intOf]; omega
        · obtain rfl : k = ys.length := by omega
          have hcell := hw.cell (i' + ys.length) (by omega)
          have hfree := hw.free (i' + ys.length)
          go_wp2
          go_roundw
          case rel =>
            exact ⟨i' + 1, _, hlt, by go_num, by simp [hlen], hd.set _ _ hcy, by have := hz.set cy; rwa [Nat.add_right_comm] at this, mul_outer hlt hlen hz hv, hw.set _ _, hb.setCell (by simp) _⟩
          case measure => simp [intOf]; omega
    · obtain rfl : i' = xs.length := by omega
      rw [List.take_length] at hv0
      have hN := ref_trim (some ⟨w.heap.size, 0, none⟩) cur0.length cur0.length cur0 _ (hw0.ws hd0 (by omega)) rfl (Nat.le_refl _)
      have hI := (hw0.ws hd0 (by omega)).norm
      have hle := words_val_length_le hd0
      rw [hv0] at hN hI hle
      rw [hlen0] at hN hle
      clear hv0 hlen0
      go_wp2_with fail
      refine hN.mono ?_
      rintro e w' ⟨rfl, rfl⟩
      go_wp2
      go_ret
      exact ⟨⟨_, rfl, _, _, rfl, hI, hle⟩, hb0⟩

set_option maxHeartbeats 1000000 in
set_option maxRecDepth 100000 in
theorem ref_shortly (A : Option Addr) (c n d : Nat) (xs : List Nat) (w : World) (hx : Ws w A xs) (hn : n = xs.length) (hs : xs.length ≤ 1099511627776) (hd0 : 0 < d) (hd1 : d < 4294967296) :
    Calls Tryz.prog 153 #[.slice A n c, .int .u64 (d : Int)] w fun e w' => (∃ v, e = .returned (.tuple #[v, .int .u64 ((val xs % d : Nat) : Int)]) ∧ IsNat w' v (val xs / d)) ∧ Below w.heap.size w w' := by
  subst hn
  have hl := hx.len
  go_enter Tryz.func153, Tryz.ntmps153
  go_wp2_with (at_make; refine wp_make_words rfl _ _ 27 107 rfl Tryz.underlying27 info_u32 .i64 .i64 _ _ xs.length rfl rfl rfl rfl (by omega) ?_)
  intro W hW hB
  go_wp2
  go_loopw [7, 8] (fun re i wr => ∃ (k r : Nat) (z : Int) (cur : List Nat), k ≤ xs.length ∧ r < d ∧ i = .int .i64 z ∧ z = (k : Int) - 1 ∧ re = .int .u64 (r : Int) ∧ cur.length = xs.length ∧ Digs cur ∧ Zb cur k ∧
      val cur * d + r * base ^ k + val (xs.take k) = val xs ∧ Wb wr w.heap.size cur ∧ Below w.heap.size w wr) (fun _ i _ => (intOf i + 1).toNat)
  case atStart => exact ⟨xs.length, 0, _, List.replicate xs.length 0, Nat.le_refl _, hd0, by go_num, rfl, rfl, by simp, Digs.replicate _, Zb.replicate _ _, by simp [val_replicate], hW, hB⟩
  case round =>
    obtain ⟨k, r, z, cur, hk, hr, rfl, hzz, rfl, hlen, hd, hz, hv, hw, hb⟩ := hrel
    clear hW hB
    cases k with
    | succ m =>
      obtain rfl : z = (m : Int) := by omega
      clear hzz
      obtain ⟨b, off, rfl, hbl, hxc⟩ := (hx.below hb).2.2 (by omega)
      have hxk := hxc m (by omega)
      have hcell := hw.cell m (by omega)
      have hfree := hw.free m
      have h1 := hx.word m
      obtain ⟨r1, r2, r3, r4⟩ := word_round hx.1 (by omega) hlen hr hd hz hv
      have hq : (r * base + nth xs m) / d < 4294967296 := by
        rw [Nat.div_lt_iff_lt_mul hd0]
        have : (r + 1) * base ≤ d * base := Nat.mul_le_mul_right _ hr
        unfold base at *
        omega
      have hqi : ((r : Int) * 4294967296 + ((nth xs m : Nat) : Int)) / (d : Int) < 4294967296 := by
        have : ((r : Int) * 4294967296 + ((nth xs m : Nat) : Int)) / (d : Int) = (((r * base + nth xs m) / d : Nat) : Int) := by simp [base]
        rw [this]; omega
      have hq0 : 0 ≤ ((r : Int) * 4294967296 + ((nth xs m : Nat) : Int)) / (d : Int) := Int.ediv_nonneg (by omega) (by omega)
      have E1 := Lib.hid (show ((r : Int) * 4294967296 + ((nth xs m : Nat) : Int)) / (d : Int) = (((r * base + nth xs m) / d : Nat) : Int) by simp [base])
      have E2 := Lib.hid (show ((r : Int) * 4294967296 + ((nth xs m : Nat) : Int)) % (d : Int) = (((r * base + nth xs m) % d : Nat) : Int) by simp [base])
      clear hxc hq
      go_wp2
      go_roundw
      case rel =>
        exact ⟨m, _, _, _, by omega, r1, by go_num, rfl, congrArg (Value.int .u64) E2.out, by simp [hlen], r2, r3, r4, hw.set' _ _ E1.out, hb.setCell (by simp) _⟩
      case measure => simp [intOf]
    | zero =>
      obtain rfl : z = -1 := by omega
      have hq : val cur * d + r = val xs := by simpa using hv
      have hm : val xs % d = r := by rw [← hq, Nat.mul_comm, Nat.mul_add_mod, Nat.mod_eq_of_lt hr]
      have hdv : val xs / d = val cur := by rw [← hq, Nat.mul_comm, Nat.mul_add_div hd0, Nat.div_eq_of_lt hr, Nat.add_zero]
      have hN := ref_trim (some ⟨w.heap.size, 0, none⟩) cur.length cur.length cur _ (hw.ws hd (by omega)) rfl (Nat.le_refl _)
      have hI := (hw.ws hd (by omega)).norm
      have hle := words_val_length_le hd
      rw [hlen] at hN hle
      have HM := Lib.hid hm
      have HD := Lib.hid hdv
      clear hm hdv hq hv hlen hzz hz
      go_wp2_with fail
      refine hN.mono ?_
      rintro e w' ⟨rfl, rfl⟩
      go_wp2
      go_ret2
      rw [HM.out, HD.out]
      exact ⟨⟨_, rfl, _, _, rfl, hI, hle⟩, hb⟩

end Go.Proofs.YtlklgeidffjidaaGreat

/- Walks of the reference: guess, lessen, restore (eliminantref01). -/
namespace Go.Proofs.YtlklgeidffjidaaGreat
open Go.RowKit
set_option linter.unusedSimpArgs false

def GuessB (xs vs : List Nat) (m q r : Nat) : Prop := q * nth vs (m + 1) + r = nth xs (m + 2) * base + nth xs (m + 1) ∧ val xs < (q + 1) * val vs
theorem guessB_start {xs vs : List Nat} {m : Nat} (hx : Digs xs) (hlx : xs.length = m + 3) (hlv : vs.length = m + 2) (hv0 : 0 < nth vs (m + 1)) :
    GuessB xs vs m ((nth xs (m + 2) * base + nth xs (m + 1)) / nth vs (m + 1)) ((nth xs (m + 2) * base + nth xs (m + 1)) % nth vs (m + 1)) := by
  refine ⟨?_, ?_⟩
  · have := Nat.mod_add_div (nth xs (m + 2) * base + nth xs (m + 1)) (nth vs (m + 1))
    rw [Nat.mul_comm (nth vs (m + 1))] at this; omega
  · rw [win_parts hlx, div_parts hlv]
    exact guess_first (hx.get m) (take_lt hx (by omega)) (by
      have := Nat.lt_mul_div_succ (nth xs (m + 2) * base + nth xs (m + 1)) hv0
      rwa [Nat.mul_comm (nth vs (m + 1))] at this)
theorem guessB_step {xs vs : List Nat} {m g r : Nat} (hx : Digs xs) (hlx : xs.length = m + 3) (hlv : vs.length = m + 2) (h : GuessB xs vs m g r) (ht : r * base + nth xs m < g * nth vs m) :
    1 ≤ g ∧ GuessB xs vs m (g - 1) (r + nth vs (m + 1)) := by
  obtain ⟨h2, h3⟩ := h
  have hg : 0 < g := by
    apply Nat.pos_of_ne_zero; intro e; rw [e, Nat.zero_mul] at ht; omega
  obtain ⟨k, rfl⟩ : ∃ k, g = k + 1 := ⟨g - 1, by omega⟩
  refine ⟨hg, ?_, ?_⟩
  · rw [Nat.add_sub_cancel, ← h2, Nat.add_mul, Nat.one_mul]; omega
  · rw [Nat.add_sub_cancel, win_parts hlx, div_parts hlv]
    exact guess_more (take_lt hx (by omega)) h2 ht
theorem guessB_big {xs vs : List Nat} {m g r : Nat} (h : GuessB xs vs m g r) (hX : val xs < val vs * base) (hg : base ≤ g) : 1 ≤ g ∧ GuessB xs vs m (g - 1) (r + nth vs (m + 1)) := by
  obtain ⟨h2, h3⟩ := h
  have := base_pos
  obtain ⟨k, rfl⟩ : ∃ k, g = k + 1 := ⟨g - 1, by omega⟩
  refine ⟨by omega, ?_, ?_⟩
  · rw [Nat.add_sub_cancel, ← h2, Nat.add_mul, Nat.one_mul]; omega
  · rw [Nat.add_sub_cancel]
    have : val vs * base ≤ val vs * (k + 1) := Nat.mul_le_mul_left _ hg
    rw [Nat.mul_comm (k + 1)]; omega
theorem guessB_end {xs vs : List Nat} {m g r : Nat} (_hx : Digs xs) (hv : Digs vs) (hlx : xs.length = m + 3) (hlv : vs.length = m + 2) (h : GuessB xs vs m g r) (hv1 : 0 < nth vs (m + 1)) (hg : g < base) (ht : g * nth vs m ≤ r * base + nth xs m) :
    g < base ∧ val xs < (g + 1) * val vs ∧ g * val vs < val xs + val vs := by
  obtain ⟨h2, h3⟩ := h
  refine ⟨hg, h3, ?_⟩
  have := guess_last (x2 := nth xs m) (x3 := val (xs.take m)) hv1 (take_lt hv (show m ≤ vs.length by omega)) h2 hg ht
  rw [win_parts hlx, div_parts hlv]
  exact this
theorem guessB_break {xs vs : List Nat} {m g r : Nat} (hx : Digs xs) (hv : Digs vs) (hlx : xs.length = m + 3) (hlv : vs.length = m + 2) (h : GuessB xs vs m g r) (hv1 : 0 < nth vs (m + 1)) (hX : val xs < val vs * base) (hr : base ≤ r) :
    g < base ∧ val xs < (g + 1) * val vs ∧ g * val vs < val xs + val vs := by
  have hx0 : nth xs (m + 2) ≤ nth vs (m + 1) := by
    have h1 := win_parts hlx
    have h2 := div_parts hlv
    have h3 := take_lt hv (show m ≤ vs.length by omega)
    have h4 : nth vs m < base := hv.get m
    have h5 : (nth vs m + 1) * base ^ m ≤ base * base ^ m := Nat.mul_le_mul_right _ h4
    apply Nat.le_of_not_lt
    intro hc
    have h6 : (nth vs (m + 1) + 1) * (base * base * base ^ m) ≤ nth xs (m + 2) * (base * base * base ^ m) := Nat.mul_le_mul_right _ hc
    have h7 : val vs < (nth vs (m + 1) + 1) * (base * base ^ m) := by
      rw [h2]
      have e : (nth vs (m + 1) * base + nth vs m) * base ^ m = nth vs (m + 1) * (base * base ^ m) + nth vs m * base ^ m := by grind
      rw [e]
      rw [Nat.add_mul, Nat.one_mul] at h5 ⊢
      omega
    have h8 : val vs * base < (nth vs (m + 1) + 1) * (base * base ^ m) * base := Nat.mul_lt_mul_of_pos_right h7 base_pos
    have h9 : nth xs (m + 2) * (base * base * base ^ m) ≤ val xs := by
      rw [h1]
      have e : ((nth xs (m + 2) * base + nth xs (m + 1)) * base + nth xs m) * base ^ m = nth xs (m + 2) * (base * base * base ^ m) + nth xs (m + 1) * base * base ^ m + nth xs m * base ^ m := by grind
      rw [e]; omega
    have e2 : (nth vs (m + 1) + 1) * (base * base ^ m) * base = (nth vs (m + 1) + 1) * (base * base * base ^ m) := by grind
    omega
  have hgb : g < base := by
    apply Nat.lt_of_not_le
    intro hc
    have h1 : base * nth vs (m + 1) ≤ g * nth vs (m + 1) := Nat.mul_le_mul_right _ hc
    have h2 := h.1
    have h3 : nth xs (m + 2) * base ≤ nth vs (m + 1) * base := Nat.mul_le_mul_right _ hx0
    have h4 : nth xs (m + 1) < base := hx.get _
    rw [Nat.mul_comm base] at h1
    omega
  refine guessB_end hx hv hlx hlv h hv1 hgb ?_
  have h1 : g * nth vs m ≤ base * base := Nat.mul_le_mul (Nat.le_of_lt hgb) (Nat.le_of_lt (hv.get m))
  have h2 : base * base ≤ r * base := Nat.mul_le_mul_right _ hr
  omega

set_option maxHeartbeats 2000000 in
set_option maxRecDepth 100000 in
theorem ref_guess (A B : Option Addr) (c d m : Nat) (xs vs : List Nat) (w : World) (hx : Ws w A xs) (hv : Ws w B vs) (hlx : xs.length = m + 3) (hlv : vs.length = m + 2) (hX : val xs < val vs * base) (hv1 : 0 < nth vs (m + 1)) (hm : m ≤ 1099511627776) :
    Calls Tryz.prog 154 #[.slice A (m + 3) c, .slice B (m + 2) d] w fun e w' => (∃ q : Nat, e = .returned (.int .u64 (q : Int)) ∧ q < base ∧ val xs < (q + 1) * val vs ∧ q * val vs < val xs + val vs) ∧ ∃ n, w' = w.drewN n := by
  obtain ⟨b, off, hA, hbl, hxc⟩ := hx.2.2 (by omega)
  obtain ⟨b', off', hB, hbl', hvc⟩ := hv.2.2 (by omega)
  subst hA; subst hB
  have x0 := hxc (m + 2) (by omega)
  have x1 := hxc (m + 1) (by omega)
  have x2 := hxc m (by omega)
  have v1 := hvc (m + 1) (by omega)
  have v2 := hvc m (by omega)
  have bx0 : nth xs (m + 2) < 4294967296 := hx.word _
  have bx1 : nth xs (m + 1) < 4294967296 := hx.word _
  have bx2 : nth xs m < 4294967296 := hx.word _
  have bv1 : nth vs (m + 1) < 4294967296 := hv.word _
  have bv2 : nth vs m < 4294967296 := hv.word _
  have Hlx := Lib.hid hlx
  have Hlv := Lib.hid hlv
  have HX := Lib.hid hX
  have HG := Lib.hid (guessB_start hx.1 hlx hlv hv1)
  have E1 := Lib.hid (show (((nth xs (m + 2) : Nat) : Int) * 4294967296 + ((nth xs (m + 1) : Nat) : Int)) / ((nth vs (m + 1) : Nat) : Int) = (((nth xs (m + 2) * base + nth xs (m + 1)) / nth vs (m + 1) : Nat) : Int) by simp [base])
  have E2 := Lib.hid (show (((nth xs (m + 2) : Nat) : Int) * 4294967296 + ((nth xs (m + 1) : Nat) : Int)) % ((nth vs (m + 1) : Nat) : Int) = (((nth xs (m + 2) * base + nth xs (m + 1)) % nth vs (m + 1) : Nat) : Int) by simp [base])
  have hq1 : (((nth xs (m + 2) : Nat) : Int) * 4294967296 + ((nth xs (m + 1) : Nat) : Int)) / ((nth vs (m + 1) : Nat) : Int) < 18446744073709551616 := by
    have := Nat.div_le_self (nth xs (m + 2) * base + nth xs (m + 1)) (nth vs (m + 1))
    rw [E1.out]; unfold base at *; omega
  have hq0 : 0 ≤ (((nth xs (m + 2) : Nat) : Int) * 4294967296 + ((nth xs (m + 1) : Nat) : Int)) / ((nth vs (m + 1) : Nat) : Int) := by rw [E1.out]; exact Int.natCast_nonneg _
  have hr0 : (nth xs (m + 2) * base + nth xs (m + 1)) % nth vs (m + 1) < 4294967296 := Nat.lt_trans (Nat.mod_lt _ hv1) bv1
  have hqq : (nth xs (m + 2) * base + nth xs (m + 1)) / nth vs (m + 1) < 18446744073709551616 := by
    have := Nat.div_le_self (nth xs (m + 2) * base + nth xs (m + 1)) (nth vs (m + 1))
    unfold base at *; omega
  generalize (nth xs (m + 2) * base + nth xs (m + 1)) / nth vs (m + 1) = q0 at *
  generalize (nth xs (m + 2) * base + nth xs (m + 1)) % nth vs (m + 1) = r0 at *
  clear hlx hlv hxc hvc hX
  go_enter Tryz.func154, Tryz.ntmps154
  go_wp2
  go_quiet (fail)
  have y0 : (w.drewN nq).cell? ⟨b, off + (m + 2), none⟩ = _ := x0
  have y1 : (w.drewN nq).cell? ⟨b, off + (m + 1), none⟩ = _ := x1
  have y2 : (w.drewN nq).cell? ⟨b, off + m, none⟩ = _ := x2
  have u1 : (w.drewN nq).cell? ⟨b', off' + (m + 1), none⟩ = _ := v1
  have u2 : (w.drewN nq).cell? ⟨b', off' + m, none⟩ = _ := v2
  clear x0 x1 x2 v1 v2
  obtain ⟨W2, HW2⟩ : ∃ W2, Hid (W2 = w.drewN nq) := ⟨_, Lib.hid rfl⟩
  rw [← HW2.out] at y0 y1 y2 u1 u2 ⊢
  go_wp2
  go_loopw [7, 8] (fun s6 s9 wx => ∃ q r n : Nat, GuessB xs vs m q r ∧ q < 18446744073709551616 ∧ r < 4294967296 ∧ s6 = .int .u64 (q : Int) ∧ s9 = .int .u64 (r : Int) ∧ wx = W2.drewN n) (fun s6 _ _ => (intOf s6).toNat)
  case atStart => exact ⟨q0, r0, 0, HG.out, hqq, hr0, congrArg (Value.int .u64) E1.out, congrArg (Value.int .u64) E2.out, rfl⟩
  case round =>
    obtain ⟨q, r, n, hg, hq, hr, rfl, rfl, rfl⟩ := hrel
    have z2 : (W2.drewN n).cell? ⟨b, off + m, none⟩ = _ := y2
    have t1 : (W2.drewN n).cell? ⟨b', off' + (m + 1), none⟩ = _ := u1
    have t2 : (W2.drewN n).cell? ⟨b', off' + m, none⟩ = _ := u2
    obtain ⟨W3, HW3⟩ : ∃ W3, Hid (W3 = W2.drewN n) := ⟨_, Lib.hid rfl⟩
    rw [← HW3.out] at z2 t1 t2 ⊢
    have Hg := Lib.hid hg
    clear hg y0 y1 y2 u1 u2 hq0 hq1
    by_cases hA : base ≤ q
    · have hAi : decide (4294967296 ≤ (q : Int)) = true := by simp; unfold base at hA; omega
      obtain ⟨hqp, hst⟩ := guessB_big Hg.out HX.out hA
      have Hst := Lib.hid hst
      clear hst hA
      go_wp2
      go_quiet (fail)
      have t1' : (W3.drewN nq).cell? ⟨b', off' + (m + 1), none⟩ = _ := t1
      obtain ⟨W4, HW4⟩ : ∃ W4, Hid (W4 = W3.drewN nq) := ⟨_, Lib.hid rfl⟩
      rw [← HW4.out] at t1' ⊢
      by_cases hB : 4294967296 ≤ r + nth vs (m + 1)
      · have hBi : decide (4294967296 ≤ (r : Int) + ((nth vs (m + 1) : Nat) : Int)) = true := by simp; omega
        have HR := Lib.hid (guessB_break hx.1 hv.1 Hlx.out Hlv.out Hst.out hv1 HX.out hB)
        go_wp2
        go_ret
        exact ⟨⟨q - 1, congrArg (fun z => Ending.returned (Value.int .u64 z)) (by omega), HR.out⟩, ⟨_, by rw [HW4.out, HW3.out, HW2.out, World.drewN_drewN, World.drewN_drewN]⟩⟩
      · have hBi : decide (4294967296 ≤ (r : Int) + ((nth vs (m + 1) : Nat) : Int)) = false := by simp; omega
        go_wp2
        go_roundw
        case rel => exact ⟨q - 1, _, _, Hst.out, by omega, by omega, congrArg (Value.int .u64) (by omega), congrArg (Value.int .u64) (by omega), by rw [HW4.out, HW3.out, World.drewN_drewN]⟩
        case measure => simp [intOf]; omega
    · have hAi : decide (4294967296 ≤ (q : Int)) = false := by simp; unfold base at hA; omega
      have hqb : q < 4294967296 := by unfold base at hA; omega
      have hp := prod_le (show q < base from hqb) (show nth vs m < base from bv2)
      have e2 : IntKind.u64.wrap ((q : Int) * ((nth vs m : Nat) : Int)) = (q : Int) * ((nth vs m : Nat) : Int) := by rw [← Int.natCast_mul]; exact u64_wrap_nat (by omega)
      have h5 : 0 ≤ (q : Int) * ((nth vs m : Nat) : Int) := Int.mul_nonneg (by omega) (by omega)
      have h6 : (q : Int) * ((nth vs m : Nat) : Int) ≤ 18446744065119617025 := by rw [← Int.natCast_mul]; omega
      clear hp
      by_cases hC : r * base + nth xs m < q * nth vs m
      · have hCi : decide ((r : Int) * 4294967296 + ((nth xs m : Nat) : Int) < (q : Int) * ((nth vs m : Nat) : Int)) = true := by simp; rw [← Int.natCast_mul]; unfold base at hC; omega
        obtain ⟨hqp, hst⟩ := guessB_step hx.1 Hlx.out Hlv.out Hg.out hC
        have Hst := Lib.hid hst
        clear hst hA hC
        go_wp2
        go_quiet (fail)
        have t1' : (W3.drewN nq).cell? ⟨b', off' + (m + 1), none⟩ = _ := t1
        obtain ⟨W4, HW4⟩ : ∃ W4, Hid (W4 = W3.drewN nq) := ⟨_, Lib.hid rfl⟩
        rw [← HW4.out] at t1' ⊢
        by_cases hB : 4294967296 ≤ r + nth vs (m + 1)
        · have hBi : decide (4294967296 ≤ (r : Int) + ((nth vs (m + 1) : Nat) : Int)) = true := by simp; omega
          have HR := Lib.hid (guessB_break hx.1 hv.1 Hlx.out Hlv.out Hst.out hv1 HX.out hB)
          go_wp2
          go_ret
          exact ⟨⟨q - 1, congrArg (fun z => Ending.returned (Value.int .u64 z)) (by omega), HR.out⟩, ⟨_, by rw [HW4.out, HW3.out, HW2.out, World.drewN_drewN, World.drewN_drewN]⟩⟩
        · have hBi : decide (4294967296 ≤ (r : Int) + ((nth vs (m + 1) : Nat) : Int)) = false := by simp; omega
          go_wp2
          go_roundw
          case rel => exact ⟨q - 1, _, _, Hst.out, by omega, by omega, congrArg (Value.int .u64) (by omega), congrArg (Value.int .u64) (by omega), by rw [HW4.out, HW3.out, World.drewN_drewN]⟩
          case measure => simp [intOf]; omega
      · have hCi : decide ((r : Int) * 4294967296 + ((nth xs m : Nat) : Int) < (q : Int) * ((nth vs m : Nat) : Int)) = false := by simp; rw [← Int.natCast_mul]; unfold base at hC; omega
        have HR := Lib.hid (guessB_end hx.1 hv.1 Hlx.out Hlv.out Hg.out hv1 (by omega) (by omega))
        clear hA hC
        go_wp2
        go_quiet (fail)
        go_wp2
        go_ret
        exact ⟨⟨q, rfl, HR.out⟩, ⟨_, by rw [HW3.out, HW2.out, World.drewN_drewN, World.drewN_drewN]⟩⟩

set_option maxHeartbeats 2000000 in
set_option maxRecDepth 100000 in
theorem ref_lessen (g o c d q N n : Nat) (B : Option Addr) (pre xs post vs : List Nat) (w : World) (hW : Wb w g (pre ++ xs ++ post)) (ho : pre.length = o) (hlx : xs.length = N) (hn : n = vs.length) (hlv : vs.length < N) (hxd : Digs xs) (hv : Ws w B vs)
    (hne : ∀ a, B = some a → a.block ≠ g) (hq : q < base) (hm : N ≤ 1099511627776) :
    Calls Tryz.prog 155 #[.slice (some ⟨g, o, none⟩) N c, .slice B n d, .int .u64 (q : Int)] w fun e w' =>
      ∃ (bo : Nat) (ys : List Nat), e = .returned (.bool (decide ((bo : Int) = 1))) ∧ bo ≤ 1 ∧ ys.length = N ∧ Digs ys ∧ val ys + q * val vs = val xs + bo * base ^ N ∧ Wb w' g (pre ++ ys ++ post) ∧ w.grownBy w' (some g) := by
  have Hlx := Lib.hid hlx
  have Hn := Lib.hid hn
  clear hlx hn
  have hb1 := grown_refl w (some g)
  go_enter Tryz.func155, Tryz.ntmps155
  go_wp2
  go_loopw [7, 8, 9] (fun s10 s11 i wr => ∃ (k cy bo : Nat) (cur : List Nat), k ≤ N ∧ cy < base ∧ bo ≤ 1 ∧ i = .int .i64 (k : Int) ∧ s10 = .int .u64 (cy : Int) ∧ s11 = .int .u64 (bo : Int) ∧ Hid (cur.length = N) ∧ Digs cur ∧ (vs.length < k → cy = 0) ∧
        Hid (val cur + q * val (vs.take k) = val xs + (bo + cy) * base ^ k) ∧ Wb wr g (pre ++ cur ++ post) ∧ w.grownBy wr (some g)) (fun _ _ i _ => N - (intOf i).toNat)
  case atStart => exact ⟨0, 0, 0, xs, Nat.zero_le _, base_pos, Nat.zero_le _, rfl, rfl, rfl, Hlx, hxd, fun _ => rfl, Lib.hid (by simp), hW, hb1⟩
  case round =>
    obtain ⟨k, cy, bo, cur, hk, hcy, hbo, rfl, rfl, rfl, hlen, hd, hz, hV, hw, hg⟩ := hrel
    clear hW hb1
    have hvr := hv.off hne hg
    by_cases hlt : k < N
    · have hcell := hw.wcell ho k (by rw [hlen.out]; exact hlt)
      have hfree := hw.free (o + k)
      have hcy' : cy < 4294967296 := hcy
      have hq' : q < 4294967296 := hq
      have h1 : nth vs k < 4294967296 := hv.word k
      have h2 : nth cur k < 4294967296 := hd.get k
      obtain ⟨r1, r2, r3, r4⟩ := ms_round hv.digs (by rw [hlen.out]; exact hlt) hq hcy hbo hd hV.out hbo
      have h4 : (q : Int) * ((nth vs k : Nat) : Int) ≤ 18446744065119617025 := by have := prod_le hq (show nth vs k < base from h1); rw [← Int.natCast_mul]; omega
      have h5 : 0 ≤ (q : Int) * ((nth vs k : Nat) : Int) := Int.mul_nonneg (by omega) (by omega)
      have El := Lib.hid (lo_int (n := cy + q * nth vs k) (z := (q : Int) * ((nth vs k : Nat) : Int) + (cy : Int)) (by simp; omega))
      have Eh := Lib.hid (hi_int (n := cy + q * nth vs k) (z := (q : Int) * ((nth vs k : Nat) : Int) + (cy : Int)) (by simp; omega))
      have Ed := Lib.hid (dif_ref h2 (lo_lt (cy + q * nth vs k)) hbo)
      have Eb := Lib.hid (bor_ref h2 (lo_lt (cy + q * nth vs k)) hbo)
      rw [El.out] at Ed Eb
      go_wp2_with fail
      refine (ref_word B d _ _ k vs _ hvr Hn.out rfl (by omega)).mono ?_
      rintro e w' ⟨rfl, rfl⟩
      go_wp2
      go_roundw
      case rel =>
        refine ⟨k + 1, _, _, _, hlt, r2, bor_le _ _ _, by go_num, (congrArg (Value.int .u64) Eh.out).symm, (congrArg (Value.int .u64) Eb.out).symm, Lib.hid (by simp [hlen.out]), r3, fun h => ?_, Lib.hid r4, hw.wset ho k _ (by rw [hlen.out]; exact hlt) Ed.out.symm, grown_setCell hg _ _⟩
        have hvk : nth vs k = 0 := by unfold nth; exact (by rw [List.getD_eq_getElem?_getD, List.getElem?_eq_none (by omega)]; rfl)
        rw [hvk, Nat.mul_zero, Nat.add_zero]
        unfold hi; exact Nat.div_eq_of_lt hcy
      case measure => simp [intOf]; omega
    · obtain rfl : k = N := by omega
      have hc0 := hz hlv
      have hV := hV.out
      rw [List.take_of_length_le (by omega), hc0, Nat.add_zero] at hV
      have HV := Lib.hid hV
      clear hV hz hc0
      go_wp2
      go_ret
      exact ⟨bo, cur, congrArg (fun b => Ending.returned (Value.bool b)) (by rw [Bool.eq_iff_iff]; simp), hbo, hlen.out, hd, HV.out, hw, hg⟩

set_option maxHeartbeats 2000000 in
set_option maxRecDepth 100000 in
theorem ref_restore (g o c d N n : Nat) (B : Option Addr) (pre xs post vs : List Nat) (w : World) (hW : Wb w g (pre ++ xs ++ post)) (ho : pre.length = o) (hlx : xs.length = N) (hn : n = vs.length) (hlv : vs.length < N) (hxd : Digs xs) (hv : Ws w B vs)
    (hne : ∀ a, B = some a → a.block ≠ g) (hm : N ≤ 1099511627776) :
    Calls Tryz.prog 156 #[.slice (some ⟨g, o, none⟩) N c, .slice B n d] w fun e w' =>
      ∃ (bo : Nat) (ys : List Nat), e = .returned (.tuple #[]) ∧ bo ≤ 1 ∧ ys.length = N ∧ Digs ys ∧ val ys + bo * base ^ N = val xs + val vs ∧ Wb w' g (pre ++ ys ++ post) ∧ w.grownBy w' (some g) := by
  have Hlx := Lib.hid hlx
  have Hn := Lib.hid hn
  clear hlx hn
  have hb1 := grown_refl w (some g)
  go_enter Tryz.func156, Tryz.ntmps156
  go_wp2
  go_loopw [4, 5] (fun s11 i wr => ∃ (k bo : Nat) (cur : List Nat), k ≤ N ∧ bo ≤ 1 ∧ i = .int .i64 (k : Int) ∧ s11 = .int .u64 (bo : Int) ∧ Hid (cur.length = N) ∧ Digs cur ∧
        Hid (val cur + bo * base ^ k = val xs + val (vs.take k)) ∧ Wb wr g (pre ++ cur ++ post) ∧ w.grownBy wr (some g)) (fun _ i _ => N - (intOf i).toNat)
  case atStart => exact ⟨0, 0, xs, Nat.zero_le _, Nat.zero_le _, rfl, rfl, Hlx, hxd, Lib.hid (by simp), hW, hb1⟩
  case round =>
    obtain ⟨k, bo, cur, hk, hbo, rfl, rfl, hlen, hd, hV, hw, hg⟩ := hrel
    clear hW hb1
    have hvr := (hv.off hne hg).below (below_drew' _)
    by_cases hlt : k < N
    · have hcell := hw.drew.wcell ho k (by rw [hlen.out]; exact hlt)
      have hfree := hw.drew.free (o + k)
      have h1 : nth vs k < 4294967296 := hv.word k
      have h2 : nth cur k < 4294967296 := hd.get k
      have El := Lib.hid (lo_int (n := nth cur k + nth vs k + bo) (z := ((nth cur k : Nat) : Int) + ((nth vs k : Nat) : Int) + (bo : Int)) (by simp))
      have Eh := Lib.hid (hi_int (n := nth cur k + nth vs k + bo) (z := ((nth cur k : Nat) : Int) + ((nth vs k : Nat) : Int) + (bo : Int)) (by simp))
      go_wp2
      go_region_with (first
        | (go_at_call 133; refine (ref_word B d _ _ k vs _ hvr Hn.out rfl (by omega)).mono ?_; rintro e w' ⟨rfl, rfl⟩))
      all_goals
        go_wp2
        go_roundw
      all_goals first
        | (obtain ⟨r1, r2, r3⟩ := back_round hv.digs (by rw [hlen.out]; exact hlt) hbo hd hV.out
           exact ⟨k + 1, _, _, hlt, r1, by go_num, (congrArg (Value.int .u64) Eh.out).symm, Lib.hid (by simp [hlen.out]), r2, Lib.hid r3, hw.drew.wset ho k _ (by rw [hlen.out]; exact hlt) El.out.symm, grown_setCell (grown_drew hg) _ _⟩)
        | (simp [intOf]; omega)
    · obtain rfl : k = N := by omega
      have hV := hV.out
      rw [List.take_of_length_le (by omega)] at hV
      have HV := Lib.hid hV
      clear hV
      go_wp2
      exact bodyPost_end (results_none rfl _ _ _) rfl ⟨bo, cur, rfl, hbo, hlen.out, hd, HV.out, hw, hg⟩

end Go.Proofs.YtlklgeidffjidaaGreat

/- Walks of the reference: divided (eliminantref01). -/
namespace Go.Proofs.YtlklgeidffjidaaGreat
open Go.RowKit
set_option linter.unusedSimpArgs false

theorem refq_zero {X V q y : Nat} (h2 : X < (q + 1) * V) (h : y + q * V = X) : q = X / V ∧ y = X % V := by
  have hV : 0 < V := by
    apply Nat.pos_of_ne_zero; intro e; rw [e, Nat.mul_zero] at h2; omega
  have e : X / V = q := Nat.div_eq_of_lt_le (by omega) h2
  refine ⟨e.symm, ?_⟩
  have := Nat.div_add_mod X V
  rw [e, Nat.mul_comm] at this; omega
theorem refq_one {X V q y z c P : Nat} (h1 : X < (q + 1) * V) (h2 : q * V < X + V) (hy : y < P) (hz : z < P) (hc : c ≤ 1) (h : y + q * V = X + P) (h' : z + c * P = y + V) : 1 ≤ q ∧ q - 1 = X / V ∧ z = X % V := by
  have hq : q ≠ 0 := by intro e; rw [e, Nat.zero_mul] at h; omega
  obtain ⟨r, rfl⟩ : ∃ r, q = r + 1 := ⟨q - 1, by omega⟩
  rw [Nat.add_mul, Nat.one_mul] at h h2
  have h3 : X < (r + 1) * V := by rw [Nat.add_mul, Nat.one_mul]; omega
  have hc1 : c = 1 := by
    rcases Nat.le_one_iff_eq_zero_or_eq_one.1 hc with e | e
    · rw [e, Nat.zero_mul] at h'; omega
    · exact e
  rw [hc1, Nat.one_mul] at h'
  obtain ⟨e1, e2⟩ := refq_zero h3 (show z + r * V = X by omega)
  exact ⟨by omega, by omega, e2⟩

theorem div_initD {us : List Nat} {a b D la n : Nat} (hs : 0 < D) (hul : us.length = la + 1) (hud : Digs us) (huv : val us = a * D) (ha : a < base ^ la) (hb : base ^ (n - 1) ≤ b) (hn : 1 ≤ n) (hle : n ≤ la) :
    DivInv us (List.replicate (la + 1 - n) 0) (la + 1 - n) n 0 (b * D) (a * D) := by
  refine ⟨by omega, by simp, hud, Digs.replicate _, Zb.replicate _ _, by rw [val_replicate, Nat.mul_zero, Nat.add_zero, huv], ?_⟩
  rw [Nat.sub_zero]
  have h1 := val_drop (xs := us) (la + 1 - n) (by omega)
  have h2 : base ^ (la + 1 - n) * val (us.drop (la + 1 - n)) ≤ a * D := by omega
  have h3 : a * D < base ^ la * D := Nat.mul_lt_mul_of_pos_right ha hs
  have h4 : base ^ la = base ^ (la + 1 - n) * base ^ (n - 1) := by rw [← Nat.pow_add]; congr 1; omega
  have h5 : base ^ (la + 1 - n) * val (us.drop (la + 1 - n)) < base ^ (la + 1 - n) * (base ^ (n - 1) * D) := by rw [← Nat.mul_assoc, ← h4]; omega
  have h6 := Nat.lt_of_mul_lt_mul_left h5
  have h7 : base ^ (n - 1) * D ≤ b * D := Nat.mul_le_mul_right _ hb
  omega
theorem div_doneD {us qs : List Nat} {N n a b D : Nat} (h : DivInv us qs N n N (b * D) (a * D)) (hs : 0 < D) : val qs = a / b ∧ val us = a % b * D := by
  obtain ⟨ul, ql, ud, qd, qz, total, top⟩ := h
  rw [Nat.sub_self, List.drop_zero] at top
  have hd : a * D / (b * D) = a / b := Nat.mul_div_mul_right _ _ hs
  have hm : a * D % (b * D) = a % b * D := Nat.mul_mod_mul_right _ _ _
  have hV0 : 0 < b * D := by omega
  have e : a * D = b * D * val qs + val us := by omega
  rw [e, Nat.mul_add_div hV0, Nat.div_eq_of_lt top] at hd
  rw [e, Nat.mul_add_mod, Nat.mod_eq_of_lt top] at hm
  exact ⟨by omega, hm⟩
/-- The factor that makes the first word of the divisor great. -/
theorem scale_fit {b t k : Nat} (hl : (words b).length = k + 1) (ht : nth (words b) k = t) : 0 < base / (t + 1) ∧ base / (t + 1) < base ∧ b * (base / (t + 1)) < base ^ (k + 1) ∧ (words (b * (base / (t + 1)))).length = k + 1 := by
  have htb : t < base := by rw [← ht]; exact (digs_words b).get k
  have ht0 : 0 < t := by rw [← ht]; exact Nat.pos_of_ne_zero (words_last hl)
  have hD0 : 0 < base / (t + 1) := Nat.div_pos (by omega) (by omega)
  have hDb : base / (t + 1) < base := Nat.div_lt_self base_pos (by omega)
  have h1 : val (words b) = val ((words b).take (k + 1)) := by rw [← hl, List.take_length]
  rw [val_words, val_take_succ'] at h1
  have h2 := take_lt (xs := words b) (m := k) (digs_words b) (by omega)
  have h3 : b < (t + 1) * base ^ k := by
    rw [Nat.add_mul, Nat.one_mul, ← ht]; unfold nth; omega
  have h5 : b * (base / (t + 1)) < base ^ (k + 1) := by
    have h6 : b * (base / (t + 1)) < (t + 1) * base ^ k * (base / (t + 1)) := Nat.mul_lt_mul_of_pos_right h3 hD0
    have h7 : (t + 1) * (base / (t + 1)) ≤ base := Nat.mul_div_le _ _
    have h8 : (t + 1) * base ^ k * (base / (t + 1)) = (t + 1) * (base / (t + 1)) * base ^ k := by rw [Nat.mul_right_comm]
    have h9 : (t + 1) * (base / (t + 1)) * base ^ k ≤ base * base ^ k := Nat.mul_le_mul_right _ h7
    rw [Nat.pow_succ, Nat.mul_comm (base ^ k)]; omega
  refine ⟨hD0, hDb, h5, ?_⟩
  apply Nat.le_antisymm (words_length_le h5)
  have := words_length_mono (a := b) (b := b * (base / (t + 1))) (Nat.le_mul_of_pos_right _ hD0)
  omega

theorem Wb.setCells {g : Nat} : ∀ (xs : List Nat) (o : Nat) (ys : List Nat) (w : World), Wb w g ys → o + xs.length ≤ ys.length → Wb (w.setCells g o (xs.map wv)) g (ys.take o ++ xs ++ ys.drop (o + xs.length))
  | [], o, ys, w, h, _ => by simpa [World.setCells] using h
  | x :: r, o, ys, w, h, hl => by
    have hl' : o + (r.length + 1) ≤ ys.length := by simpa using hl
    have := Wb.setCells r (o + 1) _ _ (h.set o x) (by rw [List.length_set]; omega)
    have e1 : (ys.set o x).take (o + 1) = ys.take o ++ [x] := by
      rw [List.take_succ_eq_append_getElem (by rw [List.length_set]; omega)]
      simp [List.take_set_of_le]
    have e2 : (ys.set o x).drop (o + 1 + r.length) = ys.drop (o + (r.length + 1)) := by
      rw [List.drop_set_of_lt (by omega)]; congr 1; omega
    rw [e1, e2] at this
    simpa [World.setCells, List.append_assoc, wv] using this
theorem grown_setCells {w : World} {g : Nat} : ∀ (vs : List Value) (o : Nat) (w' : World), w.grownBy w' (some g) → w.grownBy (w'.setCells g o vs) (some g)
  | [], _, _, h => h
  | v :: r, o, _, h => grown_setCells r (o + 1) _ (grown_setCell h o v)
theorem copy_wb {P : Program} {w : World} {g : Nat} {ys xs : List Nat} {A : Option Addr} (h : Wb w g ys) (hx : Ws w A xs) (hl : xs.length ≤ ys.length) (h0 : 0 < xs.length) (dCap sCap N : Nat) (hN : N = ys.length) (dT sT elem : TypeId)
    (hu : P.underlying dT = some (.slice elem)) (hs : (P.info? elem).map (·.size) = some 1) :
    ∃ w', (∀ ty, (Builtin.copy_ #[dT, sT] ty #[.slice (some ⟨g, 0, none⟩) N dCap, .slice A xs.length sCap]).run P w = .ok (.int .i64 (xs.length : Int)) w') ∧ Wb w' g (xs ++ ys.drop xs.length) ∧ w.grownBy w' (some g) := by
  subst hN
  obtain ⟨b, off, rfl, hb, hc⟩ := hx.2.2 h0
  have hmin : Nat.min xs.length ys.length = xs.length := Nat.min_eq_left hl
  refine ⟨w.setCells g 0 (xs.map wv), fun ty => ?_, ?_, grown_setCells _ _ _ (grown_refl _ _)⟩
  · have := run_copy_cells (P := P) w dT sT ty elem g 0 ys.length dCap ⟨b, off, none⟩ xs.length sCap (xs.map wv) hu hs (by rw [List.length_map, hmin])
      (fun j v hv => hx.news rfl j v hv)
      (fun j hj => by rw [List.length_map] at hj; rw [Nat.zero_add, h.cell j (by omega)]; rfl) (fun j hj => h.free _) (wv_oneCell xs)
    rw [this, List.length_map]; rfl
  · have := Wb.setCells xs 0 ys w h (by omega)
    simpa using this
theorem Wb.win {w : World} {g : Nat} {pre cur post : List Nat} (h : Wb w g (pre ++ cur ++ post)) {o : Nat} (ho : pre.length = o) (hd : Digs cur) (hl : cur.length ≤ 140737488355328) : Ws w (some ⟨g, o, none⟩) cur :=
  ⟨hd, hl, fun _ => ⟨g, o, rfl, h.lt, fun j hj => h.wcell ho j hj⟩⟩
theorem Wb.apart {w w' : World} {g g' : Nat} {ys : List Nat} (h : Wb w g ys) (hg : w.grownBy w' (some g')) (hne : g ≠ g') : Wb w' g ys := by
  obtain ⟨T, hq⟩ := h
  exact ⟨T, by rw [hg.block g (Array.getElem?_eq_some_iff.1 hq).1 (by intro e; injection e with e; exact hne e)]; exact hq⟩
theorem below_grown {g : Nat} {w0 w w' : World} (h : Below w0.heap.size w0 w) (hg : w.grownBy w' (some g)) (hB : w0.heap.size ≤ g) : Below w0.heap.size w0 w' := h.grown hg h.size (by intro k e; injection e with e; omega)
theorem info_u32_size : (Tryz.prog.info? 107).map (·.size) = some 1 := by kernel_rfl

set_option maxHeartbeats 1000000 in
set_option maxRecDepth 100000 in
theorem ref_divided_less (A B : Option Addr) (c d n m a b : Nat) (w : World) (hx : Ws w A (words a)) (hy : Ws w B (words b)) (hn : n = (words a).length) (hm : m = (words b).length) (hc : n ≤ c) (hlt : a < b) :
    Calls Tryz.prog 137 #[.slice A n c, .slice B m d] w fun e w' => (∃ v r, e = .returned (.tuple #[v, r]) ∧ IsNat w' v (a / b) ∧ IsNat w' r (a % b)) ∧ Below w.heap.size w w' := by
  subst hn; subst hm
  have hC := ref_compared A B c d _ _ (words a) (words b) w hx hy rfl rfl (by rw [val_words]) (by rw [val_words])
  have e : cmpI (a : Int) (b : Int) = -1 := by unfold cmpI; rw [if_pos (by omega)]
  rw [val_words, val_words, e] at hC
  have hd : a / b = 0 := Nat.div_eq_of_lt hlt
  have hmod : a % b = a := Nat.mod_eq_of_lt hlt
  rw [hd, hmod]
  clear e hd hmod
  go_enter Tryz.func137, Tryz.ntmps137
  go_wp2_with fail
  refine hC.mono ?_
  rintro e w1 ⟨rfl, hb⟩
  clear hC
  go_wp2
  go_ret2
  refine ⟨⟨_, _, rfl, ⟨none, 0, by rw [words_zero]; rfl, by rw [words_zero]; exact Ws.nil _ _, by rw [words_zero]; exact Nat.le_refl _⟩, ⟨A, c, rfl, hx.below hb, hc⟩⟩, hb⟩

set_option maxHeartbeats 1000000 in
set_option maxRecDepth 100000 in
theorem ref_divided_word (A B : Option Addr) (c d n m a b : Nat) (w : World) (hx : Ws w A (words a)) (hy : Ws w B (words b)) (hn : n = (words a).length) (hm : m = (words b).length) (hs : n ≤ 1099511627776) (hle : b ≤ a) (h1 : m = 1) :
    Calls Tryz.prog 137 #[.slice A n c, .slice B m d] w fun e w' => (∃ v r, e = .returned (.tuple #[v, r]) ∧ IsNat w' v (a / b) ∧ IsNat w' r (a % b)) ∧ Below w.heap.size w w' := by
  subst hn
  obtain ⟨e1, e2⟩ := words_single (hm ▸ h1)
  subst h1
  clear hm
  have hC := ref_compared A B c d _ 1 (words a) (words b) w hx hy rfl (by rw [e1]; rfl) (by rw [val_words]) (by rw [val_words])
  have hcm : (cmpI (a : Int) (b : Int) < 0) = False := by unfold cmpI; rw [if_neg (by omega)]; split <;> simp
  rw [val_words, val_words] at hC
  have hb0 : 0 < b := by
    apply Nat.pos_of_ne_zero; intro e; rw [e, words_zero] at e1; cases e1
  obtain ⟨b', off, rfl, hbl, hcell⟩ := hy.2.2 (by rw [e1]; simp)
  have hcell0 := hcell 0 (by rw [e1]; simp)
  have e3 : nth (words b) 0 = b := by rw [e1]; rfl
  rw [e3] at hcell0
  clear hcell e1 e3
  generalize cmpI (a : Int) (b : Int) = cc at *
  have hcm' : decide (cc < 0) = false := by simp [hcm]
  have hcm'' : ¬ cc < 0 := by simp [hcm]
  have hW := fun W (hW : Below w.heap.size w W) => ref_shortly A c _ b (words a) W (hx.below hW) rfl hs hb0 e2
  rw [val_words] at hW
  have hr : a % b < base := Nat.lt_trans (Nat.mod_lt _ hb0) e2
  have hrr := fun W => ref_words (a % b) W (by unfold base at hr; omega)
  generalize a % b = r at *
  clear hcm
  have e4 : b < 4294967296 := e2
  go_enter Tryz.func137, Tryz.ntmps137
  go_wp2_with fail
  refine hC.mono ?_
  rintro e w1 ⟨rfl, hb⟩
  clear hC
  have hcell1 := (hb.cell (p := ⟨b', off + 0, none⟩) hbl).trans hcell0
  simp only [Nat.add_zero] at hcell1
  have hW := hW w1 hb
  go_wp2_with fail
  refine hW.mono ?_
  rintro e w2 ⟨⟨v, rfl, hv⟩, hb2⟩
  clear hcell0 hcell1 hW
  go_wp2_with fail
  refine (hrr _).mono ?_
  rintro e w3 ⟨⟨v3, rfl, hv3⟩, hb3⟩
  go_wp2
  go_ret2
  exact ⟨⟨_, _, rfl, hv.below hb3, hv3⟩, (hb.trans (hb2.mono hb.size)).trans (hb3.mono (Nat.le_trans hb.size hb2.size))⟩

set_option maxHeartbeats 4000000 in
set_option maxRecDepth 100000 in
theorem ref_divided_great (A B : Option Addr) (c d n m k a b : Nat) (w : World) (hx : Ws w A (words a)) (hy : Ws w B (words b)) (hn : n = (words a).length) (hm : m = (words b).length) (hc : n ≤ c) (hd : m ≤ d) (hs : n ≤ 1099511627775) (hle : b ≤ a) (hk : m = k + 2) :
    Calls Tryz.prog 137 #[.slice A n c, .slice B m d] w fun e w' => (∃ v r, e = .returned (.tuple #[v, r]) ∧ IsNat w' v (a / b) ∧ IsNat w' r (a % b)) ∧ Below w.heap.size w w' := by
  have hmn : (words b).length ≤ (words a).length := words_length_mono hle
  have hC := ref_compared A B c d _ _ (words a) (words b) w hx hy rfl rfl (by rw [val_words]) (by rw [val_words])
  have hcm : (cmpI (a : Int) (b : Int) < 0) = False := by unfold cmpI; rw [if_neg (by omega)]; split <;> simp
  rw [val_words, val_words] at hC
  have hl2 : (words b).length = k + 2 := by omega
  obtain ⟨b', off, hB, hbl, hcell⟩ := hy.2.2 (by omega)
  subst hB
  have hcell0 := hcell (k + 1) (by omega)
  have htop : nth (words b) (k + 1) < 4294967296 := hy.word (k + 1)
  have htop0 : 0 < nth (words b) (k + 1) := Nat.pos_of_ne_zero (words_last hl2)
  obtain ⟨hD0, hDb, hfit, hvl⟩ := scale_fit hl2 (t := nth (words b) (k + 1)) rfl
  clear hcell
  generalize nth (words b) (k + 1) = t at *
  generalize cmpI (a : Int) (b : Int) = cc at *
  have hcm' : decide (cc < 0) = false := by simp [hcm]
  have hcm'' : ¬ cc < 0 := by simp [hcm]
  clear hcm
  obtain ⟨D, HD⟩ : ∃ D, Hid (D = base / (t + 1)) := ⟨_, Lib.hid rfl⟩
  rw [← HD.out] at hD0 hDb hfit hvl
  have HDi : Hid ((4294967296 : Int) / ((t : Int) + 1) = (D : Int)) := Lib.hid (by rw [HD.out]; simp [base])
  have hDb' : D < 4294967296 := hDb
  obtain ⟨T, hT⟩ : ∃ T : Int, (t : Int) + 1 = T := ⟨_, rfl⟩
  have hT1 : 1 ≤ T := by omega
  have hT2 : T ≤ 4294967296 := by omega
  rw [hT] at HDi
  have q0 : 0 ≤ (4294967296 : Int) / T := by rw [HDi.out]; omega
  have q1 : (4294967296 : Int) / T < 4294967296 := by rw [HDi.out]; omega
  have hW := fun W => ref_words D W (by omega)
  have Hl2 := Lib.hid hl2
  have Hvl := Lib.hid hvl
  have Hn := Lib.hid hn
  clear hvl hn
  rw [hl2] at hC
  rw [← Hn.out] at hC
  have hnk : k + 2 ≤ n := by have := Hn.out; omega
  clear hl2 hmn hm
  subst hk
  have hTb := fun W (hW : Below w.heap.size w W) A' c' (hv : Ws W A' (words D)) => ref_times (some ⟨b', off, none⟩) A' d c' _ _ (words b) (words D) W (hy.below hW) hv Hl2.out.symm rfl (by have := Hl2.out; omega) (Nat.le_trans (words_length_le (k := 1) (by simpa using hDb)) (by omega))
  have hTa := fun W (hW : Below w.heap.size w W) A' c' (hv : Ws W A' (words D)) => ref_times A A' c c' _ _ (words a) (words D) W (hx.below hW) hv Hn.out rfl (by have := Hn.out; omega) (Nat.le_trans (words_length_le (k := 1) (by simpa using hDb)) (by omega))
  simp only [val_words] at hTa hTb
  obtain ⟨V, HV⟩ : ∃ V, Hid (V = b * D) := ⟨_, Lib.hid rfl⟩
  rw [← HV.out] at hTb
  have hVlt : V < base ^ (k + 2) := by rw [HV.out]; exact hfit
  have HvV : Hid ((words V).length = k + 2) := Lib.hid (by rw [HV.out]; exact Hvl.out)
  have HVlt := Lib.hid hVlt
  have HDb := Lib.hid hDb
  clear hfit hVlt hDb
  go_enter Tryz.func137, Tryz.ntmps137
  go_wp2_with fail
  refine hC.mono ?_
  rintro e w1 ⟨rfl, hb⟩
  clear hC
  have hcell1 := (hb.cell (p := ⟨b', off + (k + 1), none⟩) hbl).trans hcell0
  go_wp2_with fail
  rw [HDi.out]
  refine (hW _).mono ?_
  rintro e w2 ⟨⟨_, rfl, A1, d1, rfl, hd1, hd1c⟩, hb2⟩
  have hbw2 := hb.trans (hb2.mono hb.size)
  go_wp2_with fail
  refine (hTb _ hbw2 _ _ hd1).mono ?_
  rintro e w3 ⟨⟨_, rfl, A2, d2, rfl, hV, hVc⟩, hb3⟩
  have hbw3 := hbw2.trans (hb3.mono hbw2.size)
  rw [HvV.out] at hVc ⊢
  obtain ⟨bV, oV, hA2, hbV, _⟩ := hV.2.2 (by rw [HvV.out]; omega)
  subst hA2
  go_wp2_with (at_make; refine wp_make_words rfl _ _ 27 107 rfl Tryz.underlying27 info_u32 .i64 .i64 _ _ (n + 1) rfl rfl (by go_num) (by go_num) (by omega) ?_)
  intro W4 hU hB4
  have hbw4 := hbw3.trans (hB4.mono hbw3.size)
  have hV4 := hV.below hB4
  have hgU : w3.heap.size < W4.heap.size := hU.lt
  obtain ⟨gU, HgU⟩ : ∃ g, Hid (g = w3.heap.size) := ⟨_, Lib.hid rfl⟩
  rw [← HgU.out] at hU hgU hbV ⊢
  clear hV hcell1 hcell0
  go_wp2_with fail
  refine (hW _).mono ?_
  rintro e w5 ⟨⟨_, rfl, A3, d3, rfl, hd3, hd3c⟩, hb5⟩
  have hbw5 := hbw4.trans (hb5.mono hbw4.size)
  have hU5 := hU.keep hb5
  have hV5 := hV4.below hb5
  clear hU hV4
  go_wp2_with fail
  refine (hTa _ hbw5 _ _ hd3).mono ?_
  rintro e w6 ⟨⟨_, rfl, A4, d4, rfl, hP, hPc⟩, hb6⟩
  have hbw6 := hbw5.trans (hb6.mono hbw5.size)
  have hU6 := hU5.keep hb6
  have hV6 := hV5.below hb6
  clear hU5 hV5
  have hlen : (words (a * D)).length ≤ n + 1 := by
    have h1 := words_length_mul a D
    have h2 : (words D).length ≤ 1 := words_length_le (k := 1) (by rw [Nat.pow_one]; exact HDb.out)
    have := Hn.out; omega
  have ha0 : 0 < a := by
    apply Nat.pos_of_ne_zero; intro e; have h1 := Hn.out; rw [e, words_zero] at h1; simp at h1; omega
  have hlen0 : 0 < (words (a * D)).length := by
    apply Nat.pos_of_ne_zero; intro e
    have := words_eq_nil.1 (List.eq_nil_of_length_eq_zero e)
    have := Nat.mul_pos ha0 hD0; omega
  obtain ⟨W7, hcp, hU7, hg7⟩ := copy_wb (P := Tryz.prog) hU6 hP (by rw [List.length_replicate]; exact hlen) hlen0 (n + 1) d4 (n + 1) (by simp) 27 27 _ Tryz.underlying27 info_u32_size
  have hUl : (words (a * D) ++ (List.replicate (n + 1) 0).drop (words (a * D)).length).length = n + 1 := by simp; omega
  have hUv : val (words (a * D) ++ (List.replicate (n + 1) 0).drop (words (a * D)).length) = a * D := by
    rw [val_append, val_words, List.drop_replicate, val_replicate]; omega
  have hUd : Digs (words (a * D) ++ (List.replicate (n + 1) 0).drop (words (a * D)).length) := (digs_words _).append ((Digs.replicate _).drop _)
  generalize words (a * D) ++ (List.replicate (n + 1) 0).drop (words (a * D)).length = us at *
  have hV7 : Ws W7 (some ⟨bV, oV, none⟩) (words V) := hV6.off (by intro a e; cases e; show bV ≠ gU; omega) hg7
  have hgUw : w.heap.size ≤ gU := by rw [HgU.out]; exact hbw3.size
  have hbw7 : Below w.heap.size w W7 := hbw6.trans ⟨hg7.os, hg7.tape, hg7.output, hg7.size, fun b hb => hg7.block b (Nat.lt_of_lt_of_le hb hbw6.size) (by intro e; injection e with e; omega)⟩
  have hD := div_initD (us := us) (a := a) (b := b) (D := D) (la := n) (n := k + 2) hD0 hUl hUd hUv (by have := lt_pow_words a; rwa [← Hn.out] at this) (le_of_words Hl2.out) (by omega) hnk
  rw [show n + 1 - (k + 2) = n - k - 1 from by omega, ← HV.out] at hD
  have hz7 : gU < W7.heap.size := hU7.lt
  clear hU6 hV6 hg7 hUl hUv hUd hP hPc hd3 hd3c hd1 hd1c hlen hlen0 hgU
  go_wp2_with (first
    | (at_builtin; refine Lib.wpList_copy_run _ rfl _ _ 27 27 rfl _ _ rfl rfl (hcp _) ?_)
    | (at_make; refine wp_make_words rfl _ _ 27 107 rfl Tryz.underlying27 info_u32 .i64 .i64 _ _ (n - k - 1) rfl rfl (by omega) (by omega) (by omega) ?_))
  clear hcp
  intro W8 hQ hB8
  have hbw8 := hbw7.trans (hB8.mono hbw7.size)
  have hU8 := hU7.keep hB8
  have hV8 := hV7.below hB8
  obtain ⟨gQ, HgQ⟩ : ∃ g, Hid (g = W7.heap.size) := ⟨_, Lib.hid rfl⟩
  rw [← HgQ.out] at hQ hz7 ⊢
  have hgQw : w.heap.size ≤ gQ := by omega
  clear hU7 hV7
  obtain ⟨N, HN⟩ : ∃ N, Hid (N = n - k - 1) := ⟨_, Lib.hid rfl⟩
  rw [← HN.out] at hD hQ ⊢
  have hNle : N + k + 1 = n := by have := HN.out; omega
  have HNle := Lib.hid hNle
  have hNn : N ≤ n := by omega
  have hN1 : N + k ≤ n := by omega
  have hN2 : N + k + 1 ≤ n := by omega
  have hN3 : n ≤ N + k + 1 := by omega
  clear hNle hb hbw2 hbw3 hbw4 hbw5 hbw6 hB4 hb5 hb6 hb2 hb3 hnk
  have ej : (n : Int) - (k + 2) = (N : Int) - 1 := by omega
  have ejn : (n : Int) - (k + 2) + 1 = (N : Int) := by omega
  have hgg : gQ ≠ gU := by omega
  go_wp2_with fail
  clear ej ejn
  go_loopw [13] (fun i wr => ∃ (j : Nat) (z : Int) (us qs : List Nat), j ≤ N ∧ i = .int .i64 z ∧ z = (j : Int) - 1 ∧ DivInv us qs N (k + 2) (N - j) V (a * D) ∧
      Wb wr gU us ∧ Wb wr gQ qs ∧ Ws wr (some ⟨bV, oV, none⟩) (words V) ∧ Below w.heap.size w wr) (fun i _ => (intOf i + 1).toNat)
  case atStart => exact ⟨N, _, us, _, Nat.le_refl _, rfl, rfl, by rw [Nat.sub_self]; exact hD, hU8, hQ, hV8, hbw8⟩
  case round =>
    clear hD hU8 hQ hV8 hbw8 hbw7 hB8
    obtain ⟨j, z, us, qs, hj, rfl, hz, hD, hU, hQ, hV, hB⟩ := hrel
    cases j with
    | succ j =>
      obtain rfl : z = (j : Int) := by omega
      clear hz
      have ei : N - 1 - (N - (j + 1)) = j := by omega
      have ei2 : N - (j + 1) + 1 = N - j := by omega
      obtain ⟨r1, r2, r3, r4⟩ := div_round hD (show N - (j + 1) < N by omega) HVlt.out
      rw [ei] at r1 r2 r3 r4
      rw [ei2] at r4
      have hu := hD.ul
      obtain ⟨s1, s2, s3⟩ := div_split hu (show j < N by omega)
      rw [s1] at hU
      generalize (List.take (k + 2 + 1) (List.drop j us)) = mid at *
      obtain ⟨bU, hbU⟩ : ∃ bU, bU = gU := ⟨_, rfl⟩
      have hwv := hV.word (k + 1)
      have hwv0 : 0 < nth (words V) (k + 1) := Nat.pos_of_ne_zero (words_last HvV.out)
      have hG := fun (c' : Nat) => ref_guess (some ⟨gU, j, none⟩) (some ⟨bV, oV, none⟩) c' d2 k mid (words V) wr (hU.win s2 r1 (by omega)) hV s3 HvV.out (by rw [val_words]; exact r2) hwv0 (by omega)
      simp only [val_words] at hG
      have hm1 : mid.length = k + 3 := s3
      have hpl : (us.take j).length = j := s2
      clear s1 s2 s3 hwv hwv0 ei ei2
      have HD := Lib.hid hD
      have R4 := Lib.hid r4
      have R1 := Lib.hid r1
      have Hm1 := Lib.hid hm1
      have Hpl := Lib.hid hpl
      clear hD r4 r1 r2 r3 hm1 hpl hu
      go_wp2_with fail
      rw [show j + (k + 2) + 1 - j = k + 3 from by omega]
      refine (hG _).mono ?_
      rintro e w2 ⟨⟨q, rfl, hq, hq1, hq2⟩, nn, rfl⟩
      clear hG
      have hq' : q < 4294967296 := hq
      have hU1 : Wb (wr.drewN nn) gU (us.take j ++ mid ++ us.drop (j + (k + 2 + 1))) := hU
      have hQ1 : Wb (wr.drewN nn) gQ qs := hQ
      have hV1 : Ws (wr.drewN nn) (some ⟨bV, oV, none⟩) (words V) := hV
      have hB1 := below_drewN' hB nn
      obtain ⟨W1, HW1⟩ : ∃ W1, Hid (W1 = wr.drewN nn) := ⟨_, Lib.hid rfl⟩
      rw [← HW1.out] at hU1 hQ1 hV1 hB1 ⊢
      clear hU hQ hV hB
      have Hq1 := Lib.hid hq1
      have Hq2 := Lib.hid hq2
      clear hq1 hq2
      go_wp2_with fail
      refine (ref_lessen gU j _ d2 q (k + 3) (k + 2) (some ⟨bV, oV, none⟩) (us.take j) mid (us.drop (j + (k + 2 + 1))) (words V) W1 hU1 Hpl.out Hm1.out HvV.out.symm (by rw [HvV.out]; omega) R1.out hV1 (by intro a e; cases e; show bV ≠ gU; omega) hq (by omega)).mono ?_
      rintro e w2 ⟨bo, ys, rfl, hbo, hyl, hyd, hyv, hU2, hg2⟩
      rw [val_words] at hyv
      have hQ2 := hQ1.apart hg2 hgg
      have hV2 := hV1.off (by intro a e; cases e; show bV ≠ gU; omega) hg2
      have hB2 := below_grown hB1 hg2 hgUw
      clear hU1 hQ1 hV1 hB1 hg2
      have hql := HD.out.ql
      have hcell := hQ2.cell j (by omega)
      have hfree := hQ2.free j
      have Hyv := Lib.hid hyv
      have Hyl := Lib.hid hyl
      have Hql := Lib.hid hql
      clear hyv hyl hql
      obtain rfl | rfl : bo = 0 ∨ bo = 1 := by omega
      · obtain ⟨e1, e2⟩ := refq_zero Hq1.out (by have := Hyv.out; rwa [Nat.zero_mul, Nat.add_zero] at this)
        have E1 := Lib.hid e1
        have E2 := Lib.hid e2
        clear e1 e2
        go_wp2_with fail
        go_roundw
        case rel =>
          refine ⟨j, _, _, _, by omega, by go_num, rfl, R4.out ys Hyl.out hyd E2.out, ?_, hQ2.set' _ _ (by rw [← E1.out]), ?_, ?_⟩
          · obtain ⟨T, hq⟩ := hU2
            exact ⟨T, by rw [Below.heap_setCell _ _ _ _ (by simp; omega)]; exact hq⟩
          · exact hV2.off (by intro a h; cases h; simp; omega) (grown_setCell (grown_refl _ _) _ _)
          · exact Below.setCell hB2 (by simp; omega) _
        case measure => simp [intOf]
      · go_wp2_with fail
        refine (ref_restore gU j _ d2 (k + 3) (k + 2) (some ⟨bV, oV, none⟩) (us.take j) ys (us.drop (j + (k + 2 + 1))) (words V) w2 hU2 Hpl.out Hyl.out HvV.out.symm (by rw [HvV.out]; omega) hyd hV2 (by intro a e; cases e; show bV ≠ gU; omega) (by omega)).mono ?_
        rintro e w3 ⟨co, zs, rfl, hco, hzl, hzd, hzv, hU3, hg3⟩
        rw [val_words] at hzv
        have hQ3 := hQ2.apart hg3 hgg
        have hV3 := hV2.off (by intro a e; cases e; show bV ≠ gU; omega) hg3
        have hB3 := below_grown hB2 hg3 hgUw
        have hcell := hQ3.cell j (by have := Hql.out; omega)
        have hfree := hQ3.free j
        obtain ⟨e0, e1, e2⟩ := refq_one Hq1.out Hq2.out (by have := val_lt hyd; rwa [Hyl.out] at this) (by have := val_lt hzd; rwa [hzl] at this) hco (by have := Hyv.out; rwa [Nat.one_mul] at this) hzv
        have E1 := Lib.hid e1
        have E2 := Lib.hid e2
        have Hzl := Lib.hid hzl
        clear e1 e2 hzl hzv hU2 hQ2 hV2 hB2 hg3
        go_wp2_with fail
        go_roundw
        case rel =>
          refine ⟨j, _, _, _, by omega, by go_num, rfl, R4.out zs Hzl.out hzd E2.out, ?_, hQ3.set' _ _ (by rw [← E1.out]; omega), ?_, ?_⟩
          · obtain ⟨T, hq⟩ := hU3
            exact ⟨T, by rw [Below.heap_setCell _ _ _ _ (by simp; omega)]; exact hq⟩
          · exact hV3.off (by intro a h; cases h; simp; omega) (grown_setCell (grown_refl _ _) _ _)
          · exact Below.setCell hB3 (by simp; omega) _
        case measure => simp [intOf]
    | zero =>
      obtain rfl : z = -1 := by omega
      clear hz
      rw [Nat.sub_zero, HV.out] at hD
      obtain ⟨e1, e2⟩ := div_doneD hD hD0
      have hul := hD.ul
      have hql := hD.ql
      have hqw := hQ.ws hD.qd (by omega)
      have huw := hU.ws hD.ud (by omega)
      have hN1 := fun W (hW : Below wr.heap.size wr W) => ref_trim _ N N qs W (hqw.below hW) hql.symm (Nat.le_of_eq hql)
      have hN2 := ref_trim _ (n + 1) (n + 1) us wr huw (by omega) (by omega)
      have htop := hD.top
      rw [Nat.sub_self, List.drop_zero, ← HV.out] at htop
      have hlu : (words (val us)).length ≤ 1099511627776 := Nat.le_trans (words_length_mono (Nat.le_of_lt htop)) (by rw [HvV.out]; omega)
      have hqn := hqw.norm
      have hun := huw.norm
      rw [e1] at hN1 hqn
      have hS := ref_shortly (some ⟨gU, 0, none⟩) (n + 1) (words (val us)).length D (words (val us)) wr hun rfl hlu hD0 hDb'
      rw [val_words, e2, Nat.mul_div_cancel _ hD0] at hS
      have hlq : (words (a / b)).length ≤ N := by rw [← e1]; exact Nat.le_trans (words_val_length_le hD.qd) (by omega)
      rw [e2] at hN2
      clear e1 e2 hul hql htop hlu
      generalize a % b * D % D = rr at *
      go_wp2_with fail
      refine hN2.mono ?_
      rintro e w6 ⟨rfl, rfl⟩
      go_wp2_with fail
      refine hS.mono ?_
      rintro e w7 ⟨⟨v, rfl, hv⟩, hb7⟩
      have hqn := hqn.below hb7
      have hN1 := hN1 _ hb7
      have hB := hB.trans (hb7.mono hB.size)
      go_wp2_with fail
      refine hN1.mono ?_
      rintro e w8 ⟨rfl, rfl⟩
      go_wp2
      go_ret2
      exact ⟨⟨_, _, rfl, ⟨_, _, rfl, hqn, hlq⟩, hv⟩, hB⟩

end Go.Proofs.YtlklgeidffjidaaGreat

/- Walks of the reference: number, euclid, common, Gcd (eliminantref01). -/
namespace Go.Proofs.YtlklgeidffjidaaGreat
open Go.RowKit
set_option linter.unusedSimpArgs false

theorem ref_divided (A B : Option Addr) (c d n m a b : Nat) (w : World) (hx : Ws w A (words a)) (hy : Ws w B (words b)) (hn : n = (words a).length) (hm : m = (words b).length) (hc : n ≤ c) (hd : m ≤ d) (hs : n ≤ 1099511627775) (hb : 0 < b) :
    Calls Tryz.prog 137 #[.slice A n c, .slice B m d] w fun e w' => (∃ v r, e = .returned (.tuple #[v, r]) ∧ IsNat w' v (a / b) ∧ IsNat w' r (a % b)) ∧ Below w.heap.size w w' := by
  by_cases hlt : a < b
  · exact ref_divided_less A B c d n m a b w hx hy hn hm hc hlt
  · have h0 : m ≠ 0 := by
      intro e; rw [hm] at e; have := words_eq_nil.1 (List.eq_nil_of_length_eq_zero e); omega
    by_cases h1 : m = 1
    · exact ref_divided_word A B c d n m a b w hx hy hn hm (by omega) (by omega) h1
    · exact ref_divided_great A B c d n m (m - 2) a b w hx hy hn hm hc hd hs (by omega) (by omega)

set_option maxHeartbeats 400000 in
theorem ref_number (A : Option Addr) (c n a : Nat) (w : World) (hx : Ws w A (words a)) (hn : n = (words a).length) (h2 : n ≤ 2) :
    Calls Tryz.prog 136 #[.slice A n c] w fun e w' => e = .returned (.int .u64 (a : Int)) ∧ w = w' := by
  have hW1 := fun W (hW : w = W) => ref_word A c n 1 1 (words a) W (hW ▸ hx) hn rfl (by omega)
  have hW0 := fun W (hW : w = W) => ref_word A c n 0 0 (words a) W (hW ▸ hx) hn rfl (by omega)
  have b0 : nth (words a) 0 < 4294967296 := hx.word 0
  have b1 : nth (words a) 1 < 4294967296 := hx.word 1
  have hv : nth (words a) 1 * 4294967296 + nth (words a) 0 = a := by
    have h := val_words a
    have h1 := val_take_succ' (words a) 1
    have h0 := val_take_succ' (words a) 0
    rw [List.take_of_length_le (by omega), h] at h1
    simp at h0
    rw [h0] at h1
    unfold nth base at *
    simp at h1 ⊢; omega
  generalize nth (words a) 0 = x0 at *
  generalize nth (words a) 1 = x1 at *
  have HV := Lib.hid hv
  clear hv hx hn
  go_enter Tryz.func136, Tryz.ntmps136
  go_wp2_with fail
  refine (hW1 _ rfl).mono ?_
  rintro e w' ⟨rfl, rfl⟩
  go_wp2_with fail
  refine (hW0 _ rfl).mono ?_
  rintro e w' ⟨rfl, rfl⟩
  go_wp2
  go_ret
  exact ⟨congrArg (fun z => Ending.returned (Value.int .u64 z)) (by have := HV.out; omega), rfl⟩

set_option maxHeartbeats 400000 in
theorem ref_euclid (a b : Nat) (w : World) (ha : a < 18446744073709551616) (hb : b < 18446744073709551616) :
    Calls Tryz.prog 135 #[.int .u64 (a : Int), .int .u64 (b : Int)] w fun e w' => e = .returned (.int .u64 ((Nat.gcd a b : Nat) : Int)) ∧ w = w' := by
  obtain ⟨G, HG⟩ : ∃ G, Hid (Nat.gcd a b = G) := ⟨_, Lib.hid rfl⟩
  rw [HG.out]
  go_enter Tryz.func135, Tryz.ntmps135
  go_wp2_with fail
  go_loopg [0, 1] b (fun k s0 s1 wr => ∃ x : Nat, s0 = .int .u64 (x : Int) ∧ s1 = .int .u64 (k : Int) ∧ Hid (Nat.gcd x k = G) ∧ x < 18446744073709551616 ∧ k < 18446744073709551616 ∧ w = wr)
  case atStart => exact ⟨a, rfl, rfl, HG, ha, hb, rfl⟩
  case round =>
    clear ha hb
    obtain ⟨x, rfl, rfl, hG, hx, hk, rfl⟩ := hrel
    by_cases h0 : gk = 0
    · subst h0
      have hG' := hG.out
      rw [Nat.gcd_zero_right] at hG'
      have HG' := Lib.hid hG'
      clear hG'
      go_wp2
      go_ret
      rw [HG'.out]
      exact ⟨rfl, rfl⟩
    · have h0' : 0 < gk := by omega
      have hlt := Nat.mod_lt x h0'
      have hgg : Nat.gcd gk (x % gk) = Nat.gcd x gk := by rw [Nat.gcd_comm x gk, Nat.gcd_rec gk x, Nat.gcd_comm]
      have Hgg := Lib.hid hgg
      have E := Lib.hid (show ((x : Int) % (gk : Int)) = ((x % gk : Nat) : Int) by simp)
      have e0 : 0 ≤ (x : Int) % (gk : Int) := by rw [E.out]; omega
      have e1 : (x : Int) % (gk : Int) < 18446744073709551616 := by rw [E.out]; omega
      clear hgg h0
      go_wp2
      go_roundg (x % gk)
      case measure => exact hlt
      case rel => exact ⟨gk, rfl, congrArg (Value.int .u64) E.out, Lib.hid (Hgg.out.trans hG.out), hk, by omega, rfl⟩

theorem u64_of_words {a : Nat} (h : (words a).length ≤ 2) : a < 18446744073709551616 := by
  have h1 := lt_pow_words a
  have h2 : base ^ (words a).length ≤ base ^ 2 := Nat.pow_le_pow_right base_pos h
  have h3 : base ^ 2 = 18446744073709551616 := by decide
  omega

set_option maxHeartbeats 1000000 in
theorem ref_common (A B : Option Addr) (c d n m a b : Nat) (w : World) (hx : Ws w A (words a)) (hy : Ws w B (words b)) (hn : n = (words a).length) (hm : m = (words b).length) (hc : n ≤ c) (hd : m ≤ d) (hs : n ≤ 1099511627775) (ht : m ≤ 1099511627775) :
    Calls Tryz.prog 121 #[.slice A n c, .slice B m d] w fun e w' => (∃ v, e = .returned v ∧ IsNat w' v (Nat.gcd a b)) ∧ Below w.heap.size w w' := by
  obtain ⟨G, HG⟩ : ∃ G, Hid (Nat.gcd a b = G) := ⟨_, Lib.hid rfl⟩
  rw [HG.out]
  have Hn := Lib.hid hn
  have Hm := Lib.hid hm
  have hb0 := Below.refl w.heap.size w
  clear hn hm
  go_enter Tryz.func121, Tryz.ntmps121
  go_wp2_with fail
  go_loopg [0, 1] b (fun k s0 s1 wr => ∃ (a n c m d : Nat) (A B : Option Addr), s0 = .slice A n c ∧ s1 = .slice B m d ∧ Hid (n = (words a).length) ∧ Hid (m = (words k).length) ∧ Ws wr A (words a) ∧ Ws wr B (words k) ∧
      n ≤ c ∧ m ≤ d ∧ n ≤ 1099511627775 ∧ m ≤ 1099511627775 ∧ Hid (Nat.gcd a k = G) ∧ Below w.heap.size w wr)
  case atStart => exact ⟨_, _, _, _, _, _, _, rfl, rfl, Hn, Hm, hx, hy, hc, hd, hs, ht, HG, hb0⟩
  case round =>
    clear hx hy hc hd hs ht hb0 Hn Hm HG
    obtain ⟨a, n, c, m, d, A, B, rfl, rfl, hn, hm, hA, hB, hc, hd, hsn, hsm, hG, hBW⟩ := hrel
    by_cases h0 : gk = 0
    · subst h0
      have hm0 : m = 0 := by rw [hm.out, words_zero]; rfl
      subst hm0
      have hG' := hG.out
      rw [Nat.gcd_zero_right] at hG'
      subst hG'
      have hnn : IsNat wr (.slice A n c) a := ⟨A, c, by rw [← hn.out], hA, by rw [← hn.out]; exact hc⟩
      clear hA hB
      go_wp2
      go_ret
      exact ⟨⟨_, rfl, hnn⟩, hBW⟩
    · have hgk : 0 < gk := Nat.pos_of_ne_zero h0
      have hml : 0 < m := by rw [hm.out]; exact words_pos_len hgk
      by_cases hsm2 : n ≤ 2 ∧ m ≤ 2
      · obtain ⟨h1, h2⟩ := hsm2
        have l1 : decide ((n : Int) ≤ 2) = true := by simp; omega
        have l2 : decide ((m : Int) ≤ 2) = true := by simp; omega
        have ha := u64_of_words (by rw [← hn.out]; exact h1)
        have hk := u64_of_words (by rw [← hm.out]; exact h2)
        have hN1 := ref_number A c n a wr hA hn.out h1
        have hN2 := ref_number B d m gk wr hB hm.out h2
        have hE := ref_euclid a gk wr ha hk
        rw [hG.out] at hE
        have hGl : G ≤ gk := by rw [← hG.out]; exact Nat.gcd_le_right _ hgk
        have hW := ref_words G wr (by omega)
        clear h0
        go_wp2_with fail
        refine hN1.mono ?_
        rintro e w' ⟨rfl, rfl⟩
        go_wp2_with fail
        refine hN2.mono ?_
        rintro e w' ⟨rfl, rfl⟩
        go_wp2_with fail
        refine hE.mono ?_
        rintro e w' ⟨rfl, rfl⟩
        go_wp2_with fail
        refine hW.mono ?_
        rintro e w' ⟨⟨v, rfl, hv⟩, hb⟩
        go_wp2
        go_ret
        exact ⟨⟨_, rfl, hv⟩, hBW.trans (hb.mono hBW.size)⟩
      · have hlt := Nat.mod_lt a hgk
        have hgg : Nat.gcd gk (a % gk) = Nat.gcd a gk := by rw [Nat.gcd_comm a gk, Nat.gcd_rec gk a, Nat.gcd_comm]
        have hrl : (words (a % gk)).length ≤ (words gk).length := words_length_mono (Nat.le_of_lt hlt)
        have Hgg := Lib.hid hgg
        have Hrl := Lib.hid hrl
        have hD := ref_divided A B c d n m a gk _ hA hB hn.out hm.out hc hd hsn hgk
        by_cases h1 : n ≤ 2
        · have l1 : decide ((n : Int) ≤ 2) = true := by simp; omega
          have l2 : decide ((m : Int) ≤ 2) = false := by simp; omega
          clear hgg hrl h0
          go_wp2_with fail
          refine hD.mono ?_
          rintro e w3 ⟨⟨_, _, rfl, ⟨Q, c1, rfl, hQ, hQc⟩, ⟨R, c2, rfl, hR', hRc⟩⟩, hb3⟩
          have hBW3 := hBW.trans (hb3.mono hBW.size)
          go_wp2
          go_roundg (a % gk)
          case measure => exact hlt
          case rel => exact ⟨gk, m, d, _, c2, B, R, rfl, rfl, hm, Lib.hid rfl, hB.below hb3, hR', hd, hRc, hsm, Nat.le_trans Hrl.out (by rw [← hm.out]; exact hsm), Lib.hid (Hgg.out.trans hG.out), hBW3⟩
        · have l1 : decide ((n : Int) ≤ 2) = false := by simp; omega
          clear hgg hrl h0
          go_wp2_with fail
          refine hD.mono ?_
          rintro e w3 ⟨⟨_, _, rfl, ⟨Q, c1, rfl, hQ, hQc⟩, ⟨R, c2, rfl, hR', hRc⟩⟩, hb3⟩
          have hBW3 := hBW.trans (hb3.mono hBW.size)
          go_wp2
          go_roundg (a % gk)
          case measure => exact hlt
          case rel => exact ⟨gk, m, d, _, c2, B, R, rfl, rfl, hm, Lib.hid rfl, hB.below hb3, hR', hd, hRc, hsm, Nat.le_trans Hrl.out (by rw [← hm.out]; exact hsm), Lib.hid (Hgg.out.trans hG.out), hBW3⟩

set_option maxHeartbeats 1000000 in
theorem ref_gcd (u v : Value) (x y : Int) (w : World) (hu : IsInt w u x) (hv : IsInt w v y) (hsx : isz x ≤ 1099511627775) (hsy : isz y ≤ 1099511627775) :
    Calls Tryz.prog 96 #[u, v] w fun e w' => (∃ v, e = .returned v ∧ IsInt w' v (Nat.gcd x.natAbs y.natAbs : Nat)) ∧ Below w.heap.size w w' := by
  obtain ⟨s, A, n, c, rfl, rfl, rfl, hx, hc⟩ := hu
  obtain ⟨s, B, m, d, rfl, rfl, rfl, hy, hd⟩ := hv
  unfold isz sz at hsx hsy
  have hC := fun W (hW : Below w.heap.size w W) => ref_common A B c d _ _ x.natAbs y.natAbs W (hx.below hW) (hy.below hW) rfl rfl hc hd hsx hsy
  generalize Nat.gcd x.natAbs y.natAbs = G at *
  generalize decide (x < 0) = sx at *
  generalize decide (y < 0) = sy at *
  go_enter Tryz.func96, Tryz.ntmps96
  go_wp2_with fail
  generalize hW : World.alloc _ _ = W
  have hBW : Below w.heap.size w W := by
    rw [← hW]; exact (((Below.refl _ _).alloc (Nat.le_refl _) _).alloc (by simp) _).alloc (by simp; omega) _
  have hR1 : RC W (w.heap.size + 1 + 1) := by rw [← hW]; exact ⟨by simp [go_sem], by simp [go_sem], by simp [go_sem], by simp⟩
  clear hW
  refine (hC _ hBW).mono ?_
  rintro e w1 ⟨⟨_, rfl, A1, c1, rfl, hv1, hc1⟩, hb1⟩
  have hBW1 := hBW.trans (hb1.mono hBW.size)
  have hR1 := hR1.below hb1
  have hM := ref_made false A1 c1 _ (words G) w1 hv1 rfl hc1
  rw [val_words] at hM
  have e2 : sgn false G = (G : Int) := rfl
  rw [e2] at hM
  clear e2 hC
  go_wp2_with fail
  refine hM.mono ?_
  rintro e w2 ⟨⟨_, rfl, s, A, n, c, rfl, hI⟩, hb2⟩
  have hBW2 := hBW1.trans (hb2.mono hBW1.size)
  have hR2 := hR1.below hb2
  have hJ := int_put hBW2 (by omega) hR2.1 hR2.2.1 hI
  obtain ⟨r1, r2, r3, r4⟩ := hR2
  go_wp2
  exact bodyPost_ret (v := .agg #[.bool s, .slice A n c]) (by simp [results, Tryz.results96, go_sem, r1, r2]) rfl ⟨⟨_, rfl, _, _, _, _, rfl, hJ.1⟩, hJ.2⟩

end Go.Proofs.YtlklgeidffjidaaGreat

/- Walks of the reference: Neg, Add, Mul, Cmp (eliminantref01). -/
namespace Go.Proofs.YtlklgeidffjidaaGreat
open Go.RowKit
set_option linter.unusedSimpArgs false

set_option maxHeartbeats 400000 in
theorem ref_neg (v : Value) (z : Int) (w : World) (hv : IsInt w v z) (hs : isz z ≤ 1099511627776) :
    Calls Tryz.prog 97 #[v] w fun e w' => (∃ v, e = .returned v ∧ IsInt w' v (-z)) ∧ Below w.heap.size w w' := by
  obtain ⟨s, A, n, c, rfl, rfl, rfl, hw, hc⟩ := hv
  unfold isz sz at hs
  have e2 : sgn (!decide (z < 0)) z.natAbs = -z := by unfold sgn; by_cases h : z < 0 <;> simp [h] <;> omega
  have hS := fun W (hW : Below w.heap.size w W) => ref_made (!decide (z < 0)) A c _ (words z.natAbs) W (hw.below hW) rfl hc
  rw [val_words, e2] at hS
  clear e2
  go_enter Tryz.func97, Tryz.ntmps97
  go_wp2_with fail
  refine (hS _ ?_).mono ?_
  · exact ((Below.refl _ _).alloc (Nat.le_refl _) _).alloc (by simp) _
  rintro e w2 ⟨⟨v, rfl, hv⟩, hbb⟩
  obtain ⟨hk, hf⟩ := kept_cells hbb
  have hzz := hbb.size
  obtain ⟨s, A', n, c', rfl, hI⟩ := hv
  have hJ := int_stored (g := w.heap.size + 1) ((Below.refl _ _).alloc (Nat.le_refl _) _) (by simp) (by simp) hI hbb
  go_wp2
  exact bodyPost_ret (v := .agg #[.bool s, .slice A' n c']) (by simp [results, Tryz.results97, go_sem, hk]) rfl ⟨⟨_, rfl, _, _, _, _, rfl, hJ.1⟩, hJ.2⟩

set_option maxHeartbeats 400000 in
theorem ref_add (u v : Value) (x y : Int) (w : World) (hu : IsInt w u x) (hv : IsInt w v y) (hsx : isz x ≤ 1099511627775) (hsy : isz y ≤ 1099511627775) :
    Calls Tryz.prog 78 #[u, v] w fun e w' => (∃ v, e = .returned v ∧ IsInt w' v (x + y)) ∧ Below w.heap.size w w' := by
  obtain ⟨s, A, n, c, rfl, rfl, rfl, hx, hc⟩ := hu
  obtain ⟨s, B, m, d, rfl, rfl, rfl, hy, hd⟩ := hv
  unfold isz sz at hsx hsy
  by_cases hss : decide (x < 0) = decide (y < 0)
  · rw [← hss]
    have e2 : sgn (decide (x < 0)) (x.natAbs + y.natAbs) = x + y := by unfold sgn; by_cases h : x < 0 <;> simp [h] <;> simp [h] at hss <;> omega
    have hl := sz_add x.natAbs y.natAbs
    unfold sz at hl
    have hA := fun W (hW : Below w.heap.size w W) => ref_added A B c d _ _ (words x.natAbs) (words y.natAbs) W (hx.below hW) (hy.below hW) rfl rfl (by omega) (by omega)
    rw [val_words, val_words] at hA
    clear hss
    generalize decide (x < 0) = sx at *
    go_enter Tryz.func78, Tryz.ntmps78
    go_wp2_with fail
    generalize hW : World.alloc (World.alloc _ _) _ = W
    have hBW : Below w.heap.size w W := by
      rw [← hW]; exact (((Below.refl _ _).alloc (Nat.le_refl _) _).alloc (by simp) _).alloc (by simp; omega) _
    have hc0 : W.cell? ⟨w.heap.size, 0, none⟩ = some (.bool sx) := by rw [← hW]; simp [go_sem]
    have hc2 : W.cell? ⟨w.heap.size, 1, none⟩ = some (.slice A (words x.natAbs).length c) := by rw [← hW]; simp [go_sem]
    have hc3 : W.cell? ⟨w.heap.size + 1, 1, none⟩ = some (.slice B (words y.natAbs).length d) := by rw [← hW]; simp [go_sem]
    have hRC : RC W (w.heap.size + 1 + 1) := by rw [← hW]; exact ⟨by simp [go_sem], by simp [go_sem], by simp [go_sem], by simp⟩
    have hWz : w.heap.size + 3 ≤ W.heap.size := by rw [← hW]; simp
    clear hW
    go_region_held3 (fun w' => w'.cell? ⟨w.heap.size, 0, none⟩ = some (.bool sx) ∧ w'.cell? ⟨w.heap.size, 1, none⟩ = some (.slice A (words x.natAbs).length c) ∧ w'.cell? ⟨w.heap.size + 1, 1, none⟩ = some (.slice B (words y.natAbs).length d)) (first | (go_keep; done) | (rw [World.cell?_setCell_other, World.cell?_setCell_other]; assumption; all_goals simp) | ((try dsimp only); (repeat' apply And.intro); all_goals (first | (go_keep; done) | (rw [World.cell?_setCell_other, World.cell?_setCell_other]; assumption; all_goals simp)))) (first
      | (go_at_call 113
         refine (hA _ (hBW.trans (below_drew' _))).mono ?_
         rintro e w1 ⟨⟨_, rfl, A', c', rfl, hr, hcr⟩, hb⟩
         have hz1 : W.heap.size ≤ w1.heap.size := hb.size
         have hb' : Below W.heap.size W w1 := (below_drew' _).trans hb
         have d0 := cell_below hc0 hb'
         have d02 := cell_below hc2 hb'
         have d03 := cell_below hc3 hb'
         have hR1 := hRC.below hb'
         obtain ⟨d2, d3, df, dg⟩ := hR1)
      | (go_at_call 108
         refine (ref_made sx A' c' _ _ _ hr rfl hcr).mono ?_
         rintro e w2 ⟨⟨v, rfl, hv⟩, hb2⟩
         have hz2 : w1.heap.size ≤ w2.heap.size := hb2.size
         have hb2' : Below w1.heap.size w1 w2 := hb2
         have f0 := cell_below d0 hb2'
         have f02 := cell_below d02 hb2'
         have f03 := cell_below d03 hb2'
         obtain ⟨f2, f3, ff, fg⟩ := RC.below ⟨d2, d3, df, dg⟩ hb2'
         rw [val_words, e2] at hv
         obtain ⟨s, A2, n2, c2, rfl, hI⟩ := hv))
    all_goals
      have hJ := int_put (hBW.trans ((hb'.trans (hb2'.mono hz1)).mono hBW.size)) (by omega) f2 f3 hI
      go_wp2
      exact bodyPost_ret (v := .agg #[.bool s, .slice A2 n2 c2]) (by simp [results, Tryz.results78, go_sem, f2, f3]) rfl ⟨⟨_, rfl, _, _, _, _, rfl, hJ.1⟩, hJ.2⟩
  · have hC := fun W (hW : Below w.heap.size w W) => ref_compared A B c d _ _ (words x.natAbs) (words y.natAbs) W (hx.below hW) (hy.below hW) rfl rfl (by rw [val_words]) (by rw [val_words])
    rw [val_words, val_words] at hC
    have hss' : (decide (x < 0) == decide (y < 0)) = false := by simpa using hss
    by_cases hlt : x.natAbs < y.natAbs
    · have e2 : sgn (decide (y < 0)) (y.natAbs - x.natAbs) = x + y := by unfold sgn; by_cases h : y < 0 <;> simp [h] <;> simp [h] at hss <;> omega
      have hl : (words (y.natAbs - x.natAbs)).length ≤ (words y.natAbs).length := words_length_mono (by omega)
      have hA := fun W (hW : Below w.heap.size w W) => ref_taken B A d c _ _ (words y.natAbs) (words x.natAbs) W (hy.below hW) (hx.below hW) rfl rfl (by omega) (words_length_mono (by omega)) (by rw [val_words, val_words]; omega)
      have hcc : decide (cmpI (x.natAbs : Int) (y.natAbs : Int) < 0) = true := by unfold cmpI; rw [if_pos (by omega)]; rfl
      rw [val_words, val_words] at hA
      have hcc' := of_decide_eq_true hcc
      generalize cmpI (x.natAbs : Int) (y.natAbs : Int) = cc at *
      clear hss
      generalize decide (x < 0) = sx at *
      generalize decide (y < 0) = sy at *
      go_enter Tryz.func78, Tryz.ntmps78
      go_wp2_with fail
      generalize hW : World.alloc (World.alloc _ _) _ = W
      have hBW : Below w.heap.size w W := by
        rw [← hW]; exact (((Below.refl _ _).alloc (Nat.le_refl _) _).alloc (by simp) _).alloc (by simp; omega) _
      have hc0 : W.cell? ⟨w.heap.size + 1, 0, none⟩ = some (.bool sy) := by rw [← hW]; simp [go_sem]
      have hc2 : W.cell? ⟨w.heap.size, 1, none⟩ = some (.slice A (words x.natAbs).length c) := by rw [← hW]; simp [go_sem]
      have hc3 : W.cell? ⟨w.heap.size + 1, 1, none⟩ = some (.slice B (words y.natAbs).length d) := by rw [← hW]; simp [go_sem]
      have hRC : RC W (w.heap.size + 1 + 1) := by rw [← hW]; exact ⟨by simp [go_sem], by simp [go_sem], by simp [go_sem], by simp⟩
      have hWz : w.heap.size + 3 ≤ W.heap.size := by rw [← hW]; simp
      clear hW
      refine (hC _ hBW).mono ?_
      rintro e W1 ⟨rfl, hbw⟩
      have hBW := hBW.trans (hbw.mono hBW.size)
      have hc0 := cell_below hc0 hbw
      have hc2 := cell_below hc2 hbw
      have hc3 := cell_below hc3 hbw
      have hRC := hRC.below hbw
      have hWz := Nat.le_trans hWz hbw.size
      clear hC
      obtain ⟨g1, g2, g3, g4⟩ := hRC
      have hRC : RC W1 (w.heap.size + 1 + 1) := ⟨g1, g2, g3, g4⟩
      go_wp2_with fail
      go_region_held3 (fun w' => w'.cell? ⟨w.heap.size + 1, 0, none⟩ = some (.bool sy) ∧ w'.cell? ⟨w.heap.size, 1, none⟩ = some (.slice A (words x.natAbs).length c) ∧ w'.cell? ⟨w.heap.size + 1, 1, none⟩ = some (.slice B (words y.natAbs).length d)) (first | (go_keep; done) | (rw [World.cell?_setCell_other, World.cell?_setCell_other]; assumption; all_goals simp) | ((try dsimp only); (repeat' apply And.intro); all_goals (first | (go_keep; done) | (rw [World.cell?_setCell_other, World.cell?_setCell_other]; assumption; all_goals simp)))) (first
        | (go_at_call 115
           refine (hA _ (hBW.trans (below_drew' _))).mono ?_
           rintro e w1 ⟨⟨_, rfl, A', c', rfl, hr, hcr⟩, hb⟩
           have hz1 : W1.heap.size ≤ w1.heap.size := hb.size
           have hb' : Below W1.heap.size W1 w1 := (below_drew' _).trans hb
           have d0 := cell_below hc0 hb'
           have d02 := cell_below hc2 hb'
           have d03 := cell_below hc3 hb'
           have hR1 := hRC.below hb'
           obtain ⟨d2, d3, df, dg⟩ := hR1)
        | (go_at_call 108
           refine (ref_made sy A' c' _ _ _ hr rfl hcr).mono ?_
           rintro e w2 ⟨⟨v, rfl, hv⟩, hb2⟩
           have hz2 : w1.heap.size ≤ w2.heap.size := hb2.size
           have hb2' : Below w1.heap.size w1 w2 := hb2
           have f0 := cell_below d0 hb2'
           have f02 := cell_below d02 hb2'
           have f03 := cell_below d03 hb2'
           obtain ⟨f2, f3, ff, fg⟩ := RC.below ⟨d2, d3, df, dg⟩ hb2'
           rw [val_words, e2] at hv
           obtain ⟨s, A2, n2, c2, rfl, hI⟩ := hv))
      all_goals
        have hJ := int_put (hBW.trans ((hb'.trans (hb2'.mono hz1)).mono hBW.size)) (by omega) f2 f3 hI
        go_wp2
        exact bodyPost_ret (v := .agg #[.bool s, .slice A2 n2 c2]) (by simp [results, Tryz.results78, go_sem, f2, f3]) rfl ⟨⟨_, rfl, _, _, _, _, rfl, hJ.1⟩, hJ.2⟩
    · have e2 : sgn (decide (x < 0)) (x.natAbs - y.natAbs) = x + y := by unfold sgn; by_cases h : x < 0 <;> simp [h] <;> simp [h] at hss <;> omega
      have hl : (words (x.natAbs - y.natAbs)).length ≤ (words x.natAbs).length := words_length_mono (by omega)
      have hA := fun W (hW : Below w.heap.size w W) => ref_taken A B c d _ _ (words x.natAbs) (words y.natAbs) W (hx.below hW) (hy.below hW) rfl rfl (by omega) (words_length_mono (by omega)) (by rw [val_words, val_words]; omega)
      have hcc : decide (cmpI (x.natAbs : Int) (y.natAbs : Int) < 0) = false := by unfold cmpI; rw [if_neg (by omega)]; split <;> simp
      rw [val_words, val_words] at hA
      have hcc' := of_decide_eq_false hcc
      generalize cmpI (x.natAbs : Int) (y.natAbs : Int) = cc at *
      clear hss
      generalize decide (x < 0) = sx at *
      generalize decide (y < 0) = sy at *
      go_enter Tryz.func78, Tryz.ntmps78
      go_wp2_with fail
      generalize hW : World.alloc (World.alloc _ _) _ = W
      have hBW : Below w.heap.size w W := by
        rw [← hW]; exact (((Below.refl _ _).alloc (Nat.le_refl _) _).alloc (by simp) _).alloc (by simp; omega) _
      have hc0 : W.cell? ⟨w.heap.size, 0, none⟩ = some (.bool sx) := by rw [← hW]; simp [go_sem]
      have hc2 : W.cell? ⟨w.heap.size, 1, none⟩ = some (.slice A (words x.natAbs).length c) := by rw [← hW]; simp [go_sem]
      have hc3 : W.cell? ⟨w.heap.size + 1, 1, none⟩ = some (.slice B (words y.natAbs).length d) := by rw [← hW]; simp [go_sem]
      have hRC : RC W (w.heap.size + 1 + 1) := by rw [← hW]; exact ⟨by simp [go_sem], by simp [go_sem], by simp [go_sem], by simp⟩
      have hWz : w.heap.size + 3 ≤ W.heap.size := by rw [← hW]; simp
      clear hW
      refine (hC _ hBW).mono ?_
      rintro e W1 ⟨rfl, hbw⟩
      have hBW := hBW.trans (hbw.mono hBW.size)
      have hc0 := cell_below hc0 hbw
      have hc2 := cell_below hc2 hbw
      have hc3 := cell_below hc3 hbw
      have hRC := hRC.below hbw
      have hWz := Nat.le_trans hWz hbw.size
      clear hC
      obtain ⟨g1, g2, g3, g4⟩ := hRC
      have hRC : RC W1 (w.heap.size + 1 + 1) := ⟨g1, g2, g3, g4⟩
      go_wp2_with fail
      go_region_held3 (fun w' => w'.cell? ⟨w.heap.size, 0, none⟩ = some (.bool sx) ∧ w'.cell? ⟨w.heap.size, 1, none⟩ = some (.slice A (words x.natAbs).length c) ∧ w'.cell? ⟨w.heap.size + 1, 1, none⟩ = some (.slice B (words y.natAbs).length d)) (first | (go_keep; done) | (rw [World.cell?_setCell_other, World.cell?_setCell_other]; assumption; all_goals simp) | ((try dsimp only); (repeat' apply And.intro); all_goals (first | (go_keep; done) | (rw [World.cell?_setCell_other, World.cell?_setCell_other]; assumption; all_goals simp)))) (first
        | (go_at_call 115
           refine (hA _ (hBW.trans (below_drew' _))).mono ?_
           rintro e w1 ⟨⟨_, rfl, A', c', rfl, hr, hcr⟩, hb⟩
           have hz1 : W1.heap.size ≤ w1.heap.size := hb.size
           have hb' : Below W1.heap.size W1 w1 := (below_drew' _).trans hb
           have d0 := cell_below hc0 hb'
           have d02 := cell_below hc2 hb'
           have d03 := cell_below hc3 hb'
           have hR1 := hRC.below hb'
           obtain ⟨d2, d3, df, dg⟩ := hR1)
        | (go_at_call 108
           refine (ref_made sx A' c' _ _ _ hr rfl hcr).mono ?_
           rintro e w2 ⟨⟨v, rfl, hv⟩, hb2⟩
           have hz2 : w1.heap.size ≤ w2.heap.size := hb2.size
           have hb2' : Below w1.heap.size w1 w2 := hb2
           have f0 := cell_below d0 hb2'
           have f02 := cell_below d02 hb2'
           have f03 := cell_below d03 hb2'
           obtain ⟨f2, f3, ff, fg⟩ := RC.below ⟨d2, d3, df, dg⟩ hb2'
           rw [val_words, e2] at hv
           obtain ⟨s, A2, n2, c2, rfl, hI⟩ := hv))
      all_goals
        have hJ := int_put (hBW.trans ((hb'.trans (hb2'.mono hz1)).mono hBW.size)) (by omega) f2 f3 hI
        go_wp2
        exact bodyPost_ret (v := .agg #[.bool s, .slice A2 n2 c2]) (by simp [results, Tryz.results78, go_sem, f2, f3]) rfl ⟨⟨_, rfl, _, _, _, _, rfl, hJ.1⟩, hJ.2⟩

set_option maxHeartbeats 400000 in
theorem ref_mul (u v : Value) (x y : Int) (w : World) (hu : IsInt w u x) (hv : IsInt w v y) (hsx : isz x ≤ 549755813888) (hsy : isz y ≤ 549755813888) :
    Calls Tryz.prog 79 #[u, v] w fun e w' => (∃ v, e = .returned v ∧ IsInt w' v (x * y)) ∧ Below w.heap.size w w' := by
  obtain ⟨s, A, n, c, rfl, rfl, rfl, hx, hc⟩ := hu
  obtain ⟨s, B, m, d, rfl, rfl, rfl, hy, hd⟩ := hv
  unfold isz sz at hsx hsy
  have e2 : sgn (decide (x < 0) != decide (y < 0)) (x.natAbs * y.natAbs) = x * y := sgn_mul x y
  have hl := sz_mul x.natAbs y.natAbs
  unfold sz at hl
  have hA := fun W (hW : Below w.heap.size w W) => ref_times A B c d _ _ (words x.natAbs) (words y.natAbs) W (hx.below hW) (hy.below hW) rfl rfl (by omega) (by omega)
  rw [val_words, val_words] at hA
  generalize decide (x < 0) = sx at *
  generalize decide (y < 0) = sy at *
  go_enter Tryz.func79, Tryz.ntmps79
  go_wp2_with fail
  generalize hW : World.alloc (World.alloc _ _) _ = W
  have hBW : Below w.heap.size w W := by
    rw [← hW]; exact (((Below.refl _ _).alloc (Nat.le_refl _) _).alloc (by simp) _).alloc (by simp; omega) _
  have hc0 : W.cell? ⟨w.heap.size, 0, none⟩ = some (.bool sx) := by rw [← hW]; simp [go_sem]
  have hc1 : W.cell? ⟨w.heap.size + 1, 0, none⟩ = some (.bool sy) := by rw [← hW]; simp [go_sem]
  have hc2 : W.cell? ⟨w.heap.size, 1, none⟩ = some (.slice A (words x.natAbs).length c) := by rw [← hW]; simp [go_sem]
  have hc3 : W.cell? ⟨w.heap.size + 1, 1, none⟩ = some (.slice B (words y.natAbs).length d) := by rw [← hW]; simp [go_sem]
  have hRC : RC W (w.heap.size + 1 + 1) := by rw [← hW]; exact ⟨by simp [go_sem], by simp [go_sem], by simp [go_sem], by simp⟩
  have hWz : w.heap.size + 3 ≤ W.heap.size := by rw [← hW]; simp
  clear hW
  go_region_held3 (fun w' => w'.cell? ⟨w.heap.size, 0, none⟩ = some (.bool sx) ∧ w'.cell? ⟨w.heap.size + 1, 0, none⟩ = some (.bool sy) ∧ w'.cell? ⟨w.heap.size, 1, none⟩ = some (.slice A (words x.natAbs).length c) ∧ w'.cell? ⟨w.heap.size + 1, 1, none⟩ = some (.slice B (words y.natAbs).length d)) (first | (go_keep; done) | (rw [World.cell?_setCell_other, World.cell?_setCell_other]; assumption; all_goals simp) | ((try dsimp only); (repeat' apply And.intro); all_goals (first | (go_keep; done) | (rw [World.cell?_setCell_other, World.cell?_setCell_other]; assumption; all_goals simp)))) (first
    | (go_at_call 116
       refine (hA _ (hBW.trans (below_drew' _))).mono ?_
       rintro e w1 ⟨⟨_, rfl, A', c', rfl, hr, hcr⟩, hb⟩
       have hz1 : W.heap.size ≤ w1.heap.size := hb.size
       have hb' : Below W.heap.size W w1 := (below_drew' _).trans hb
       have e0 := cell_below hc0 hb'
       have e1 := cell_below hc1 hb'
       have e2_ := cell_below hc2 hb'
       have e3 := cell_below hc3 hb'
       have hR1 := hRC.below hb'
       obtain ⟨d2, d3, df, dg⟩ := hR1)
    | (go_at_call 108
       refine (ref_made (sx != sy) A' c' _ _ _ hr rfl hcr).mono ?_
       rintro e w2 ⟨⟨v, rfl, hv⟩, hb2⟩
       have hz2 : w1.heap.size ≤ w2.heap.size := hb2.size
       have hb2' : Below w1.heap.size w1 w2 := hb2
       have f0_ := cell_below e0 hb2'
       have f1_ := cell_below e1 hb2'
       have f2_ := cell_below e2_ hb2'
       have f3_ := cell_below e3 hb2'
       obtain ⟨f2, f3, ff, fg⟩ := RC.below ⟨d2, d3, df, dg⟩ hb2'
       rw [val_words, e2] at hv
       obtain ⟨s, A2, n2, c2, rfl, hI⟩ := hv))
  all_goals
    have hJ := int_put (hBW.trans ((hb'.trans (hb2'.mono hz1)).mono hBW.size)) (by omega) f2 f3 hI
    go_wp2
    exact bodyPost_ret (v := .agg #[.bool s, .slice A2 n2 c2]) (by simp [results, Tryz.results79, go_sem, f2, f3]) rfl ⟨⟨_, rfl, _, _, _, _, rfl, hJ.1⟩, hJ.2⟩

end Go.Proofs.YtlklgeidffjidaaGreat

/- Walks of the reference: Cmp, DivMod (eliminantref01). -/
namespace Go.Proofs.YtlklgeidffjidaaGreat
open Go.RowKit
set_option linter.unusedSimpArgs false

set_option maxHeartbeats 1000000 in
theorem ref_cmp (u v : Value) (x y : Int) (w : World) (hu : IsInt w u x) (hv : IsInt w v y) :
    Calls Tryz.prog 95 #[u, v] w fun e w' => e = .returned (.int .i64 (cmpI x y)) ∧ Below w.heap.size w w' := by
  obtain ⟨s, A, n, c, rfl, rfl, rfl, hx, hc⟩ := hu
  obtain ⟨s, B, m, d, rfl, rfl, rfl, hy, hd⟩ := hv
  by_cases hxn : x < 0
  · by_cases hyn : y < 0
    · have hC := fun W (hW : Below w.heap.size w W) => ref_compared B A d c _ _ (words y.natAbs) (words x.natAbs) W (hy.below hW) (hx.below hW) rfl rfl (by rw [val_words]) (by rw [val_words])
      rw [val_words, val_words] at hC
      have e : cmpI (y.natAbs : Int) (x.natAbs : Int) = cmpI x y := by unfold cmpI; split <;> split <;> (try split) <;> (try split) <;> omega
      rw [e] at hC
      rw [decide_eq_true hxn, decide_eq_true hyn]
      clear e
      go_enter Tryz.func95, Tryz.ntmps95
      go_wp2_with fail
      refine (hC _ ?_).mono ?_
      · exact ((Below.refl _ _).alloc (Nat.le_refl _) _).alloc (by simp) _
      rintro e w1 ⟨rfl, hb⟩
      go_wp2
      go_ret
      exact ⟨rfl, (((Below.refl _ _).alloc (Nat.le_refl _) _).alloc (by simp) _).trans (hb.mono (by simp; omega))⟩
    · have e : cmpI x y = -1 := by unfold cmpI; rw [if_pos (by omega)]
      rw [decide_eq_true hxn, decide_eq_false hyn, e]
      clear e
      go_enter Tryz.func95, Tryz.ntmps95
      go_wp2
      go_ret
      exact ⟨rfl, ((Below.refl _ _).alloc (Nat.le_refl _) _).alloc (by simp) _⟩
  · by_cases hyn : y < 0
    · have e : cmpI x y = 1 := by unfold cmpI; rw [if_neg (by omega), if_pos (by omega)]
      rw [decide_eq_false hxn, decide_eq_true hyn, e]
      clear e
      go_enter Tryz.func95, Tryz.ntmps95
      go_wp2
      go_ret
      exact ⟨rfl, ((Below.refl _ _).alloc (Nat.le_refl _) _).alloc (by simp) _⟩
    · have hC := fun W (hW : Below w.heap.size w W) => ref_compared A B c d _ _ (words x.natAbs) (words y.natAbs) W (hx.below hW) (hy.below hW) rfl rfl (by rw [val_words]) (by rw [val_words])
      rw [val_words, val_words] at hC
      have e : cmpI (x.natAbs : Int) (y.natAbs : Int) = cmpI x y := by unfold cmpI; split <;> split <;> (try split) <;> (try split) <;> omega
      rw [e] at hC
      rw [decide_eq_false hxn, decide_eq_false hyn]
      clear e
      go_enter Tryz.func95, Tryz.ntmps95
      go_wp2_with fail
      refine (hC _ ?_).mono ?_
      · exact ((Below.refl _ _).alloc (Nat.le_refl _) _).alloc (by simp) _
      rintro e w1 ⟨rfl, hb⟩
      go_wp2
      go_ret
      exact ⟨rfl, (((Below.refl _ _).alloc (Nat.le_refl _) _).alloc (by simp) _).trans (hb.mono (by simp; omega))⟩

set_option maxHeartbeats 2000000 in
set_option maxRecDepth 100000 in
theorem ref_divmod (u v : Value) (x y : Int) (w : World) (hu : IsInt w u x) (hv : IsInt w v y) (hsx : isz x ≤ 1099511627775) (hsy : isz y ≤ 1099511627775) (hy0 : y ≠ 0) :
    Calls Tryz.prog 134 #[u, v] w fun e w' => (∃ q r, e = .returned (.tuple #[q, r, .int .i64 0]) ∧ IsInt w' q (x / y) ∧ IsInt w' r (x % y)) ∧ Below w.heap.size w w' := by
  obtain ⟨s, A, n, c, rfl, rfl, rfl, hx, hc⟩ := hu
  obtain ⟨s, B, m, d, rfl, rfl, rfl, hy, hd⟩ := hv
  unfold isz sz at hsx hsy
  have hb : 0 < y.natAbs := by omega
  have hl := words_pos_len hb
  obtain ⟨k1, k2⟩ := ediv_signs x y hy0
  have hq : (words (x.natAbs / y.natAbs)).length ≤ (words x.natAbs).length := words_length_mono (Nat.div_le_self _ _)
  have hr : (words (x.natAbs % y.natAbs)).length ≤ (words y.natAbs).length := words_length_mono (Nat.le_of_lt (Nat.mod_lt _ hb))
  have hD := fun W (hW : Below w.heap.size w W) => ref_divided A B c d _ _ x.natAbs y.natAbs W (hx.below hW) (hy.below hW) rfl rfl hc hd (by omega) hb
  have hm := Nat.mod_lt x.natAbs hb
  have hr0 : x.natAbs % y.natAbs = 0 → (words (x.natAbs % y.natAbs)).length = 0 := by intro h; rw [h, words_zero]; rfl
  have hr1 : 0 < x.natAbs % y.natAbs → 0 < (words (x.natAbs % y.natAbs)).length := words_pos_len
  by_cases hx0 : x < 0
  · by_cases hrr : x.natAbs % y.natAbs = 0
    · obtain ⟨e1, e2⟩ := k1 (fun h => by omega)
      have hr0 := hr0 hrr
      rw [decide_eq_true hx0] at e1 ⊢
      rw [Bool.true_bne] at e1
      clear k1 k2 hr1 hrr
      generalize x.natAbs / y.natAbs = q at *
      generalize x.natAbs % y.natAbs = r at *
      generalize decide (y < 0) = sy at *
      go_enter Tryz.func134, Tryz.ntmps134
      go_wp2_with fail
      generalize hW : World.alloc (World.alloc (World.alloc _ _) _) _ = W
      have hBW : Below w.heap.size w W := by
        rw [← hW]; exact ((((Below.refl _ _).alloc (Nat.le_refl _) _).alloc (by simp) _).alloc (by simp; omega) _).alloc (by simp; omega) _
      have hc0 : W.cell? ⟨w.heap.size, 0, none⟩ = some (.bool true) := by rw [← hW]; simp [go_sem]
      have hc1 : W.cell? ⟨w.heap.size + 1, 0, none⟩ = some (.bool sy) := by rw [← hW]; simp [go_sem]
      have hR1 : RC W (w.heap.size + 1 + 1) := by rw [← hW]; exact ⟨by simp [go_sem], by simp [go_sem], by simp [go_sem], by first | (simp; done) | (simp; omega)⟩
      have hR2 : RC W (w.heap.size + 1 + 1 + 1) := by rw [← hW]; exact ⟨by simp [go_sem], by simp [go_sem], by simp [go_sem], by simp⟩
      clear hW
      refine (hD _ hBW).mono ?_
      rintro e w1 ⟨⟨_, _, rfl, ⟨Q, c1, rfl, hQ, hQc⟩, ⟨R, c2, rfl, hR, hRc⟩⟩, hb1⟩
      have hBW1 := hBW.trans (hb1.mono hBW.size)
      have hc0 := cell_below hc0 hb1
      have hc1 := cell_below hc1 hb1
      have hR1 := RC.below hR1 hb1
      have hR2 := RC.below hR2 hb1
      clear hD
      go_wp2_with fail
      refine (ref_made (!sy) Q c1 _ (words q) _ hQ rfl hQc).mono ?_
      rintro e w2 ⟨⟨v1, rfl, hv1⟩, hb2⟩
      rw [val_words, e1] at hv1
      have hBW2 := hBW1.trans (hb2.mono hBW1.size)
      have hc0 := cell_below hc0 hb2
      have hc1 := cell_below hc1 hb2
      have hR1 := RC.below hR1 hb2
      have hR2 := RC.below hR2 hb2
      go_wp2_with fail
      refine (ref_made false R c2 _ (words r) _ (hR.below hb2) hr0.symm hRc).mono ?_
      rintro e w3 ⟨⟨v2, rfl, hv2⟩, hb3⟩
      have e2' : sgn false (r) = x % y := by rw [← e2]; rfl
      rw [val_words, e2'] at hv2
      have hBW3 := hBW2.trans (hb3.mono hBW2.size)
      have hv1 := hv1.below hb3
      have hR1 := RC.below hR1 hb3
      have hR2 := RC.below hR2 hb3
      obtain ⟨s1, A1, n1, m1, rfl, hI1⟩ := hv1
      obtain ⟨s2, A2, n2, m2, rfl, hI2⟩ := hv2
      obtain ⟨j1, j2, j3⟩ := int_put2 hBW3 (by omega) (by omega) (by omega) hR1 hR2 hI1 hI2
      obtain ⟨r1, r2, r3, r4⟩ := hR1
      obtain ⟨t1, t2, t3, t4⟩ := hR2
      go_wp2
      exact bodyPost_ret (v := .tuple #[.agg #[.bool s1, .slice A1 n1 m1], .agg #[.bool s2, .slice A2 n2 m2], .int .i64 0]) (by simp [results, Tryz.results134, go_sem, r1, r2, t1, t2]) rfl ⟨⟨_, _, rfl, ⟨_, _, _, _, rfl, j1⟩, ⟨_, _, _, _, rfl, j2⟩⟩, j3⟩
    · obtain ⟨e1, e2⟩ := k2 ⟨hx0, by omega⟩
      have hr1 := hr1 (by omega)
      rw [decide_eq_true hx0] at e1 ⊢
      rw [Bool.true_bne] at e1
      clear k1 k2 hr0 hrr
      have hql := sz_add (x.natAbs / y.natAbs) 1
      unfold sz at hql
      have hv1 : val [1] = 1 := by simp [val]
      have HV1 := Lib.hid hv1
      clear hv1
      have hql' : (words (x.natAbs / y.natAbs + 1)).length ≤ 1099511627776 := by rw [words_one] at hql; simp at hql; omega
      clear hql
      have E1 := Lib.hid e1
      clear e1
      have hrl : (words (y.natAbs - x.natAbs % y.natAbs)).length ≤ (words y.natAbs).length := words_length_mono (by omega)
      generalize x.natAbs / y.natAbs = q at *
      generalize x.natAbs % y.natAbs = r at *
      generalize decide (y < 0) = sy at *
      go_enter Tryz.func134, Tryz.ntmps134
      go_wp2_with fail
      generalize hW : World.alloc (World.alloc (World.alloc _ _) _) _ = W
      have hBW : Below w.heap.size w W := by
        rw [← hW]; exact ((((Below.refl _ _).alloc (Nat.le_refl _) _).alloc (by simp) _).alloc (by simp; omega) _).alloc (by simp; omega) _
      have hc0 : W.cell? ⟨w.heap.size, 0, none⟩ = some (.bool true) := by rw [← hW]; simp [go_sem]
      have hc1 : W.cell? ⟨w.heap.size + 1, 0, none⟩ = some (.bool sy) := by rw [← hW]; simp [go_sem]
      have hc4 : W.cell? ⟨w.heap.size + 1, 1, none⟩ = some (.slice B (words y.natAbs).length d) := by rw [← hW]; simp [go_sem]
      have hR1 : RC W (w.heap.size + 1 + 1) := by rw [← hW]; exact ⟨by simp [go_sem], by simp [go_sem], by simp [go_sem], by first | (simp; done) | (simp; omega)⟩
      have hR2 : RC W (w.heap.size + 1 + 1 + 1) := by rw [← hW]; exact ⟨by simp [go_sem], by simp [go_sem], by simp [go_sem], by simp⟩
      clear hW
      refine (hD _ hBW).mono ?_
      rintro e w1 ⟨⟨_, _, rfl, ⟨Q, c1, rfl, hQ, hQc⟩, ⟨R, c2, rfl, hR, hRc⟩⟩, hb1⟩
      have hBW1 := hBW.trans (hb1.mono hBW.size)
      have hc0 := cell_below hc0 hb1
      have hc1 := cell_below hc1 hb1
      have hc4 := cell_below hc4 hb1
      have hR1 := RC.below hR1 hb1
      have hR2 := RC.below hR2 hb1
      clear hD
      go_wp2_with fail
      have hba : Below w1.heap.size w1 (w1.alloc (.cells #[.int .u32 1] 107)) := (Below.refl _ _).alloc (Nat.le_refl _) _
      refine (ref_added Q (some ⟨w1.heap.size, 0, none⟩) c1 1 _ 1 (words q) [1] _ (hQ.below hba) (ws_one w1 107 1 1 rfl (by decide)) rfl rfl (by omega) (by simp)).mono ?_
      have hBW1a := hBW1.trans (hba.mono hBW1.size)
      have hc0 := cell_below hc0 hba
      have hc1 := cell_below hc1 hba
      have hc4 := cell_below hc4 hba
      have hR1 := RC.below hR1 hba
      have hR2 := RC.below hR2 hba
      rintro e w1b ⟨⟨_, rfl, hP⟩, hb1b⟩
      rw [val_words, HV1.out] at hP
      obtain ⟨Q2, c3, rfl, hQ2, hQc2⟩ := hP
      have hBW1b := hBW1a.trans (hb1b.mono hBW1a.size)
      have hc0 := cell_below hc0 hb1b
      have hc1 := cell_below hc1 hb1b
      have hc4 := cell_below hc4 hb1b
      have hR1 := RC.below hR1 hb1b
      have hR2 := RC.below hR2 hb1b
      go_wp2_with fail
      refine (ref_taken B R d c2 _ _ (words y.natAbs) (words r) _ (hy.below hBW1b) ((hR.below hba).below hb1b) rfl rfl (by omega) hr (by rw [val_words, val_words]; omega)).mono ?_
      rintro e w1c ⟨⟨_, rfl, hP⟩, hb1c⟩
      rw [val_words, val_words] at hP
      obtain ⟨R2, c4, rfl, hR2', hRc2⟩ := hP
      have hBW1c := hBW1b.trans (hb1c.mono hBW1b.size)
      have hc0 := cell_below hc0 hb1c
      have hc1 := cell_below hc1 hb1c
      have hR1 := RC.below hR1 hb1c
      have hR2 := RC.below hR2 hb1c
      have hQ2 := hQ2.below hb1c
      go_wp2_with fail
      refine (ref_made (!sy) Q2 c3 _ (words (q + 1)) _ hQ2 rfl hQc2).mono ?_
      rintro e w2 ⟨⟨v1, rfl, hv1⟩, hb2⟩
      rw [val_words, E1.out] at hv1
      have hBW2 := hBW1c.trans (hb2.mono hBW1c.size)
      have hc0 := cell_below hc0 hb2
      have hc1 := cell_below hc1 hb2
      have hR1 := RC.below hR1 hb2
      have hR2 := RC.below hR2 hb2
      go_wp2_with fail
      refine (ref_made false R2 c4 _ (words (y.natAbs - r)) _ (hR2'.below hb2) rfl hRc2).mono ?_
      rintro e w3 ⟨⟨v2, rfl, hv2⟩, hb3⟩
      have e2' : sgn false ((y.natAbs - r)) = x % y := by rw [← e2]; rfl
      rw [val_words, e2'] at hv2
      have hBW3 := hBW2.trans (hb3.mono hBW2.size)
      have hv1 := hv1.below hb3
      have hR1 := RC.below hR1 hb3
      have hR2 := RC.below hR2 hb3
      obtain ⟨s1, A1, n1, m1, rfl, hI1⟩ := hv1
      obtain ⟨s2, A2, n2, m2, rfl, hI2⟩ := hv2
      obtain ⟨j1, j2, j3⟩ := int_put2 hBW3 (by omega) (by omega) (by omega) hR1 hR2 hI1 hI2
      obtain ⟨r1, r2, r3, r4⟩ := hR1
      obtain ⟨t1, t2, t3, t4⟩ := hR2
      go_wp2
      exact bodyPost_ret (v := .tuple #[.agg #[.bool s1, .slice A1 n1 m1], .agg #[.bool s2, .slice A2 n2 m2], .int .i64 0]) (by simp [results, Tryz.results134, go_sem, r1, r2, t1, t2]) rfl ⟨⟨_, _, rfl, ⟨_, _, _, _, rfl, j1⟩, ⟨_, _, _, _, rfl, j2⟩⟩, j3⟩
  · obtain ⟨e1, e2⟩ := k1 (fun h => hx0 h.1)
    rw [decide_eq_false hx0] at e1 ⊢
    rw [Bool.false_bne] at e1
    clear k1 k2 hr0 hr1
    generalize x.natAbs / y.natAbs = q at *
    generalize x.natAbs % y.natAbs = r at *
    generalize decide (y < 0) = sy at *
    go_enter Tryz.func134, Tryz.ntmps134
    go_wp2_with fail
    generalize hW : World.alloc (World.alloc (World.alloc _ _) _) _ = W
    have hBW : Below w.heap.size w W := by
      rw [← hW]; exact ((((Below.refl _ _).alloc (Nat.le_refl _) _).alloc (by simp) _).alloc (by simp; omega) _).alloc (by simp; omega) _
    have hc0 : W.cell? ⟨w.heap.size, 0, none⟩ = some (.bool false) := by rw [← hW]; simp [go_sem]
    have hc1 : W.cell? ⟨w.heap.size + 1, 0, none⟩ = some (.bool sy) := by rw [← hW]; simp [go_sem]
    have hR1 : RC W (w.heap.size + 1 + 1) := by rw [← hW]; exact ⟨by simp [go_sem], by simp [go_sem], by simp [go_sem], by first | (simp; done) | (simp; omega)⟩
    have hR2 : RC W (w.heap.size + 1 + 1 + 1) := by rw [← hW]; exact ⟨by simp [go_sem], by simp [go_sem], by simp [go_sem], by simp⟩
    clear hW
    refine (hD _ hBW).mono ?_
    rintro e w1 ⟨⟨_, _, rfl, ⟨Q, c1, rfl, hQ, hQc⟩, ⟨R, c2, rfl, hR, hRc⟩⟩, hb1⟩
    have hBW1 := hBW.trans (hb1.mono hBW.size)
    have hc0 := cell_below hc0 hb1
    have hc1 := cell_below hc1 hb1
    have hR1 := RC.below hR1 hb1
    have hR2 := RC.below hR2 hb1
    clear hD
    go_wp2_with fail
    refine (ref_made sy Q c1 _ (words q) _ hQ rfl hQc).mono ?_
    rintro e w2 ⟨⟨v1, rfl, hv1⟩, hb2⟩
    rw [val_words, e1] at hv1
    have hBW2 := hBW1.trans (hb2.mono hBW1.size)
    have hc0 := cell_below hc0 hb2
    have hc1 := cell_below hc1 hb2
    have hR1 := RC.below hR1 hb2
    have hR2 := RC.below hR2 hb2
    go_wp2_with fail
    refine (ref_made false R c2 _ (words r) _ (hR.below hb2) rfl hRc).mono ?_
    rintro e w3 ⟨⟨v2, rfl, hv2⟩, hb3⟩
    have e2' : sgn false (r) = x % y := by rw [← e2]; rfl
    rw [val_words, e2'] at hv2
    have hBW3 := hBW2.trans (hb3.mono hBW2.size)
    have hv1 := hv1.below hb3
    have hR1 := RC.below hR1 hb3
    have hR2 := RC.below hR2 hb3
    obtain ⟨s1, A1, n1, m1, rfl, hI1⟩ := hv1
    obtain ⟨s2, A2, n2, m2, rfl, hI2⟩ := hv2
    obtain ⟨j1, j2, j3⟩ := int_put2 hBW3 (by omega) (by omega) (by omega) hR1 hR2 hI1 hI2
    obtain ⟨r1, r2, r3, r4⟩ := hR1
    obtain ⟨t1, t2, t3, t4⟩ := hR2
    go_wp2
    exact bodyPost_ret (v := .tuple #[.agg #[.bool s1, .slice A1 n1 m1], .agg #[.bool s2, .slice A2 n2 m2], .int .i64 0]) (by simp [results, Tryz.results134, go_sem, r1, r2, t1, t2]) rfl ⟨⟨_, _, rfl, ⟨_, _, _, _, rfl, j1⟩, ⟨_, _, _, _, rfl, j2⟩⟩, j3⟩

end Go.Proofs.YtlklgeidffjidaaGreat

/- Walks of the reference: lowest terms (eliminantref02). -/
namespace Go.Proofs.YtlklgeidffjidaaGreat
open Go.RowKit
set_option linter.unusedSimpArgs false

set_option maxRecDepth 100000 in
set_option maxHeartbeats 1000000 in
theorem q_exact (u v : Value) (x y : Int) (w : World) (hu : IsInt w u x) (hv : IsInt w v y) (hsx : isz x ≤ 1099511627775) (hsy : isz y ≤ 1099511627775) (hy0 : y ≠ 0) :
    Calls Tryz.prog 117 #[u, v] w fun e w' => (∃ v, e = .returned v ∧ IsInt w' v (x / y)) ∧ Below w.heap.size w w' := by
  have hD := fun W (hW : Below w.heap.size w W) => ref_divmod u v x y W (hu.below hW) (hv.below hW) hsx hsy hy0
  obtain ⟨su, A, n, c, rfl, hx⟩ := hu
  obtain ⟨sv, B, m, d, rfl, hy⟩ := hv
  generalize x / y = Q at *
  generalize x % y = R at *
  go_enter Tryz.func117, Tryz.ntmps117
  go_wp2_with fail
  generalize hW : World.alloc _ _ = W
  have hBW : Below w.heap.size w W := by rw [← hW]; exact (((Below.refl _ _).alloc (Nat.le_refl _) _).alloc (by simp) _).alloc (by simp; omega) _
  have hR : RC W (w.heap.size + 1 + 1) := by rw [← hW]; exact ⟨by simp [go_sem], by simp [go_sem], by simp [go_sem], by simp⟩
  clear hW
  refine (hD _ hBW).mono ?_
  rintro e w1 ⟨⟨_, _, rfl, ⟨s1, A1, n1, c1, rfl, hI⟩, ⟨s2, A2, n2, c2, rfl, hJ⟩⟩, hb⟩
  have hBW := hBW.trans (hb.mono hBW.size)
  have hR := hR.below hb
  clear hb hJ
  have hge : w.heap.size ≤ w.heap.size + 1 + 1 := by omega
  generalize w.heap.size + 1 + 1 = g at *
  have hlt := hR.2.2.2
  have hlt2 : g < w1.heap.size + 1 := by omega
  obtain ⟨r1, r2, r3, r4⟩ := hR
  have h3 : ∀ o, ((w1.alloc (.cells #[.bool s1, .slice A1 n1 c1] 29)).alloc (.cells #[.bool s2, .slice A2 n2 c2] 29)).frozen? ⟨g, o, none⟩ = false := fun o => by
    rw [← r3 o]
    exact (((Below.refl w1.heap.size w1).alloc (Nat.le_refl _) _).alloc (by simp) _).frozen (p := ⟨g, o, none⟩) hlt
  go_wp2
  have hB2 : Below w1.heap.size w1 ((w1.alloc (.cells #[.bool s1, .slice A1 n1 c1] 29)).alloc (.cells #[.bool s2, .slice A2 n2 c2] 29)) := ((Below.refl w1.heap.size w1).alloc (Nat.le_refl _) _).alloc (by simp) _
  have hJ := int_put hBW hge r1 r2 hI
  have hX0 : ((w1.setCell ⟨g, 0, none⟩ (.bool s1)).setCell ⟨g, 1, none⟩ (.slice A1 n1 c1)).cell? ⟨g, 0, none⟩ = some (.bool s1) := by simp [go_sem, r1]
  have hX1 : ((w1.setCell ⟨g, 0, none⟩ (.bool s1)).setCell ⟨g, 1, none⟩ (.slice A1 n1 c1)).cell? ⟨g, 1, none⟩ = some (.slice A1 n1 c1) := by simp [go_sem, r2]
  generalize (w1.setCell ⟨g, 0, none⟩ (.bool s1)).setCell ⟨g, 1, none⟩ (.slice A1 n1 c1) = X at *
  have hB3 : Below X.heap.size X ((X.alloc (.cells #[.bool s1, .slice A1 n1 c1] 29)).alloc (.cells #[.bool s2, .slice A2 n2 c2] 29)) := ((Below.refl X.heap.size X).alloc (Nat.le_refl _) _).alloc (by simp) _
  exact bodyPost_ret (v := .agg #[.bool s1, .slice A1 n1 c1]) (by simp [results, Tryz.results117, go_sem, cell_below hX0 hB3, cell_below hX1 hB3]) rfl ⟨⟨_, rfl, _, _, _, _, rfl, hJ.1.below hB3⟩, hJ.2.trans (hB3.mono hJ.2.size)⟩

theorem keepO6 {B g p0 p1 p2 p3 : Nat} {w0 W : World} {u0 u1 u2 u3 : Value} {b0 o0 b1 o1 b2 o2 b3 o3 b4 o4 b5 o5 : Nat} {v0 v1 v2 v3 v4 v5 : Value} (hB : B ≤ g) (l0 : b0 ≠ g) (l1 : b1 ≠ g) (l2 : b2 ≠ g) (l3 : b3 ≠ g) (l4 : b4 ≠ g) (l5 : b5 ≠ g)
    (h : Below B w0 W ∧ W.cell? ⟨b0, o0, none⟩ = some v0 ∧ W.cell? ⟨b1, o1, none⟩ = some v1 ∧ W.cell? ⟨b2, o2, none⟩ = some v2 ∧ W.cell? ⟨b3, o3, none⟩ = some v3 ∧ W.cell? ⟨b4, o4, none⟩ = some v4 ∧ W.cell? ⟨b5, o5, none⟩ = some v5) :
    Below B w0 ((((W.setCell ⟨g, p0, none⟩ u0).setCell ⟨g, p1, none⟩ u1).setCell ⟨g, p2, none⟩ u2).setCell ⟨g, p3, none⟩ u3) ∧ ((((W.setCell ⟨g, p0, none⟩ u0).setCell ⟨g, p1, none⟩ u1).setCell ⟨g, p2, none⟩ u2).setCell ⟨g, p3, none⟩ u3).cell? ⟨b0, o0, none⟩ = some v0 ∧ ((((W.setCell ⟨g, p0, none⟩ u0).setCell ⟨g, p1, none⟩ u1).setCell ⟨g, p2, none⟩ u2).setCell ⟨g, p3, none⟩ u3).cell? ⟨b1, o1, none⟩ = some v1 ∧ ((((W.setCell ⟨g, p0, none⟩ u0).setCell ⟨g, p1, none⟩ u1).setCell ⟨g, p2, none⟩ u2).setCell ⟨g, p3, none⟩ u3).cell? ⟨b2, o2, none⟩ = some v2 ∧ ((((W.setCell ⟨g, p0, none⟩ u0).setCell ⟨g, p1, none⟩ u1).setCell ⟨g, p2, none⟩ u2).setCell ⟨g, p3, none⟩ u3).cell? ⟨b3, o3, none⟩ = some v3 ∧ ((((W.setCell ⟨g, p0, none⟩ u0).setCell ⟨g, p1, none⟩ u1).setCell ⟨g, p2, none⟩ u2).setCell ⟨g, p3, none⟩ u3).cell? ⟨b4, o4, none⟩ = some v4 ∧ ((((W.setCell ⟨g, p0, none⟩ u0).setCell ⟨g, p1, none⟩ u1).setCell ⟨g, p2, none⟩ u2).setCell ⟨g, p3, none⟩ u3).cell? ⟨b5, o5, none⟩ = some v5 :=
  ⟨h.1.trans (below_set4 hB _ _ _ _ _ _ _ _), (set4_other l0).trans h.2.1, (set4_other l1).trans h.2.2.1, (set4_other l2).trans h.2.2.2.1, (set4_other l3).trans h.2.2.2.2.1, (set4_other l4).trans h.2.2.2.2.2.1, (set4_other l5).trans h.2.2.2.2.2.2⟩

set_option maxRecDepth 100000 in
set_option maxHeartbeats 2000000 in
theorem q_lowest (u v : Value) (x y : Int) (w : World) (hu : IsInt w u x) (hv : IsInt w v y) (hsx : isz x ≤ 1099511627775) (hsy : isz y ≤ 1099511627775) (hy0 : y ≠ 0) :
    Calls Tryz.prog 80 #[u, v] w fun e w' => (∃ v, e = .returned v ∧ IsRat w' v (Rat.divInt x y)) ∧ Below w.heap.size w w' := by
  have hG := fun W (hW : Below w.heap.size w W) => ref_gcd u v x y W (hu.below hW) (hv.below hW) hsx hsy
  have hs0 : isz (((Nat.gcd x.natAbs y.natAbs : Nat)) : Int) ≤ 1099511627775 := by
    rw [isz_nat]; exact Nat.le_trans (sz_mono (Nat.gcd_le_right _ (by omega))) hsy
  have hs1 : isz (lowg x y) ≤ 1099511627775 := by
    unfold isz; rw [lowg_natAbs]; rw [isz_nat] at hs0; exact hs0
  have hne := lowg_ne x hy0
  have hnum := low_num x hy0
  have hden := low_den x hy0
  have hlg : lowg x y = if y < 0 then -((Nat.gcd x.natAbs y.natAbs : Nat) : Int) else ((Nat.gcd x.natAbs y.natAbs : Nat) : Int) := rfl
  obtain ⟨su, A, n, c, rfl, hx⟩ := hu
  obtain ⟨sv, B, m, d, rfl, hy⟩ := hv
  generalize ((Nat.gcd x.natAbs y.natAbs : Nat) : Int) = G0 at *
  generalize hLG : lowg x y = LG at *
  have HNum := Lib.hid hnum
  have HDen := Lib.hid hden
  have Hlg := Lib.hid hlg
  generalize Rat.divInt x y = R at *
  clear hnum hden hlg hLG
  go_enter Tryz.func80, Tryz.ntmps80
  go_wp2_with fail
  generalize hW : World.alloc _ _ = W
  have hBW : Below w.heap.size w W := by rw [← hW]; exact (((Below.refl _ _).alloc (Nat.le_refl _) _).alloc (by simp) _).alloc (by simp; omega) _
  have hX : IC W w.heap.size x := ⟨su, A, n, c, by rw [← hW]; simp [go_sem], by rw [← hW]; simp [go_sem], fun o => by rw [← hW]; simp [go_sem], by rw [← hW]; simp; omega, hx.below hBW⟩
  have hY : IC W (w.heap.size + 1) y := ⟨sv, B, m, d, by rw [← hW]; simp [go_sem], by rw [← hW]; simp [go_sem], fun o => by rw [← hW]; simp [go_sem], by rw [← hW]; simp, hy.below hBW⟩
  have hR : RC4 W (w.heap.size + 1 + 1) := by rw [← hW]; exact ⟨by simp [go_sem], by simp [go_sem], by simp [go_sem], by simp [go_sem], by simp [go_sem], by simp⟩
  clear hW
  refine (hG _ hBW).mono ?_
  rintro e w1 ⟨⟨_, rfl, s1, A1, n1, c1, rfl, hI⟩, hb⟩
  have hBW := hBW.trans (hb.mono hBW.size)
  have hX := hX.below hb
  have hY := hY.below hb
  have hR := hR.below hb
  clear hb
  obtain ⟨s2, A2, n2, c2, k5, k6, k7, k8, hyy⟩ := id hY
  go_wp2_with fail
  generalize hW : World.alloc _ _ = W2
  have hB2 : Below w1.heap.size w1 W2 := by rw [← hW]; exact (Below.refl _ _).alloc (Nat.le_refl _) _
  have hgG : IC W2 w1.heap.size G0 := ⟨s1, A1, n1, c1, by rw [← hW]; simp [go_sem], by rw [← hW]; simp [go_sem], fun o => by rw [← hW]; simp [go_sem], by rw [← hW]; simp, hI.below hB2⟩
  clear hW
  have hBW := hBW.trans (hB2.mono hBW.size)
  have hX := hX.below hB2
  have hY := hY.below hB2
  have hlt : w.heap.size + 1 + 1 < w1.heap.size := hR.2.2.2.2.2
  have hR := hR.below hB2
  have hSg := ref_sign _ y W2 (hyy.below hB2).is
  clear hI hG hx hy hB2 hyy
  generalize w1.heap.size = g at *
  by_cases h0 : y < 0
  · have hcc := cmpI_neg h0
    have hLG : LG = -G0 := by rw [Hlg.out, if_pos h0]
    generalize cmpI y 0 = cc at *
    clear h0 hy0
    refine hSg.mono ?_
    rintro e W3 ⟨rfl, hb⟩
    have hBW := hBW.trans (hb.mono hBW.size)
    have hX := hX.below hb
    have hY := hY.below hb
    have hgG := hgG.below hb
    have hR := hR.below hb
    clear k5 k6 k7 k8
    obtain ⟨s3, A3, n3, c3, k9, k10, k11, k12, hg⟩ := id hgG
    go_wp2_with fail
    refine (ref_neg _ G0 W3 hg.is (by omega)).mono ?_
    rintro e W4 ⟨⟨_, rfl, s4, A4, n4, c4, rfl, hI⟩, hb⟩
    have hBW := hBW.trans (hb.mono hBW.size)
    have hX := hX.below hb
    have hY := hY.below hb
    have hgG := hgG.below hb
    have hR := hR.below hb
    clear k9 k10 k11 k12 hg
    rw [← hLG] at hI
    obtain ⟨s1, A1, n1, c1, k1, k2, k3, k4, hx⟩ := id hX
    obtain ⟨s3, A3, n3, c3, k9, k10, k11, k12, hg⟩ := id hgG
    have hx := hx.other hgG s4 A4 n4 c4
    have hy := hI.other hgG s4 A4 n4 c4
    have hgL := hgG.put hI
    have hX := hX.other hgG (by omega) s4 A4 n4 c4
    have hY := hY.other hgG (by omega) s4 A4 n4 c4
    have hR := hR.set2 (g' := g) (by omega) 0 1 (.bool s4) (.slice A4 n4 c4)
    have hBW := hBW.trans (below_set2 (g := g) (by omega) 0 1 (.bool s4) (.slice A4 n4 c4))
    go_wp2_with fail
    generalize World.setCell (World.setCell _ _ _) _ _ = W5 at *
    clear k1 k2 k3 k4 k9 k10 k11 k12 hg hI hgG
    have hge : w.heap.size ≤ w.heap.size + 1 + 1 := by omega
    have hzz : w.heap.size ≤ W5.heap.size := hBW.size
    have ne0 : w.heap.size ≠ w.heap.size + 1 + 1 := by omega
    have ne1 : w.heap.size + 1 ≠ w.heap.size + 1 + 1 := by omega
    have ne2 : g ≠ w.heap.size + 1 + 1 := by omega
    obtain ⟨s1, A1, n1, c1, k1, k2, k3, k4, hx⟩ := hX
    obtain ⟨s2, A2, n2, c2, k5, k6, k7, k8, hy⟩ := hY
    obtain ⟨s5, A5, n5, c5, k9, k10, k11, k12, hg⟩ := hgL
    have hBW' : Below w.heap.size w W5.drew := hBW.trans (below_drew' _)
    clear hSg
    go_region_held3 (fun w' => Below w.heap.size w w' ∧ w'.cell? ⟨w.heap.size, 0, none⟩ = some (.bool s1) ∧ w'.cell? ⟨w.heap.size, 1, none⟩ = some (.slice A1 n1 c1) ∧ w'.cell? ⟨w.heap.size + 1, 0, none⟩ = some (.bool s2) ∧ w'.cell? ⟨w.heap.size + 1, 1, none⟩ = some (.slice A2 n2 c2) ∧ w'.cell? ⟨g, 0, none⟩ = some (.bool s5) ∧ w'.cell? ⟨g, 1, none⟩ = some (.slice A5 n5 c5))
      (((try dsimp only); first | with_reducible exact keepC6 (Nat.le_refl _) (by assumption) (by assumption) | with_reducible exact keepO6 hge ne0 ne0 ne1 ne1 ne2 ne2 (by assumption) | exact ⟨hBW', k1, k2, k5, k6, k9, k10⟩))
      (first
        | (go_at_call_of 117 (Value.agg #[Value.bool s1, Value.slice A1 n1 c1])
           refine (q_exact _ _ x LG _ (hx.below (below_drew' _)).is (hg.below (below_drew' _)).is hsx hs1 hne).mono ?_
           rintro e w6 ⟨⟨_, rfl, s6, A6, n6, c6, rfl, hI6⟩, hb6⟩
           have hb6' : Below W5.heap.size W5 w6 := (below_drew' _).trans hb6)
        | (go_at_call_of 117 (Value.agg #[Value.bool s2, Value.slice A2 n2 c2])
           refine (q_exact _ _ y LG _ (hy.below hb6').is (hg.below hb6').is hsy hs1 hne).mono ?_
           rintro e w7 ⟨⟨_, rfl, s7, A7, n7, c7, rfl, hI7⟩, hb7⟩
           have hb7' : Below W5.heap.size W5 w7 := hb6'.trans (hb7.mono hb6'.size)
           have hI6 := hI6.below hb7
           obtain ⟨d0, d1, d2, d3, df, dl⟩ := hR.below hb7'))
    all_goals
      have hP := rat_put' (q := R) (hBW.trans (hb7'.mono hBW.size)) (by omega) ⟨d0, d1, d2, d3, df, dl⟩ ⟨by rw [HNum.out]; exact hI6, by rw [HDen.out]; exact hI7⟩
      go_wp2
      exact bodyPost_ret (v := .agg #[.bool s6, .slice A6 n6 c6, .bool s7, .slice A7 n7 c7]) (by simp [results, Tryz.results80, go_sem, d0, d1, d2, d3]) rfl ⟨⟨_, rfl, RatP.is hP.1⟩, hP.2⟩
  · have hcc := cmpI_nonneg h0
    have hLG : LG = G0 := by rw [Hlg.out, if_neg h0]
    generalize cmpI y 0 = cc at *
    subst hLG
    clear h0 hy0
    refine hSg.mono ?_
    rintro e W5 ⟨rfl, hb⟩
    have hBW := hBW.trans (hb.mono hBW.size)
    have hX := hX.below hb
    have hY := hY.below hb
    have hgL := hgG.below hb
    have hR := hR.below hb
    clear k5 k6 k7 k8 hgG
    go_wp2_with fail
    have hge : w.heap.size ≤ w.heap.size + 1 + 1 := by omega
    have hzz : w.heap.size ≤ W5.heap.size := hBW.size
    have ne0 : w.heap.size ≠ w.heap.size + 1 + 1 := by omega
    have ne1 : w.heap.size + 1 ≠ w.heap.size + 1 + 1 := by omega
    have ne2 : g ≠ w.heap.size + 1 + 1 := by omega
    obtain ⟨s1, A1, n1, c1, k1, k2, k3, k4, hx⟩ := hX
    obtain ⟨s2, A2, n2, c2, k5, k6, k7, k8, hy⟩ := hY
    obtain ⟨s5, A5, n5, c5, k9, k10, k11, k12, hg⟩ := hgL
    have hBW' : Below w.heap.size w W5.drew := hBW.trans (below_drew' _)
    clear hSg
    go_region_held3 (fun w' => Below w.heap.size w w' ∧ w'.cell? ⟨w.heap.size, 0, none⟩ = some (.bool s1) ∧ w'.cell? ⟨w.heap.size, 1, none⟩ = some (.slice A1 n1 c1) ∧ w'.cell? ⟨w.heap.size + 1, 0, none⟩ = some (.bool s2) ∧ w'.cell? ⟨w.heap.size + 1, 1, none⟩ = some (.slice A2 n2 c2) ∧ w'.cell? ⟨g, 0, none⟩ = some (.bool s5) ∧ w'.cell? ⟨g, 1, none⟩ = some (.slice A5 n5 c5))
      (((try dsimp only); first | with_reducible exact keepC6 (Nat.le_refl _) (by assumption) (by assumption) | with_reducible exact keepO6 hge ne0 ne0 ne1 ne1 ne2 ne2 (by assumption) | exact ⟨hBW', k1, k2, k5, k6, k9, k10⟩))
      (first
        | (go_at_call_of 117 (Value.agg #[Value.bool s1, Value.slice A1 n1 c1])
           refine (q_exact _ _ x LG _ (hx.below (below_drew' _)).is (hg.below (below_drew' _)).is hsx hs1 hne).mono ?_
           rintro e w6 ⟨⟨_, rfl, s6, A6, n6, c6, rfl, hI6⟩, hb6⟩
           have hb6' : Below W5.heap.size W5 w6 := (below_drew' _).trans hb6)
        | (go_at_call_of 117 (Value.agg #[Value.bool s2, Value.slice A2 n2 c2])
           refine (q_exact _ _ y LG _ (hy.below hb6').is (hg.below hb6').is hsy hs1 hne).mono ?_
           rintro e w7 ⟨⟨_, rfl, s7, A7, n7, c7, rfl, hI7⟩, hb7⟩
           have hb7' : Below W5.heap.size W5 w7 := hb6'.trans (hb7.mono hb6'.size)
           have hI6 := hI6.below hb7
           obtain ⟨d0, d1, d2, d3, df, dl⟩ := hR.below hb7'))
    all_goals
      have hP := rat_put' (q := R) (hBW.trans (hb7'.mono hBW.size)) (by omega) ⟨d0, d1, d2, d3, df, dl⟩ ⟨by rw [HNum.out]; exact hI6, by rw [HDen.out]; exact hI7⟩
      go_wp2
      exact bodyPost_ret (v := .agg #[.bool s6, .slice A6 n6 c6, .bool s7, .slice A7 n7 c7]) (by simp [results, Tryz.results80, go_sem, d0, d1, d2, d3]) rfl ⟨⟨_, rfl, RatP.is hP.1⟩, hP.2⟩

end Go.Proofs.YtlklgeidffjidaaGreat

/- Walks of the reference: rational arithmetic (eliminantref02). -/
namespace Go.Proofs.YtlklgeidffjidaaGreat
open Go.RowKit
set_option linter.unusedSimpArgs false

set_option maxHeartbeats 1000000 in
theorem q_new_zero (u v : Value) (x : Int) (w : World) (hu : IsInt w u x) (hv : IsInt w v 0) :
    Calls Tryz.prog 118 #[u, v] w fun e w' => e = .returned (.tuple #[ratNil, .int .i64 10]) ∧ Below w.heap.size w w' := by
  obtain ⟨y, Hy⟩ : ∃ y : Int, Hid (y = 0) := ⟨0, Lib.hid rfl⟩
  rw [← Hy.out] at hv
  obtain ⟨su, A, n, c, rfl, hx⟩ := hu
  obtain ⟨sv, B, m, d, rfl, hy⟩ := hv
  have hS := fun W (hW : Below w.heap.size w W) => ref_sign _ y W (hy.below hW).is
  have hcc : cmpI y 0 = 0 := by rw [Hy.out]; rfl
  rw [hcc] at hS
  go_enter Tryz.func118, Tryz.ntmps118
  go_wp2_with fail
  generalize hW : World.alloc _ _ = W
  have hBW : Below w.heap.size w W := by rw [← hW]; exact (((Below.refl _ _).alloc (Nat.le_refl _) _).alloc (by simp) _).alloc (by simp; omega) _
  have k1 : W.cell? ⟨w.heap.size, 0, none⟩ = some (.bool su) := by rw [← hW]; simp [go_sem]
  have k2 : W.cell? ⟨w.heap.size, 1, none⟩ = some (.slice A n c) := by rw [← hW]; simp [go_sem]
  have k3 : W.cell? ⟨w.heap.size + 1, 0, none⟩ = some (.bool sv) := by rw [← hW]; simp [go_sem]
  have k4 : W.cell? ⟨w.heap.size + 1, 1, none⟩ = some (.slice B m d) := by rw [← hW]; simp [go_sem]
  have hR : RC4 W (w.heap.size + 1 + 1) := by rw [← hW]; exact ⟨by simp [go_sem], by simp [go_sem], by simp [go_sem], by simp [go_sem], by simp [go_sem], by simp⟩
  clear hW
  refine (hS _ hBW).mono ?_
  rintro e w1 ⟨rfl, hb⟩
  have hBW := hBW.trans (hb.mono hBW.size)
  have k1 := cell_below k1 hb
  have k2 := cell_below k2 hb
  have k3 := cell_below k3 hb
  have k4 := cell_below k4 hb
  have hR := hR.below hb
  obtain ⟨r0, r1, r2, r3, rf, rl⟩ := hR
  go_wp2
  exact bodyPost_ret (v := .tuple #[ratNil, .int .i64 10]) (by simp [results, Tryz.results118, go_sem, r0, r1, r2, r3, ratNil]) rfl ⟨rfl, hBW.trans (below_set4 (by omega) _ _ _ _ _ _ _ _)⟩

set_option maxHeartbeats 1000000 in
theorem q_new (u v : Value) (x y : Int) (w : World) (hu : IsInt w u x) (hv : IsInt w v y) (hsx : isz x ≤ 1099511627775) (hsy : isz y ≤ 1099511627775) (hy0 : y ≠ 0) :
    Calls Tryz.prog 118 #[u, v] w fun e w' => (∃ v, e = .returned (.tuple #[v, .int .i64 0]) ∧ IsRat w' v (Rat.divInt x y)) ∧ Below w.heap.size w w' := by
  obtain ⟨su, A, n, c, rfl, hx⟩ := hu
  obtain ⟨sv, B, m, d, rfl, hy⟩ := hv
  have hS := fun W (hW : Below w.heap.size w W) => ref_sign _ y W (hy.below hW).is
  have hL := fun W (hW : Below w.heap.size w W) => q_lowest _ _ x y W (hx.below hW).is (hy.below hW).is hsx hsy hy0
  have hcc := cmpI_ne hy0
  generalize cmpI y 0 = cc at *
  generalize Rat.divInt x y = R at *
  clear hy0
  go_enter Tryz.func118, Tryz.ntmps118
  go_wp2_with fail
  generalize hW : World.alloc _ _ = W
  have hBW : Below w.heap.size w W := by rw [← hW]; exact (((Below.refl _ _).alloc (Nat.le_refl _) _).alloc (by simp) _).alloc (by simp; omega) _
  have k1 : W.cell? ⟨w.heap.size, 0, none⟩ = some (.bool su) := by rw [← hW]; simp [go_sem]
  have k2 : W.cell? ⟨w.heap.size, 1, none⟩ = some (.slice A n c) := by rw [← hW]; simp [go_sem]
  have k3 : W.cell? ⟨w.heap.size + 1, 0, none⟩ = some (.bool sv) := by rw [← hW]; simp [go_sem]
  have k4 : W.cell? ⟨w.heap.size + 1, 1, none⟩ = some (.slice B m d) := by rw [← hW]; simp [go_sem]
  have hR : RC4 W (w.heap.size + 1 + 1) := by rw [← hW]; exact ⟨by simp [go_sem], by simp [go_sem], by simp [go_sem], by simp [go_sem], by simp [go_sem], by simp⟩
  clear hW
  refine (hS _ hBW).mono ?_
  rintro e w1 ⟨rfl, hb⟩
  have hBW := hBW.trans (hb.mono hBW.size)
  have k1 := cell_below k1 hb
  have k2 := cell_below k2 hb
  have k3 := cell_below k3 hb
  have k4 := cell_below k4 hb
  have hR := hR.below hb
  go_wp2_with fail
  refine (hL _ hBW).mono ?_
  rintro e w2 ⟨⟨_, rfl, s3, A3, n3, m3, t3, B3, k3, l3, rfl, hq⟩, hb2⟩
  have hBW := hBW.trans (hb2.mono hBW.size)
  have hR := hR.below hb2
  have hP := rat_put' hBW (by omega) hR hq
  obtain ⟨r0, r1, r2, r3, rf, rl⟩ := hR
  go_wp2
  exact bodyPost_ret (v := .tuple #[.agg #[.bool s3, .slice A3 n3 m3, .bool t3, .slice B3 k3 l3], .int .i64 0]) (by simp [results, Tryz.results118, go_sem, r0, r1, r2, r3]) rfl ⟨⟨_, rfl, RatP.is hP.1⟩, hP.2⟩

set_option maxHeartbeats 1000000 in
theorem q_inv_aux (u : Value) (a q : Rat) (w : World) (hu : IsRat w u a)
    (hN : ∀ W u v, IsInt W u (a.den : Int) → IsInt W v a.num → Calls Tryz.prog 118 #[u, v] W fun e w' => (∃ v, e = .returned (.tuple #[v, .int .i64 0]) ∧ IsRat w' v q) ∧ Below W.heap.size W w') :
    Calls Tryz.prog 83 #[u] w fun e w' => (∃ v, e = .returned (.tuple #[v, .int .i64 0]) ∧ IsRat w' v q) ∧ Below w.heap.size w w' := by
  obtain ⟨s, A, n, c, s', A', n', c', rfl, ha1, ha2⟩ := hu
  go_enter Tryz.func83, Tryz.ntmps83
  go_wp2_with fail
  generalize hW : World.alloc _ _ = W
  have hBW : Below w.heap.size w W := by rw [← hW]; exact ((Below.refl _ _).alloc (Nat.le_refl _) _).alloc (by simp) _
  have hR : RC4 W (w.heap.size + 1) := by rw [← hW]; exact ⟨by simp [go_sem], by simp [go_sem], by simp [go_sem], by simp [go_sem], by simp [go_sem], by simp⟩
  clear hW
  refine (hN _ _ _ (ha2.below hBW).is (ha1.below hBW).is).mono ?_
  rintro e w2 ⟨⟨_, rfl, s3, A3, n3, m3, t3, B3, k3, l3, rfl, hq⟩, hb2⟩
  have hBW := hBW.trans (hb2.mono hBW.size)
  have hR := hR.below hb2
  have hP := rat_put' hBW (by omega) hR hq
  obtain ⟨r0, r1, r2, r3, rf, rl⟩ := hR
  go_wp2
  exact bodyPost_ret (v := .tuple #[.agg #[.bool s3, .slice A3 n3 m3, .bool t3, .slice B3 k3 l3], .int .i64 0]) (by simp [results, Tryz.results83, go_sem, r0, r1, r2, r3]) rfl ⟨⟨_, rfl, RatP.is hP.1⟩, hP.2⟩

set_option maxHeartbeats 1000000 in
theorem q_sign (u : Value) (a : Rat) (w : World) (hu : IsRat w u a) :
    Calls Tryz.prog 53 #[u] w fun e w' => e = .returned (.int .i64 (cmpI a.num 0)) ∧ Below w.heap.size w w' := by
  obtain ⟨s, A, n, c, s', A', n', c', rfl, ha1, ha2⟩ := hu
  have hS := fun W (hW : Below w.heap.size w W) => ref_sign _ a.num W (ha1.below hW).is
  generalize cmpI a.num 0 = cc at *
  go_enter Tryz.func53, Tryz.ntmps53
  go_wp2_with fail
  generalize hW : World.alloc _ _ = W
  have hBW : Below w.heap.size w W := by rw [← hW]; exact (Below.refl _ _).alloc (Nat.le_refl _) _
  clear hW
  refine (hS _ hBW).mono ?_
  rintro e w1 ⟨rfl, hb⟩
  go_wp2
  go_ret
  exact ⟨rfl, hBW.trans (hb.mono hBW.size)⟩

set_option maxHeartbeats 1000000 in
theorem q_whole (z : Int) (w : World) (h0 : -9223372036854775808 ≤ z) (h1 : z < 9223372036854775808) :
    Calls Tryz.prog 22 #[.int .i64 z] w fun e w' => (∃ v, e = .returned v ∧ IsRat w' v (z : Rat)) ∧ Below w.heap.size w w' := by
  have hO := fun W => ref_of z W h0 h1
  have hO1 := fun W => ref_of 1 W (by omega) (by omega)
  have e1 : ((z : Rat)).num = z := Rat.num_intCast z
  have e2 : (((z : Rat)).den : Int) = 1 := by rw [Rat.den_intCast]; rfl
  generalize (z : Rat) = R at *
  obtain ⟨one, H1⟩ : ∃ one : Int, Hid (one = 1) := ⟨1, Lib.hid rfl⟩
  have hO1' : ∀ W, Calls Tryz.prog 67 #[.int .i64 1] W fun e w' => (∃ v, e = .returned v ∧ IsInt w' v one) ∧ Below W.heap.size W w' := by rw [H1.out]; exact hO1
  rw [← H1.out] at e2
  have E1 := Lib.hid e1
  have E2 := Lib.hid e2
  clear e1 e2 hO1
  go_enter Tryz.func22, Tryz.ntmps22
  go_wp2_with fail
  generalize hW : World.alloc _ _ = W
  have hBW : Below w.heap.size w W := by rw [← hW]; exact (Below.refl _ _).alloc (Nat.le_refl _) _
  have hR : RC4 W w.heap.size := by rw [← hW]; exact ⟨by simp [go_sem], by simp [go_sem], by simp [go_sem], by simp [go_sem], by simp [go_sem], by simp⟩
  clear hW
  refine (hO _).mono ?_
  rintro e w1 ⟨⟨_, rfl, s1, A1, n1, c1, rfl, hI⟩, hb⟩
  have hBW := hBW.trans (hb.mono hBW.size)
  have hR := hR.below hb
  go_wp2_with fail
  refine (hO1' _).mono ?_
  rintro e w2 ⟨⟨_, rfl, s2, A2, n2, c2, rfl, hJ⟩, hb2⟩
  have hBW := hBW.trans (hb2.mono hBW.size)
  have hR := hR.below hb2
  have hP := rat_put' (q := R) hBW (by omega) hR ⟨by rw [E1.out]; exact hI.below hb2, by rw [E2.out]; exact hJ⟩
  obtain ⟨r0, r1, r2, r3, rf, rl⟩ := hR
  go_wp2
  exact bodyPost_ret (v := .agg #[.bool s1, .slice A1 n1 c1, .bool s2, .slice A2 n2 c2]) (by simp [results, Tryz.results22, go_sem, r0, r1, r2, r3]) rfl ⟨⟨_, rfl, RatP.is hP.1⟩, hP.2⟩

set_option maxRecDepth 100000 in
set_option maxHeartbeats 4000000 in
theorem q_mul_aux (u v : Value) (a b q : Rat) (w : World) (hu : IsRat w u a) (hv : IsRat w v b) (hsa : rsz a ≤ 68719476736) (hsb : rsz b ≤ 68719476736)
    (hL : ∀ W u v, IsInt W u (a.num * b.num) → IsInt W v ((a.den : Int) * (b.den : Int)) → Calls Tryz.prog 80 #[u, v] W fun e w' => (∃ v, e = .returned v ∧ IsRat w' v q) ∧ Below W.heap.size W w') :
    Calls Tryz.prog 50 #[u, v] w fun e w' => (∃ v, e = .returned v ∧ IsRat w' v q) ∧ Below w.heap.size w w' := by
  have z1 := rsz_num a; have z2 := rsz_num b; have z3 := rsz_den a; have z4 := rsz_den b
  have z5 : isz (a.den : Int) = sz a.den := isz_nat _
  have z6 : isz (b.den : Int) = sz b.den := isz_nat _
  have z7 := isz_mul a.num b.den
  have z8 := isz_mul b.num a.den
  obtain ⟨s, A, n, c, s', A', n', c', rfl, ha1, ha2⟩ := hu
  obtain ⟨t, B, m, d, t', B', m', d', rfl, hb1, hb2⟩ := hv
  go_enter Tryz.func50, Tryz.ntmps50
  go_wp2_with fail
  generalize hW : World.alloc _ _ = W
  have hBW : Below w.heap.size w W := by rw [← hW]; exact (((Below.refl _ _).alloc (Nat.le_refl _) _).alloc (by simp) _).alloc (by simp; omega) _
  have a0 : W.cell? ⟨w.heap.size, 0, none⟩ = some (.bool s) := by rw [← hW]; simp [go_sem]
  have a1 : W.cell? ⟨w.heap.size, 1, none⟩ = some (.slice A n c) := by rw [← hW]; simp [go_sem]
  have a2 : W.cell? ⟨w.heap.size, 2, none⟩ = some (.bool s') := by rw [← hW]; simp [go_sem]
  have a3 : W.cell? ⟨w.heap.size, 3, none⟩ = some (.slice A' n' c') := by rw [← hW]; simp [go_sem]
  have b0 : W.cell? ⟨w.heap.size + 1, 0, none⟩ = some (.bool t) := by rw [← hW]; simp [go_sem]
  have b1 : W.cell? ⟨w.heap.size + 1, 1, none⟩ = some (.slice B m d) := by rw [← hW]; simp [go_sem]
  have b2 : W.cell? ⟨w.heap.size + 1, 2, none⟩ = some (.bool t') := by rw [← hW]; simp [go_sem]
  have b3 : W.cell? ⟨w.heap.size + 1, 3, none⟩ = some (.slice B' m' d') := by rw [← hW]; simp [go_sem]
  have hR : RC4 W (w.heap.size + 1 + 1) := by rw [← hW]; exact ⟨by simp [go_sem], by simp [go_sem], by simp [go_sem], by simp [go_sem], by simp [go_sem], by simp⟩
  have hz : w.heap.size + 2 ≤ W.heap.size := by rw [← hW]; simp
  have hge : w.heap.size + 2 ≤ w.heap.size + 1 + 1 := Nat.le_refl _
  have lt0 : w.heap.size < w.heap.size + 2 := by omega
  have lt1 : w.heap.size + 1 < w.heap.size + 2 := by omega
  clear hW
  go_region_held3 (fun w' => Below (w.heap.size + 2) W w' ∧ w'.cell? ⟨w.heap.size, 0, none⟩ = some (.bool s) ∧ w'.cell? ⟨w.heap.size, 1, none⟩ = some (.slice A n c) ∧ w'.cell? ⟨w.heap.size, 2, none⟩ = some (.bool s') ∧ w'.cell? ⟨w.heap.size, 3, none⟩ = some (.slice A' n' c') ∧ w'.cell? ⟨w.heap.size + 1, 0, none⟩ = some (.bool t) ∧ w'.cell? ⟨w.heap.size + 1, 1, none⟩ = some (.slice B m d) ∧ w'.cell? ⟨w.heap.size + 1, 2, none⟩ = some (.bool t') ∧ w'.cell? ⟨w.heap.size + 1, 3, none⟩ = some (.slice B' m' d'))
    (((try dsimp only); first | with_reducible exact keepD8 hz (by assumption) | with_reducible exact keepA8 hz (by assumption) | with_reducible exact keepC8 hz (by assumption) (by assumption) | with_reducible exact keepT8 (below_set4 hge _ _ _ _ _ _ _ _) lt0 lt0 lt0 lt0 lt1 lt1 lt1 lt1 (by assumption) | exact ⟨below_drew' _, a0, a1, a2, a3, b0, b1, b2, b3⟩))
    (first
      | (go_at_call_of 79 (Value.agg #[Value.bool s, Value.slice A n c])
         refine (ref_mul _ _ (a.num) (b.num) _ (ha1.below (hBW.trans (Below.mono (And.left (by assumption)) (Nat.le_of_lt lt0)))).is (hb1.below (hBW.trans (Below.mono (And.left (by assumption)) (Nat.le_of_lt lt0)))).is (by omega) (by omega)).mono ?_
         rintro e w1 ⟨⟨v1, rfl, p1⟩, h1⟩
         have hR1 : RC4 w1 (w.heap.size + 1 + 1) := RC4.below (by (repeat' (first | assumption | with_reducible apply RC4.alloc | with_reducible apply RC4.drewn)); first | done | fail) h1)
      | (go_at_call_of 79 (Value.agg #[Value.bool s', Value.slice A' n' c'])
         refine (ref_mul _ _ ((a.den : Int)) ((b.den : Int)) _ (ha2.below (hBW.trans (Below.mono (And.left (by assumption)) (Nat.le_of_lt lt0)))).is (hb2.below (hBW.trans (Below.mono (And.left (by assumption)) (Nat.le_of_lt lt0)))).is (by omega) (by omega)).mono ?_
         rintro e w2 ⟨⟨v2, rfl, p2⟩, h2⟩
         have p1 : IsInt w2 v1 (a.num * b.num) := IsInt.below (by (repeat' (first | assumption | with_reducible apply IsInt.alloc | with_reducible apply IsInt.drewn)); first | done | fail) h2
         have hR2 : RC4 w2 (w.heap.size + 1 + 1) := RC4.below (by (repeat' (first | assumption | with_reducible apply RC4.alloc | with_reducible apply RC4.drewn)); first | done | fail) h2)
      | (go_at_call 80
         refine (hL _ _ _ (by (repeat' (first | assumption | with_reducible apply IsInt.alloc | with_reducible apply IsInt.drewn)); first | done | fail) (by (repeat' (first | assumption | with_reducible apply IsInt.alloc | with_reducible apply IsInt.drewn)); first | done | fail)).mono ?_
         rintro e w9 ⟨⟨_, rfl, s3, A3, n3, m3, t3, B3, k3, l3, rfl, hq⟩, h9⟩
         have hX : Below w.heap.size w _ := (hBW.trans (Below.mono (And.left (by assumption)) (Nat.le_of_lt lt0)))
         have hE := hX.trans (h9.mono hX.size)
         have hR9 : RC4 w9 (w.heap.size + 1 + 1) := RC4.below (by (repeat' (first | assumption | with_reducible apply RC4.alloc | with_reducible apply RC4.drewn)); first | done | fail) h9
         obtain ⟨d0, d1, d2, d3, df, dl⟩ := hR9))
  all_goals
    have hP := rat_put' hE (by omega) ⟨d0, d1, d2, d3, df, dl⟩ hq
    go_wp2
    exact bodyPost_ret (v := .agg #[.bool s3, .slice A3 n3 m3, .bool t3, .slice B3 k3 l3]) (by simp [results, Tryz.results50, go_sem, d0, d1, d2, d3]) rfl ⟨⟨_, rfl, RatP.is hP.1⟩, hP.2⟩

set_option maxRecDepth 100000 in
set_option maxHeartbeats 4000000 in
theorem q_div_aux (u v : Value) (a b q : Rat) (w : World) (hu : IsRat w u a) (hv : IsRat w v b) (hsa : rsz a ≤ 68719476736) (hsb : rsz b ≤ 68719476736)
    (hL : ∀ W u v, IsInt W u (a.num * (b.den : Int)) → IsInt W v ((a.den : Int) * b.num) → Calls Tryz.prog 118 #[u, v] W fun e w' => (∃ v, e = .returned (.tuple #[v, .int .i64 0]) ∧ IsRat w' v q) ∧ Below W.heap.size W w') :
    Calls Tryz.prog 81 #[u, v] w fun e w' => (∃ v, e = .returned (.tuple #[v, .int .i64 0]) ∧ IsRat w' v q) ∧ Below w.heap.size w w' := by
  have z1 := rsz_num a; have z2 := rsz_num b; have z3 := rsz_den a; have z4 := rsz_den b
  have z5 : isz (a.den : Int) = sz a.den := isz_nat _
  have z6 : isz (b.den : Int) = sz b.den := isz_nat _
  have z7 := isz_mul a.num b.den
  have z8 := isz_mul b.num a.den
  obtain ⟨s, A, n, c, s', A', n', c', rfl, ha1, ha2⟩ := hu
  obtain ⟨t, B, m, d, t', B', m', d', rfl, hb1, hb2⟩ := hv
  go_enter Tryz.func81, Tryz.ntmps81
  go_wp2_with fail
  generalize hW : World.alloc _ _ = W
  have hBW : Below w.heap.size w W := by rw [← hW]; exact (((Below.refl _ _).alloc (Nat.le_refl _) _).alloc (by simp) _).alloc (by simp; omega) _
  have a0 : W.cell? ⟨w.heap.size, 0, none⟩ = some (.bool s) := by rw [← hW]; simp [go_sem]
  have a1 : W.cell? ⟨w.heap.size, 1, none⟩ = some (.slice A n c) := by rw [← hW]; simp [go_sem]
  have a2 : W.cell? ⟨w.heap.size, 2, none⟩ = some (.bool s') := by rw [← hW]; simp [go_sem]
  have a3 : W.cell? ⟨w.heap.size, 3, none⟩ = some (.slice A' n' c') := by rw [← hW]; simp [go_sem]
  have b0 : W.cell? ⟨w.heap.size + 1, 0, none⟩ = some (.bool t) := by rw [← hW]; simp [go_sem]
  have b1 : W.cell? ⟨w.heap.size + 1, 1, none⟩ = some (.slice B m d) := by rw [← hW]; simp [go_sem]
  have b2 : W.cell? ⟨w.heap.size + 1, 2, none⟩ = some (.bool t') := by rw [← hW]; simp [go_sem]
  have b3 : W.cell? ⟨w.heap.size + 1, 3, none⟩ = some (.slice B' m' d') := by rw [← hW]; simp [go_sem]
  have hR : RC4 W (w.heap.size + 1 + 1) := by rw [← hW]; exact ⟨by simp [go_sem], by simp [go_sem], by simp [go_sem], by simp [go_sem], by simp [go_sem], by simp⟩
  have hz : w.heap.size + 2 ≤ W.heap.size := by rw [← hW]; simp
  have hge : w.heap.size + 2 ≤ w.heap.size + 1 + 1 := Nat.le_refl _
  have lt0 : w.heap.size < w.heap.size + 2 := by omega
  have lt1 : w.heap.size + 1 < w.heap.size + 2 := by omega
  clear hW
  go_region_held3 (fun w' => Below (w.heap.size + 2) W w' ∧ w'.cell? ⟨w.heap.size, 0, none⟩ = some (.bool s) ∧ w'.cell? ⟨w.heap.size, 1, none⟩ = some (.slice A n c) ∧ w'.cell? ⟨w.heap.size, 2, none⟩ = some (.bool s') ∧ w'.cell? ⟨w.heap.size, 3, none⟩ = some (.slice A' n' c') ∧ w'.cell? ⟨w.heap.size + 1, 0, none⟩ = some (.bool t) ∧ w'.cell? ⟨w.heap.size + 1, 1, none⟩ = some (.slice B m d) ∧ w'.cell? ⟨w.heap.size + 1, 2, none⟩ = some (.bool t') ∧ w'.cell? ⟨w.heap.size + 1, 3, none⟩ = some (.slice B' m' d'))
    (((try dsimp only); first | with_reducible exact keepD8 hz (by assumption) | with_reducible exact keepA8 hz (by assumption) | with_reducible exact keepC8 hz (by assumption) (by assumption) | with_reducible exact keepT8 (below_set4 hge _ _ _ _ _ _ _ _) lt0 lt0 lt0 lt0 lt1 lt1 lt1 lt1 (by assumption) | exact ⟨below_drew' _, a0, a1, a2, a3, b0, b1, b2, b3⟩))
    (first
      | (go_at_call_of 79 (Value.agg #[Value.bool s, Value.slice A n c])
         refine (ref_mul _ _ (a.num) ((b.den : Int)) _ (ha1.below (hBW.trans (Below.mono (And.left (by assumption)) (Nat.le_of_lt lt0)))).is (hb2.below (hBW.trans (Below.mono (And.left (by assumption)) (Nat.le_of_lt lt0)))).is (by omega) (by omega)).mono ?_
         rintro e w1 ⟨⟨v1, rfl, p1⟩, h1⟩
         have hR1 : RC4 w1 (w.heap.size + 1 + 1) := RC4.below (by (repeat' (first | assumption | with_reducible apply RC4.alloc | with_reducible apply RC4.drewn)); first | done | fail) h1)
      | (go_at_call_of 79 (Value.agg #[Value.bool s', Value.slice A' n' c'])
         refine (ref_mul _ _ ((a.den : Int)) (b.num) _ (ha2.below (hBW.trans (Below.mono (And.left (by assumption)) (Nat.le_of_lt lt0)))).is (hb1.below (hBW.trans (Below.mono (And.left (by assumption)) (Nat.le_of_lt lt0)))).is (by omega) (by omega)).mono ?_
         rintro e w2 ⟨⟨v2, rfl, p2⟩, h2⟩
         have p1 : IsInt w2 v1 (a.num * (b.den : Int)) := IsInt.below (by (repeat' (first | assumption | with_reducible apply IsInt.alloc | with_reducible apply IsInt.drewn)); first | done | fail) h2
         have hR2 : RC4 w2 (w.heap.size + 1 + 1) := RC4.below (by (repeat' (first | assumption | with_reducible apply RC4.alloc | with_reducible apply RC4.drewn)); first | done | fail) h2)
      | (go_at_call 118
         refine (hL _ _ _ (by (repeat' (first | assumption | with_reducible apply IsInt.alloc | with_reducible apply IsInt.drewn)); first | done | fail) (by (repeat' (first | assumption | with_reducible apply IsInt.alloc | with_reducible apply IsInt.drewn)); first | done | fail)).mono ?_
         rintro e w9 ⟨⟨_, rfl, s3, A3, n3, m3, t3, B3, k3, l3, rfl, hq⟩, h9⟩
         have hX : Below w.heap.size w _ := (hBW.trans (Below.mono (And.left (by assumption)) (Nat.le_of_lt lt0)))
         have hE := hX.trans (h9.mono hX.size)
         have hR9 : RC4 w9 (w.heap.size + 1 + 1) := RC4.below (by (repeat' (first | assumption | with_reducible apply RC4.alloc | with_reducible apply RC4.drewn)); first | done | fail) h9
         obtain ⟨d0, d1, d2, d3, df, dl⟩ := hR9))
  all_goals
    have hP := rat_put' hE (by omega) ⟨d0, d1, d2, d3, df, dl⟩ hq
    go_wp2
    exact bodyPost_ret (v := .tuple #[.agg #[.bool s3, .slice A3 n3 m3, .bool t3, .slice B3 k3 l3], .int .i64 0]) (by simp [results, Tryz.results81, go_sem, d0, d1, d2, d3]) rfl ⟨⟨_, rfl, RatP.is hP.1⟩, hP.2⟩

set_option maxRecDepth 100000 in
set_option maxHeartbeats 4000000 in
theorem q_add_aux (u v : Value) (a b q : Rat) (w : World) (hu : IsRat w u a) (hv : IsRat w v b) (hsa : rsz a ≤ 68719476736) (hsb : rsz b ≤ 68719476736)
    (hL : ∀ W u v, IsInt W u ((a.num * (b.den : Int)) + (b.num * (a.den : Int))) → IsInt W v ((a.den : Int) * (b.den : Int)) → Calls Tryz.prog 80 #[u, v] W fun e w' => (∃ v, e = .returned v ∧ IsRat w' v q) ∧ Below W.heap.size W w') :
    Calls Tryz.prog 49 #[u, v] w fun e w' => (∃ v, e = .returned v ∧ IsRat w' v q) ∧ Below w.heap.size w w' := by
  have z1 := rsz_num a; have z2 := rsz_num b; have z3 := rsz_den a; have z4 := rsz_den b
  have z5 : isz (a.den : Int) = sz a.den := isz_nat _
  have z6 : isz (b.den : Int) = sz b.den := isz_nat _
  have z7 := isz_mul a.num b.den
  have z8 := isz_mul b.num a.den
  obtain ⟨s, A, n, c, s', A', n', c', rfl, ha1, ha2⟩ := hu
  obtain ⟨t, B, m, d, t', B', m', d', rfl, hb1, hb2⟩ := hv
  go_enter Tryz.func49, Tryz.ntmps49
  go_wp2_with fail
  generalize hW : World.alloc _ _ = W
  have hBW : Below w.heap.size w W := by rw [← hW]; exact (((Below.refl _ _).alloc (Nat.le_refl _) _).alloc (by simp) _).alloc (by simp; omega) _
  have a0 : W.cell? ⟨w.heap.size, 0, none⟩ = some (.bool s) := by rw [← hW]; simp [go_sem]
  have a1 : W.cell? ⟨w.heap.size, 1, none⟩ = some (.slice A n c) := by rw [← hW]; simp [go_sem]
  have a2 : W.cell? ⟨w.heap.size, 2, none⟩ = some (.bool s') := by rw [← hW]; simp [go_sem]
  have a3 : W.cell? ⟨w.heap.size, 3, none⟩ = some (.slice A' n' c') := by rw [← hW]; simp [go_sem]
  have b0 : W.cell? ⟨w.heap.size + 1, 0, none⟩ = some (.bool t) := by rw [← hW]; simp [go_sem]
  have b1 : W.cell? ⟨w.heap.size + 1, 1, none⟩ = some (.slice B m d) := by rw [← hW]; simp [go_sem]
  have b2 : W.cell? ⟨w.heap.size + 1, 2, none⟩ = some (.bool t') := by rw [← hW]; simp [go_sem]
  have b3 : W.cell? ⟨w.heap.size + 1, 3, none⟩ = some (.slice B' m' d') := by rw [← hW]; simp [go_sem]
  have hR : RC4 W (w.heap.size + 1 + 1) := by rw [← hW]; exact ⟨by simp [go_sem], by simp [go_sem], by simp [go_sem], by simp [go_sem], by simp [go_sem], by simp⟩
  have hz : w.heap.size + 2 ≤ W.heap.size := by rw [← hW]; simp
  have hge : w.heap.size + 2 ≤ w.heap.size + 1 + 1 := Nat.le_refl _
  have lt0 : w.heap.size < w.heap.size + 2 := by omega
  have lt1 : w.heap.size + 1 < w.heap.size + 2 := by omega
  clear hW
  go_region_held3 (fun w' => Below (w.heap.size + 2) W w' ∧ w'.cell? ⟨w.heap.size, 0, none⟩ = some (.bool s) ∧ w'.cell? ⟨w.heap.size, 1, none⟩ = some (.slice A n c) ∧ w'.cell? ⟨w.heap.size, 2, none⟩ = some (.bool s') ∧ w'.cell? ⟨w.heap.size, 3, none⟩ = some (.slice A' n' c') ∧ w'.cell? ⟨w.heap.size + 1, 0, none⟩ = some (.bool t) ∧ w'.cell? ⟨w.heap.size + 1, 1, none⟩ = some (.slice B m d) ∧ w'.cell? ⟨w.heap.size + 1, 2, none⟩ = some (.bool t') ∧ w'.cell? ⟨w.heap.size + 1, 3, none⟩ = some (.slice B' m' d'))
    (((try dsimp only); first | with_reducible exact keepD8 hz (by assumption) | with_reducible exact keepA8 hz (by assumption) | with_reducible exact keepC8 hz (by assumption) (by assumption) | with_reducible exact keepT8 (below_set4 hge _ _ _ _ _ _ _ _) lt0 lt0 lt0 lt0 lt1 lt1 lt1 lt1 (by assumption) | exact ⟨below_drew' _, a0, a1, a2, a3, b0, b1, b2, b3⟩))
    (first
      | (go_at_call_of 79 (Value.agg #[Value.bool s, Value.slice A n c])
         refine (ref_mul _ _ (a.num) ((b.den : Int)) _ (ha1.below (hBW.trans (Below.mono (And.left (by assumption)) (Nat.le_of_lt lt0)))).is (hb2.below (hBW.trans (Below.mono (And.left (by assumption)) (Nat.le_of_lt lt0)))).is (by omega) (by omega)).mono ?_
         rintro e w1 ⟨⟨v1, rfl, p1⟩, h1⟩
         have hR1 : RC4 w1 (w.heap.size + 1 + 1) := RC4.below (by (repeat' (first | assumption | with_reducible apply RC4.alloc | with_reducible apply RC4.drewn)); first | done | fail) h1)
      | (go_at_call_of 79 (Value.agg #[Value.bool t, Value.slice B m d])
         refine (ref_mul _ _ (b.num) ((a.den : Int)) _ (hb1.below (hBW.trans (Below.mono (And.left (by assumption)) (Nat.le_of_lt lt0)))).is (ha2.below (hBW.trans (Below.mono (And.left (by assumption)) (Nat.le_of_lt lt0)))).is (by omega) (by omega)).mono ?_
         rintro e w2 ⟨⟨v2, rfl, p2⟩, h2⟩
         have p1 : IsInt w2 v1 (a.num * (b.den : Int)) := IsInt.below (by (repeat' (first | assumption | with_reducible apply IsInt.alloc | with_reducible apply IsInt.drewn)); first | done | fail) h2
         have hR2 : RC4 w2 (w.heap.size + 1 + 1) := RC4.below (by (repeat' (first | assumption | with_reducible apply RC4.alloc | with_reducible apply RC4.drewn)); first | done | fail) h2)
      | (go_at_call 78
         refine (ref_add v1 v2 (a.num * (b.den : Int)) (b.num * (a.den : Int)) _ (by (repeat' (first | assumption | with_reducible apply IsInt.alloc | with_reducible apply IsInt.drewn)); first | done | fail) (by (repeat' (first | assumption | with_reducible apply IsInt.alloc | with_reducible apply IsInt.drewn)); first | done | fail) (by omega) (by omega)).mono ?_
         rintro e w3 ⟨⟨v3, rfl, p3⟩, h3⟩
         have p1 : IsInt w3 v1 (a.num * (b.den : Int)) := IsInt.below (by (repeat' (first | assumption | with_reducible apply IsInt.alloc | with_reducible apply IsInt.drewn)); first | done | fail) h3
         have p2 : IsInt w3 v2 (b.num * (a.den : Int)) := IsInt.below (by (repeat' (first | assumption | with_reducible apply IsInt.alloc | with_reducible apply IsInt.drewn)); first | done | fail) h3
         have hR3 : RC4 w3 (w.heap.size + 1 + 1) := RC4.below (by (repeat' (first | assumption | with_reducible apply RC4.alloc | with_reducible apply RC4.drewn)); first | done | fail) h3)
      | (go_at_call_of 79 (Value.agg #[Value.bool s', Value.slice A' n' c'])
         refine (ref_mul _ _ ((a.den : Int)) ((b.den : Int)) _ (ha2.below (hBW.trans (Below.mono (And.left (by assumption)) (Nat.le_of_lt lt0)))).is (hb2.below (hBW.trans (Below.mono (And.left (by assumption)) (Nat.le_of_lt lt0)))).is (by omega) (by omega)).mono ?_
         rintro e w4 ⟨⟨v4, rfl, p4⟩, h4⟩
         have p1 : IsInt w4 v1 (a.num * (b.den : Int)) := IsInt.below (by (repeat' (first | assumption | with_reducible apply IsInt.alloc | with_reducible apply IsInt.drewn)); first | done | fail) h4
         have p2 : IsInt w4 v2 (b.num * (a.den : Int)) := IsInt.below (by (repeat' (first | assumption | with_reducible apply IsInt.alloc | with_reducible apply IsInt.drewn)); first | done | fail) h4
         have p3 : IsInt w4 v3 ((a.num * (b.den : Int)) + (b.num * (a.den : Int))) := IsInt.below (by (repeat' (first | assumption | with_reducible apply IsInt.alloc | with_reducible apply IsInt.drewn)); first | done | fail) h4
         have hR4 : RC4 w4 (w.heap.size + 1 + 1) := RC4.below (by (repeat' (first | assumption | with_reducible apply RC4.alloc | with_reducible apply RC4.drewn)); first | done | fail) h4)
      | (go_at_call 80
         refine (hL _ _ _ (by (repeat' (first | assumption | with_reducible apply IsInt.alloc | with_reducible apply IsInt.drewn)); first | done | fail) (by (repeat' (first | assumption | with_reducible apply IsInt.alloc | with_reducible apply IsInt.drewn)); first | done | fail)).mono ?_
         rintro e w9 ⟨⟨_, rfl, s3, A3, n3, m3, t3, B3, k3, l3, rfl, hq⟩, h9⟩
         have hX : Below w.heap.size w _ := (hBW.trans (Below.mono (And.left (by assumption)) (Nat.le_of_lt lt0)))
         have hE := hX.trans (h9.mono hX.size)
         have hR9 : RC4 w9 (w.heap.size + 1 + 1) := RC4.below (by (repeat' (first | assumption | with_reducible apply RC4.alloc | with_reducible apply RC4.drewn)); first | done | fail) h9
         obtain ⟨d0, d1, d2, d3, df, dl⟩ := hR9))
  all_goals
    have hP := rat_put' hE (by omega) ⟨d0, d1, d2, d3, df, dl⟩ hq
    go_wp2
    exact bodyPost_ret (v := .agg #[.bool s3, .slice A3 n3 m3, .bool t3, .slice B3 k3 l3]) (by simp [results, Tryz.results49, go_sem, d0, d1, d2, d3]) rfl ⟨⟨_, rfl, RatP.is hP.1⟩, hP.2⟩

end Go.Proofs.YtlklgeidffjidaaGreat

/- Walks of the reference: Valid, Neg, Same of rational numbers; the contracts in plain words (eliminantref02). -/
namespace Go.Proofs.YtlklgeidffjidaaGreat
open Go.RowKit
set_option linter.unusedSimpArgs false

set_option maxHeartbeats 1000000 in
theorem q_valid1 (A B : Option Addr) (n c m d : Nat) (s t : Bool) (w : World)
    (hV1 : ∀ W, Below w.heap.size w W → Calls Tryz.prog 93 #[.agg #[.bool s, .slice A n c]] W fun e w' => e = .returned (.bool false) ∧ Below W.heap.size W w') :
    Calls Tryz.prog 48 #[.agg #[.bool s, .slice A n c, .bool t, .slice B m d]] w fun e w' => e = .returned (.bool false) ∧ Below w.heap.size w w' := by
  go_enter Tryz.func48, Tryz.ntmps48
  go_wp2_with fail
  generalize hW : World.alloc _ _ = W
  have hBW : Below w.heap.size w W := by rw [← hW]; exact (Below.refl _ _).alloc (Nat.le_refl _) _
  have k1 : W.cell? ⟨w.heap.size, 0, none⟩ = some (.bool s) := by rw [← hW]; simp [go_sem]
  have k2 : W.cell? ⟨w.heap.size, 1, none⟩ = some (.slice A n c) := by rw [← hW]; simp [go_sem]
  have k3 : W.cell? ⟨w.heap.size, 2, none⟩ = some (.bool t) := by rw [← hW]; simp [go_sem]
  have k4 : W.cell? ⟨w.heap.size, 3, none⟩ = some (.slice B m d) := by rw [← hW]; simp [go_sem]
  clear hW
  refine (hV1 _ hBW).mono ?_
  rintro e w1 ⟨rfl, hb⟩
  have hBW := hBW.trans (hb.mono hBW.size)
  have k1 := cell_below k1 hb
  have k2 := cell_below k2 hb
  have k3 := cell_below k3 hb
  have k4 := cell_below k4 hb
  clear hb
  go_wp2
  go_ret
  exact ⟨rfl, hBW⟩

set_option maxHeartbeats 1000000 in
theorem q_valid2 (A B : Option Addr) (n c m d : Nat) (s t : Bool) (w : World)
    (hV1 : ∀ W, Below w.heap.size w W → Calls Tryz.prog 93 #[.agg #[.bool s, .slice A n c]] W fun e w' => e = .returned (.bool true) ∧ Below W.heap.size W w')
    (hV2 : ∀ W, Below w.heap.size w W → Calls Tryz.prog 93 #[.agg #[.bool t, .slice B m d]] W fun e w' => e = .returned (.bool false) ∧ Below W.heap.size W w') :
    Calls Tryz.prog 48 #[.agg #[.bool s, .slice A n c, .bool t, .slice B m d]] w fun e w' => e = .returned (.bool false) ∧ Below w.heap.size w w' := by
  go_enter Tryz.func48, Tryz.ntmps48
  go_wp2_with fail
  generalize hW : World.alloc _ _ = W
  have hBW : Below w.heap.size w W := by rw [← hW]; exact (Below.refl _ _).alloc (Nat.le_refl _) _
  have k1 : W.cell? ⟨w.heap.size, 0, none⟩ = some (.bool s) := by rw [← hW]; simp [go_sem]
  have k2 : W.cell? ⟨w.heap.size, 1, none⟩ = some (.slice A n c) := by rw [← hW]; simp [go_sem]
  have k3 : W.cell? ⟨w.heap.size, 2, none⟩ = some (.bool t) := by rw [← hW]; simp [go_sem]
  have k4 : W.cell? ⟨w.heap.size, 3, none⟩ = some (.slice B m d) := by rw [← hW]; simp [go_sem]
  clear hW
  refine (hV1 _ hBW).mono ?_
  rintro e w1 ⟨rfl, hb⟩
  have hBW := hBW.trans (hb.mono hBW.size)
  have k1 := cell_below k1 hb
  have k2 := cell_below k2 hb
  have k3 := cell_below k3 hb
  have k4 := cell_below k4 hb
  clear hb
  go_wp2_with fail
  refine (hV2 _ hBW).mono ?_
  rintro e w1 ⟨rfl, hb⟩
  have hBW := hBW.trans (hb.mono hBW.size)
  have k1 := cell_below k1 hb
  have k2 := cell_below k2 hb
  have k3 := cell_below k3 hb
  have k4 := cell_below k4 hb
  clear hb
  go_wp2
  go_ret
  exact ⟨rfl, hBW⟩

set_option maxHeartbeats 1000000 in
theorem q_valid3 (A B : Option Addr) (n c m d : Nat) (s t : Bool) (w : World) (cc : Int) (hcc : cc < 1)
    (hV1 : ∀ W, Below w.heap.size w W → Calls Tryz.prog 93 #[.agg #[.bool s, .slice A n c]] W fun e w' => e = .returned (.bool true) ∧ Below W.heap.size W w')
    (hV2 : ∀ W, Below w.heap.size w W → Calls Tryz.prog 93 #[.agg #[.bool t, .slice B m d]] W fun e w' => e = .returned (.bool true) ∧ Below W.heap.size W w')
    (hS2 : ∀ W, Below w.heap.size w W → Calls Tryz.prog 94 #[.agg #[.bool t, .slice B m d]] W fun e w' => e = .returned (.int .i64 cc) ∧ Below W.heap.size W w') :
    Calls Tryz.prog 48 #[.agg #[.bool s, .slice A n c, .bool t, .slice B m d]] w fun e w' => e = .returned (.bool false) ∧ Below w.heap.size w w' := by
  go_enter Tryz.func48, Tryz.ntmps48
  go_wp2_with fail
  generalize hW : World.alloc _ _ = W
  have hBW : Below w.heap.size w W := by rw [← hW]; exact (Below.refl _ _).alloc (Nat.le_refl _) _
  have k1 : W.cell? ⟨w.heap.size, 0, none⟩ = some (.bool s) := by rw [← hW]; simp [go_sem]
  have k2 : W.cell? ⟨w.heap.size, 1, none⟩ = some (.slice A n c) := by rw [← hW]; simp [go_sem]
  have k3 : W.cell? ⟨w.heap.size, 2, none⟩ = some (.bool t) := by rw [← hW]; simp [go_sem]
  have k4 : W.cell? ⟨w.heap.size, 3, none⟩ = some (.slice B m d) := by rw [← hW]; simp [go_sem]
  clear hW
  refine (hV1 _ hBW).mono ?_
  rintro e w1 ⟨rfl, hb⟩
  have hBW := hBW.trans (hb.mono hBW.size)
  have k1 := cell_below k1 hb
  have k2 := cell_below k2 hb
  have k3 := cell_below k3 hb
  have k4 := cell_below k4 hb
  clear hb
  go_wp2_with fail
  refine (hV2 _ hBW).mono ?_
  rintro e w1 ⟨rfl, hb⟩
  have hBW := hBW.trans (hb.mono hBW.size)
  have k1 := cell_below k1 hb
  have k2 := cell_below k2 hb
  have k3 := cell_below k3 hb
  have k4 := cell_below k4 hb
  clear hb
  go_wp2_with fail
  refine (hS2 _ hBW).mono ?_
  rintro e w1 ⟨rfl, hb⟩
  have hBW := hBW.trans (hb.mono hBW.size)
  have k1 := cell_below k1 hb
  have k2 := cell_below k2 hb
  have k3 := cell_below k3 hb
  have k4 := cell_below k4 hb
  clear hb
  go_wp2
  go_ret
  exact ⟨rfl, hBW⟩

set_option maxHeartbeats 1000000 in
theorem q_valid4 (A B : Option Addr) (n c m d : Nat) (s t : Bool) (w : World) (cc dd G one : Int) (hcc : ¬ cc < 1)
    (hV1 : ∀ W, Below w.heap.size w W → Calls Tryz.prog 93 #[.agg #[.bool s, .slice A n c]] W fun e w' => e = .returned (.bool true) ∧ Below W.heap.size W w')
    (hV2 : ∀ W, Below w.heap.size w W → Calls Tryz.prog 93 #[.agg #[.bool t, .slice B m d]] W fun e w' => e = .returned (.bool true) ∧ Below W.heap.size W w')
    (hS2 : ∀ W, Below w.heap.size w W → Calls Tryz.prog 94 #[.agg #[.bool t, .slice B m d]] W fun e w' => e = .returned (.int .i64 cc) ∧ Below W.heap.size W w')
    (hG : ∀ W, Below w.heap.size w W → Calls Tryz.prog 96 #[.agg #[.bool s, .slice A n c], .agg #[.bool t, .slice B m d]] W fun e w' => (∃ v, e = .returned v ∧ IsInt w' v G) ∧ Below W.heap.size W w')
    (hO : ∀ W, Calls Tryz.prog 67 #[.int .i64 1] W fun e w' => (∃ v, e = .returned v ∧ IsInt w' v one) ∧ Below W.heap.size W w')
    (hC : ∀ W u v, IsInt W u G → IsInt W v one → Calls Tryz.prog 95 #[u, v] W fun e w' => e = .returned (.int .i64 dd) ∧ Below W.heap.size W w') :
    Calls Tryz.prog 48 #[.agg #[.bool s, .slice A n c, .bool t, .slice B m d]] w fun e w' => e = .returned (.bool (decide (dd = 0))) ∧ Below w.heap.size w w' := by
  go_enter Tryz.func48, Tryz.ntmps48
  go_wp2_with fail
  generalize hW : World.alloc _ _ = W
  have hBW : Below w.heap.size w W := by rw [← hW]; exact (Below.refl _ _).alloc (Nat.le_refl _) _
  have k1 : W.cell? ⟨w.heap.size, 0, none⟩ = some (.bool s) := by rw [← hW]; simp [go_sem]
  have k2 : W.cell? ⟨w.heap.size, 1, none⟩ = some (.slice A n c) := by rw [← hW]; simp [go_sem]
  have k3 : W.cell? ⟨w.heap.size, 2, none⟩ = some (.bool t) := by rw [← hW]; simp [go_sem]
  have k4 : W.cell? ⟨w.heap.size, 3, none⟩ = some (.slice B m d) := by rw [← hW]; simp [go_sem]
  clear hW
  refine (hV1 _ hBW).mono ?_
  rintro e w1 ⟨rfl, hb⟩
  have hBW := hBW.trans (hb.mono hBW.size)
  have k1 := cell_below k1 hb
  have k2 := cell_below k2 hb
  have k3 := cell_below k3 hb
  have k4 := cell_below k4 hb
  clear hb
  go_wp2_with fail
  refine (hV2 _ hBW).mono ?_
  rintro e w1 ⟨rfl, hb⟩
  have hBW := hBW.trans (hb.mono hBW.size)
  have k1 := cell_below k1 hb
  have k2 := cell_below k2 hb
  have k3 := cell_below k3 hb
  have k4 := cell_below k4 hb
  clear hb
  go_wp2_with fail
  refine (hS2 _ hBW).mono ?_
  rintro e w1 ⟨rfl, hb⟩
  have hBW := hBW.trans (hb.mono hBW.size)
  have k1 := cell_below k1 hb
  have k2 := cell_below k2 hb
  have k3 := cell_below k3 hb
  have k4 := cell_below k4 hb
  clear hb
  go_wp2_with fail
  refine (hG _ hBW).mono ?_
  rintro e w1 ⟨⟨v1, rfl, q1⟩, hb⟩
  have hBW := hBW.trans (hb.mono hBW.size)
  have k1 := cell_below k1 hb
  have k2 := cell_below k2 hb
  have k3 := cell_below k3 hb
  have k4 := cell_below k4 hb
  clear hb
  go_wp2_with fail
  refine (hO _).mono ?_
  rintro e w1 ⟨⟨v2, rfl, q2⟩, hb⟩
  have hBW := hBW.trans (hb.mono hBW.size)
  have k1 := cell_below k1 hb
  have k2 := cell_below k2 hb
  have k3 := cell_below k3 hb
  have k4 := cell_below k4 hb
  have q1 := q1.below hb
  clear hb
  go_wp2_with fail
  refine (hC _ _ _ q1 q2).mono ?_
  rintro e w1 ⟨rfl, hb⟩
  have hBW := hBW.trans (hb.mono hBW.size)
  have k1 := cell_below k1 hb
  have k2 := cell_below k2 hb
  have k3 := cell_below k3 hb
  have k4 := cell_below k4 hb
  clear hb
  go_wp2
  go_ret
  refine ⟨congrArg (fun b => Ending.returned (.bool b)) ?_, hBW⟩
  rw [Bool.eq_iff_iff]; simp

theorem q_valid (A B : Option Addr) (n c m d : Nat) (s t : Bool) (xs ys : List Nat) (w : World) (hx : Ws w A xs) (hy : Ws w B ys) (hn : n = xs.length) (hm : m = ys.length) (hc : n ≤ c) (hd : m ≤ d) (hlx : xs.length ≤ 1099511627775) (hly : ys.length ≤ 1099511627775) :
    Calls Tryz.prog 48 #[.agg #[.bool s, .slice A n c, .bool t, .slice B m d]] w fun e w' => e = .returned (.bool (rvalid s xs t ys)) ∧ Below w.heap.size w w' := by
  have hV1 := fun W (hW : Below w.heap.size w W) => ref_valid A c n s xs W (hx.below hW) hn
  have hV2 := fun W (hW : Below w.heap.size w W) => ref_valid B d m t ys W (hy.below hW) hm
  by_cases h1 : ivalid s xs = true
  · by_cases h2 : ivalid t ys = true
    · rw [h1] at hV1
      rw [h2] at hV2
      have i1 := ivalid_is hx hn hc h1
      have i2 := ivalid_is hy hm hd h2
      have e1 : (sgn s (val xs)).natAbs = val xs := by unfold sgn; split <;> simp
      have e2 : (sgn t (val ys)).natAbs = val ys := by unfold sgn; split <;> simp
      have hS2 := fun W (hW : Below w.heap.size w W) => ref_sign _ _ W (i2.below hW).is
      by_cases h3 : 0 < sgn t (val ys)
      · have hz1 : isz (sgn s (val xs)) ≤ 1099511627775 := by unfold isz sz; rw [e1]; exact Nat.le_trans (words_val_length_le hx.digs) hlx
        have hz2 : isz (sgn t (val ys)) ≤ 1099511627775 := by unfold isz sz; rw [e2]; exact Nat.le_trans (words_val_length_le hy.digs) hly
        have h := q_valid4 A B n c m d s t w _ _ _ 1 (by unfold cmpI; split <;> first | omega | (split <;> omega)) hV1 hV2 hS2 (fun W hW => ref_gcd _ _ _ _ W (i1.below hW).is (i2.below hW).is hz1 hz2) (fun W => ref_of 1 W (by omega) (by omega)) (fun W u v hu hv => ref_cmp u v _ _ W hu hv)
        have e : decide (cmpI ((Nat.gcd (sgn s (val xs)).natAbs (sgn t (val ys)).natAbs : Nat) : Int) 1 = 0) = rvalid s xs t ys := by
          rw [e1, e2]
          unfold rvalid
          rw [h1, h2, decide_eq_true h3, Bool.true_and, Bool.true_and, Bool.true_and, Bool.eq_iff_iff]
          simp only [decide_eq_true_eq]
          unfold cmpI
          constructor <;> intro h
          · split at h <;> (try split at h) <;> omega
          · split <;> (try split) <;> omega
        rw [e] at h
        exact h
      · have e : rvalid s xs t ys = false := by unfold rvalid; rw [decide_eq_false h3]; simp
        rw [e]
        exact q_valid3 A B n c m d s t w _ (by unfold cmpI; split <;> first | omega | (split <;> omega)) hV1 hV2 hS2
    · have h2 : ivalid t ys = false := by simpa using h2
      rw [h1] at hV1
      rw [h2] at hV2
      have e : rvalid s xs t ys = false := by unfold rvalid; rw [h2]; simp
      rw [e]
      exact q_valid2 A B n c m d s t w hV1 hV2
  · have h1 : ivalid s xs = false := by simpa using h1
    rw [h1] at hV1
    have e : rvalid s xs t ys = false := by unfold rvalid; rw [h1]; simp
    rw [e]
    exact q_valid1 A B n c m d s t w hV1


set_option maxRecDepth 100000 in
set_option maxHeartbeats 1000000 in
theorem q_neg_aux (u : Value) (a : Rat) (x y : Int) (w : World) (hu : IsRat w u a) (hx : isz a.num ≤ 1099511627776) (hxx : -a.num = x) (hyy : (a.den : Int) = y) :
    Calls Tryz.prog 52 #[u] w fun e w' => (∃ v, e = .returned v ∧ IsPair w' v x y) ∧ Below w.heap.size w w' := by
  obtain ⟨s, A, n, c, s', A', n', c', rfl, ha1, ha2⟩ := hu
  rw [hyy] at ha2
  have hN := fun W (hW : Below w.heap.size w W) => ref_neg _ a.num W (ha1.below hW).is hx
  rw [hxx] at hN
  go_enter Tryz.func52, Tryz.ntmps52
  go_wp2_with fail
  generalize hW : World.alloc _ _ = W
  have hBW : Below w.heap.size w W := by rw [← hW]; exact ((Below.refl _ _).alloc (Nat.le_refl _) _).alloc (by simp) _
  have a0 : W.cell? ⟨w.heap.size, 0, none⟩ = some (.bool s) := by rw [← hW]; simp [go_sem]
  have a1 : W.cell? ⟨w.heap.size, 1, none⟩ = some (.slice A n c) := by rw [← hW]; simp [go_sem]
  have a2 : W.cell? ⟨w.heap.size, 2, none⟩ = some (.bool s') := by rw [← hW]; simp [go_sem]
  have a3 : W.cell? ⟨w.heap.size, 3, none⟩ = some (.slice A' n' c') := by rw [← hW]; simp [go_sem]
  have hR : RC4 W (w.heap.size + 1) := by rw [← hW]; exact ⟨by simp [go_sem], by simp [go_sem], by simp [go_sem], by simp [go_sem], by simp [go_sem], by simp⟩
  have hz : w.heap.size + 1 ≤ W.heap.size := by rw [← hW]; simp
  have hge : w.heap.size + 1 ≤ w.heap.size + 1 := Nat.le_refl _
  have lt0 : w.heap.size < w.heap.size + 1 := by omega
  clear hW
  go_region_held3 (fun w' => Below (w.heap.size + 1) W w' ∧ w'.cell? ⟨w.heap.size, 0, none⟩ = some (.bool s) ∧ w'.cell? ⟨w.heap.size, 1, none⟩ = some (.slice A n c) ∧ w'.cell? ⟨w.heap.size, 2, none⟩ = some (.bool s') ∧ w'.cell? ⟨w.heap.size, 3, none⟩ = some (.slice A' n' c'))
    (((try dsimp only); first | with_reducible exact keepD4 hz (by assumption) | with_reducible exact keepA4 hz (by assumption) | with_reducible exact keepC4 hz (by assumption) (by assumption) | with_reducible exact keepT4 (below_set4 hge _ _ _ _ _ _ _ _) lt0 lt0 lt0 lt0 (by assumption) | exact ⟨below_drew' _, a0, a1, a2, a3⟩))
    (first
      | (go_at_call 97
         refine (hN _ (hBW.trans (Below.mono (And.left (by assumption)) (Nat.le_of_lt lt0)))).mono ?_
         rintro e w1 ⟨⟨_, rfl, s2, A2, n2, c2, rfl, hI⟩, h1⟩
         have hX : Below w.heap.size w _ := (hBW.trans (Below.mono (And.left (by assumption)) (Nat.le_of_lt lt0)))
         have hE := hX.trans (h1.mono hX.size)
         have hR1 : RC4 w1 (w.heap.size + 1) := RC4.below (by (repeat' (first | assumption | with_reducible apply RC4.alloc | with_reducible apply RC4.drewn)); first | done | fail) h1
         obtain ⟨d0, d1, d2, d3, df, dl⟩ := hR1))
  all_goals
    have hP := rat_put hE (by omega) ⟨d0, d1, d2, d3, df, dl⟩ hI (ha2.below hE)
    go_wp2
    exact bodyPost_ret (v := .agg #[.bool s2, .slice A2 n2 c2, .bool s', .slice A' n' c']) (by simp [results, Tryz.results52, go_sem, d0, d1, d2, d3]) rfl ⟨⟨_, rfl, _, _, _, _, _, _, _, _, rfl, hP.1⟩, hP.2⟩

theorem q_Mul (u v : Value) (a b : Rat) (w : World) (hu : IsRat w u a) (hv : IsRat w v b) (hsa : rsz a ≤ 68719476736) (hsb : rsz b ≤ 68719476736) :
    Calls Tryz.prog 50 #[u, v] w fun e w' => (∃ v, e = .returned v ∧ IsRat w' v (a * b)) ∧ Below w.heap.size w w' := by
  have h1 := rsz_num a; have h2 := rsz_num b; have h3 := rsz_den a; have h4 := rsz_den b
  have h5 := isz_mul a.num b.num
  have h6 := isz_mul a.den b.den
  have h7 : isz (a.den : Int) = sz a.den := isz_nat _
  have h8 : isz (b.den : Int) = sz b.den := isz_nat _
  refine q_mul_aux u v a b (a * b) w hu hv hsa hsb (fun W u v hu hv => ?_)
  have := q_lowest u v _ _ W hu hv (by omega) (by omega) (Int.mul_ne_zero (den_ne a) (den_ne b))
  rw [← rat_mul] at this
  exact this
theorem q_Add (u v : Value) (a b : Rat) (w : World) (hu : IsRat w u a) (hv : IsRat w v b) (hsa : rsz a ≤ 68719476736) (hsb : rsz b ≤ 68719476736) :
    Calls Tryz.prog 49 #[u, v] w fun e w' => (∃ v, e = .returned v ∧ IsRat w' v (a + b)) ∧ Below w.heap.size w w' := by
  have h1 := rsz_num a; have h2 := rsz_num b; have h3 := rsz_den a; have h4 := rsz_den b
  have h5 := isz_mul a.num b.den
  have h5' := isz_mul b.num a.den
  have h6 := isz_mul a.den b.den
  have h7 : isz (a.den : Int) = sz a.den := isz_nat _
  have h8 : isz (b.den : Int) = sz b.den := isz_nat _
  have h9 := isz_add (a.num * b.den) (b.num * a.den)
  refine q_add_aux u v a b (a + b) w hu hv hsa hsb (fun W u v hu hv => ?_)
  have := q_lowest u v _ _ W hu hv (by omega) (by omega) (Int.mul_ne_zero (den_ne a) (den_ne b))
  rw [← rat_add] at this
  exact this
theorem q_Div (u v : Value) (a b : Rat) (w : World) (hu : IsRat w u a) (hv : IsRat w v b) (hsa : rsz a ≤ 68719476736) (hsb : rsz b ≤ 68719476736) (hb : b ≠ 0) :
    Calls Tryz.prog 81 #[u, v] w fun e w' => (∃ v, e = .returned (.tuple #[v, .int .i64 0]) ∧ IsRat w' v (a / b)) ∧ Below w.heap.size w w' := by
  have h1 := rsz_num a; have h2 := rsz_num b; have h3 := rsz_den a; have h4 := rsz_den b
  have h5 := isz_mul a.num b.den
  have h6 := isz_mul a.den b.num
  have h7 : isz (a.den : Int) = sz a.den := isz_nat _
  have h8 : isz (b.den : Int) = sz b.den := isz_nat _
  refine q_div_aux u v a b (a / b) w hu hv hsa hsb (fun W u v hu hv => ?_)
  have := q_new u v _ _ W hu hv (by omega) (by omega) (Int.mul_ne_zero (den_ne a) (num_ne hb))
  rw [← rat_div] at this
  exact this
theorem q_Inv (u : Value) (a : Rat) (w : World) (hu : IsRat w u a) (hsa : rsz a ≤ 68719476736) (ha : a ≠ 0) :
    Calls Tryz.prog 83 #[u] w fun e w' => (∃ v, e = .returned (.tuple #[v, .int .i64 0]) ∧ IsRat w' v a⁻¹) ∧ Below w.heap.size w w' := by
  have h1 := rsz_num a; have h3 := rsz_den a
  have h7 : isz (a.den : Int) = sz a.den := isz_nat _
  refine q_inv_aux u a a⁻¹ w hu (fun W u v hu hv => ?_)
  have := q_new u v _ _ W hu hv (by omega) (by omega) (num_ne ha)
  rw [← rat_inv] at this
  exact this
theorem q_Neg (u : Value) (a : Rat) (w : World) (hu : IsRat w u a) (hsa : rsz a ≤ 68719476736) :
    Calls Tryz.prog 52 #[u] w fun e w' => (∃ v, e = .returned v ∧ IsRat w' v (-a)) ∧ Below w.heap.size w w' := by
  have h1 := rsz_num a
  refine (q_neg_aux u a (-a.num) (a.den : Int) w hu (by omega) rfl rfl).mono ?_
  rintro e w1 ⟨⟨v, rfl, s, A, n, c, t, B, m, d, rfl, k1, k2⟩, hb⟩
  refine ⟨⟨_, rfl, RatP.is ⟨?_, ?_⟩⟩, hb⟩
  · rw [Rat.neg_num]; exact k1
  · rw [Rat.neg_den]; exact k2

end Go.Proofs.YtlklgeidffjidaaGreat
